import PyProof.Rows.All
import HandS.ForMost
import HandS.ForExc
import HandS.IsInst
import HandS.TupAny
import HandS.TupMul
import HandS.Zip
import HandS.Walk
import HandS.Style
import HandS.Wide
import HandS.SortInts
import HandS.RaiseMore
import HandS.Deep
import PyProof.MinMaxWalk
import HandS.Conv
import HandS.More
import HandS.SetFor
import HandS.Strs
import KE.GoesMore
import PyProof.EnumMake
import PyProof.EnumFor
import HandS.Small
import PySem.Challenge.RW_timberyard_k57_whole_moves_on_wagons
set_option Elab.async false
set_option linter.all false
set_option maxRecDepth 100000
set_option autoImplicit false
/-! A pure reading of the programs' Python: values are data, a local list is held by one name alone, one cell of two ints is shared. -/
namespace Ev
open PySem PySem.Spec PyProof.Rows L2

abbrev D := PyData
/-- what a slot holds: data (no part of it is changed any more), a list or dict of one's own, the cell -/
inductive SV where
  | val (d : D) | own (d : D) | cell
abbrev Cel := Option (Int × Int)
abbrev Env := List (Option SV)
structure Xn where
  name : Str
  args : List D
inductive R (α : Type) where
  | ok (a : α) (e : Env) (c : Cel) | ex (x : Xn) (e : Env) (c : Cel) | bad
abbrev M (α : Type) := Env → Cel → R α
def mBind {α β : Type} (m : M α) (k : α → M β) : M β := fun e c => match m e c with
  | .ok a e' c' => k a e' c'
  | .ex x e' c' => .ex x e' c'
  | .bad => .bad

/-- the ghost: which lists are never changed again, where the cell stands -/
structure Gh where
  fz : Addr → Prop
  cA : Option Addr
def Gh.add (g : Gh) (a : Addr) : Gh := ⟨fun b => b = a ∨ g.fz b, g.cA⟩

def keyD : Key → D
  | .inl i => .int i
  | .inr x => .str x

def LstOk (F : Addr → Prop) (H : Hp) (a : Addr) (xs : List V) : Prop := (H a = some (.lst xs) ∧ F a) ∨ (∃ o, H a = some (.frz o (.lst xs)))
theorem LstOk.rd {F : Addr → Prop} {H : Hp} {a : Addr} {xs : List V} (h : LstOk F H a xs) : Rd H a (.lst xs) := h.imp (·.1) id
theorem LstOk.seq {K : PySem.W.Frag} {F : Addr → Prop} {H : Hp} {a : Addr} {xs : List V} (h : LstOk F H a xs) : SqL K H a xs := .inl h.rd

mutual
inductive Rep (K : PySem.W.Frag) (F : Addr → Prop) (H : Hp) : V → D → Prop
  | non : Rep K F H .non .none
  | bl (b : Bool) : Rep K F H (.bl b) (.bool b)
  | int (i : Int) : Rep K F H (.int i) (.int i)
  | str (x : Str) : Rep K F H (.str x) (.str x)
  | lst {a : Addr} {xs : List V} {ds : List D} : LstOk F H a xs → RepL K F H xs ds → Rep K F H (.ref a) (.list ds)
  | tup {a : Addr} {xs : List V} {ds : List D} : SqT K H a xs → RepL K F H xs ds → Rep K F H (.ref a) (.tuple ds)
  | dK {a : Addr} {xs : List (Key × V)} {ds : List (D × D)} : H a = some (.dK xs) → F a → RepK K F H xs ds → Rep K F H (.ref a) (.dict ds)
  | dT {a : Addr} {xs : List (List Key × V)} {ds : List (D × D)} : H a = some (.dT xs) → F a → RepT K F H xs ds → Rep K F H (.ref a) (.dict ds)
inductive RepL (K : PySem.W.Frag) (F : Addr → Prop) (H : Hp) : List V → List D → Prop
  | nil : RepL K F H [] []
  | cons {v : V} {vs : List V} {d : D} {ds : List D} : Rep K F H v d → RepL K F H vs ds → RepL K F H (v :: vs) (d :: ds)
inductive RepK (K : PySem.W.Frag) (F : Addr → Prop) (H : Hp) : List (Key × V) → List (D × D) → Prop
  | nil : RepK K F H [] []
  | cons {k : Key} {v : V} {vs : List (Key × V)} {d : D} {ds : List (D × D)} : Rep K F H v d → RepK K F H vs ds → RepK K F H ((k, v) :: vs) ((keyD k, d) :: ds)
inductive RepT (K : PySem.W.Frag) (F : Addr → Prop) (H : Hp) : List (List Key × V) → List (D × D) → Prop
  | cons {k : List Key} {v : V} {vs : List (List Key × V)} {d : D} {ds : List (D × D)} : Rep K F H v d → RepT K F H vs ds → RepT K F H ((k, v) :: vs) ((.tuple (k.map keyD), d) :: ds)
end

def Imm : HO → Prop
  | .tup _ => True
  | .frz _ _ => True
  | _ => False
structure Ext (p : Addr → Prop) (g : Gh) (H : Hp) (g' : Gh) (H' : Hp) : Prop where
  keep3 : ∀ a o, H a = some o → (Imm o ∨ g.fz a ∨ p a) → H' a = some o
  fz : ∀ a, g.fz a → g'.fz a
  cA : ∀ c, g.cA = some c → g'.cA = some c
theorem Ext.keep {p : Addr → Prop} {g g' : Gh} {H H' : Hp} (x : Ext p g H g' H') : ∀ a o, H a = some o → (Imm o ∨ g.fz a) → H' a = some o := fun a o h q => x.keep3 a o h (q.imp id .inl)
theorem Ext.refl {p : Addr → Prop} (g : Gh) (H : Hp) : Ext p g H g H := ⟨fun _ _ h _ => h, fun _ h => h, fun _ h => h⟩
theorem Ext.trans {p : Addr → Prop} {g1 g2 g3 : Gh} {H1 H2 H3 : Hp} (a : Ext p g1 H1 g2 H2) (b : Ext p g2 H2 g3 H3) : Ext p g1 H1 g3 H3 :=
  ⟨fun x o h q => b.keep3 x o (a.keep3 x o h q) (q.imp id (Or.imp (a.fz x) id)), fun x h => b.fz x (a.fz x h), fun x h => b.cA x (a.cA x h)⟩
theorem Ext.same {p : Addr → Prop} {g : Gh} {H H' : Hp} (s : Same H H') : Ext p g H g H' := ⟨fun a o h _ => s a o h, fun _ h => h, fun _ h => h⟩
theorem Ext.less {p p' : Addr → Prop} {g g' : Gh} {H H' : Hp} (x : Ext p g H g' H') (h : ∀ a, p' a → p a) : Ext p' g H g' H' := ⟨fun a o e q => x.keep3 a o e (q.imp id (Or.imp id (h a))), x.fz, x.cA⟩

theorem SqT.ext {K : PySem.W.Frag} {H H' : Hp} {a : Addr} {xs : List V} (h : SqT K H a xs) (k : ∀ a o, H a = some o → Imm o → H' a = some o) : SqT K H' a xs := by
  rcases h with (h | ⟨o, h⟩) | h
  · exact .inl (.inl (k _ _ h True.intro))
  · exact .inl (.inr ⟨o, k _ _ h True.intro⟩)
  · exact .inr h
section
variable {K : PySem.W.Frag} {F F' : Addr → Prop} {H H' : Hp}
theorem LstOk.ext {a : Addr} {xs : List V} (h : LstOk F H a xs) (k : ∀ a o, H a = some o → (Imm o ∨ F a) → H' a = some o) (f : ∀ a, F a → F' a) : LstOk F' H' a xs := by
  rcases h with h | ⟨o, h⟩
  · exact .inl ⟨k _ _ h.1 (.inr h.2), f _ h.2⟩
  · exact .inr ⟨o, k _ _ h (.inl True.intro)⟩
mutual
theorem Rep.ext (k : ∀ a o, H a = some o → (Imm o ∨ F a) → H' a = some o) (f : ∀ a, F a → F' a) : ∀ {v : V} {d : D}, Rep K F H v d → Rep K F' H' v d
  | _, _, .non => .non
  | _, _, .bl b => .bl b
  | _, _, .int i => .int i
  | _, _, .str x => .str x
  | _, _, .lst h r => .lst (h.ext k f) (RepL.ext k f r)
  | _, _, .tup h r => .tup (SqT.ext h fun a o q i => k a o q (.inl i)) (RepL.ext k f r)
  | _, _, .dK h q r => .dK (k _ _ h (.inr q)) (f _ q) (RepK.ext k f r)
  | _, _, .dT h q r => .dT (k _ _ h (.inr q)) (f _ q) (RepT.ext k f r)
theorem RepL.ext (k : ∀ a o, H a = some o → (Imm o ∨ F a) → H' a = some o) (f : ∀ a, F a → F' a) : ∀ {v : List V} {d : List D}, RepL K F H v d → RepL K F' H' v d
  | _, _, .nil => .nil
  | _, _, .cons h r => .cons (Rep.ext k f h) (RepL.ext k f r)
theorem RepK.ext (k : ∀ a o, H a = some o → (Imm o ∨ F a) → H' a = some o) (f : ∀ a, F a → F' a) : ∀ {v : List (Key × V)} {d : List (D × D)}, RepK K F H v d → RepK K F' H' v d
  | _, _, .nil => .nil
  | _, _, .cons h r => .cons (Rep.ext k f h) (RepK.ext k f r)
theorem RepT.ext (k : ∀ a o, H a = some o → (Imm o ∨ F a) → H' a = some o) (f : ∀ a, F a → F' a) : ∀ {v : List (List Key × V)} {d : List (D × D)}, RepT K F H v d → RepT K F' H' v d
  | _, _, .cons h r => .cons (Rep.ext k f h) (RepT.ext k f r)
end
theorem RepT.no : ∀ {xs : List (List Key × V)} {ds : List (D × D)}, RepT K F H xs ds → False
  | _, _, .cons _ r => RepT.no r
theorem RepK.length : ∀ {xs : List (Key × V)} {ds : List (D × D)}, RepK K F H xs ds → xs.length = ds.length
  | _, _, .nil => rfl
  | _, _, .cons _ r => congrArg (· + 1) r.length
theorem RepL.length : ∀ {xs : List V} {ds : List D}, RepL K F H xs ds → xs.length = ds.length
  | _, _, .nil => rfl
  | _, _, .cons _ r => congrArg (· + 1) r.length
theorem RepL.get : ∀ {xs : List V} {ds : List D} {i : Nat} {v : V}, RepL K F H xs ds → xs[i]? = some v → ∃ d, ds[i]? = some d ∧ Rep K F H v d
  | _, _, _, _, .nil, e => by simp at e
  | _, _, 0, _, .cons h _, e => by simp at e; subst e; exact ⟨_, rfl, h⟩
  | _, _, i + 1, _, .cons _ r, e => RepL.get (i := i) r (by simpa using e)
theorem RepL.get' : ∀ {xs : List V} {ds : List D} {i : Nat} {d : D}, RepL K F H xs ds → ds[i]? = some d → ∃ v, xs[i]? = some v ∧ Rep K F H v d
  | _, _, _, _, .nil, e => by simp at e
  | _, _, 0, _, .cons h _, e => by simp at e; subst e; exact ⟨_, rfl, h⟩
  | _, _, i + 1, _, .cons _ r, e => RepL.get' (i := i) r (by simpa using e)
theorem RepL.append : ∀ {xs ys : List V} {ds es : List D}, RepL K F H xs ds → RepL K F H ys es → RepL K F H (xs ++ ys) (ds ++ es)
  | _, _, _, _, .nil, s => s
  | _, _, _, _, .cons h r, s => .cons h (RepL.append r s)
theorem RepL.take : ∀ {xs : List V} {ds : List D} (n : Nat), RepL K F H xs ds → RepL K F H (xs.take n) (ds.take n)
  | _, _, 0, _ => .nil
  | _, _, _ + 1, .nil => .nil
  | _, _, n + 1, .cons h r => .cons h (RepL.take n r)
theorem RepL.drop : ∀ {xs : List V} {ds : List D} (n : Nat), RepL K F H xs ds → RepL K F H (xs.drop n) (ds.drop n)
  | _, _, 0, r => r
  | _, _, _ + 1, .nil => .nil
  | _, _, n + 1, .cons _ r => RepL.drop n r
theorem RepL.set {v : V} {d : D} (h : Rep K F H v d) : ∀ {xs : List V} {ds : List D} (n : Nat), RepL K F H xs ds → RepL K F H (xs.set n v) (ds.set n d)
  | _, _, _, .nil => .nil
  | _, _, 0, .cons _ r => .cons h r
  | _, _, n + 1, .cons q r => .cons q (RepL.set h n r)
/-- what a list or dict of one's own holds -/
def Cont (K : PySem.W.Frag) (F : Addr → Prop) (H : Hp) (a : Addr) : D → Prop
  | .list ds => ∃ xs, H a = some (.lst xs) ∧ RepL K F H xs ds
  | .dict ds => (∃ xs, H a = some (.dK xs) ∧ RepK K F H xs ds) ∨ (∃ xs, H a = some (.dT xs) ∧ RepT K F H xs ds)
  | _ => False
theorem Cont.ext {a : Addr} {d : D} (c : Cont K F H a d) (k : ∀ a o, H a = some o → (Imm o ∨ F a) → H' a = some o) (f : ∀ a, F a → F' a) (ka : ∀ o, H a = some o → H' a = some o) : Cont K F' H' a d := by
  cases d with
  | list ds => obtain ⟨xs, h, r⟩ := c; exact ⟨xs, ka _ h, r.ext k f⟩
  | dict ds =>
    rcases c with ⟨xs, h, r⟩ | ⟨xs, h, r⟩
    · exact .inl ⟨xs, ka _ h, r.ext k f⟩
    · exact .inr ⟨xs, ka _ h, r.ext k f⟩
  | _ => exact c
theorem Cont.obj {a : Addr} {d : D} (c : Cont K F H a d) : ∃ o, H a = some o := by
  cases d with
  | list ds => obtain ⟨xs, h, r⟩ := c; exact ⟨_, h⟩
  | dict ds =>
    rcases c with ⟨xs, h, r⟩ | ⟨xs, h, r⟩
    · exact ⟨_, h⟩
    · exact ⟨_, h⟩
  | _ => exact c.elim
theorem Cont.mut {a : Addr} {d : D} (c : Cont K F H a d) : ∃ o, H a = some o ∧ ¬ Imm o := by
  cases d with
  | list ds => obtain ⟨xs, h, r⟩ := c; exact ⟨_, h, fun z => z⟩
  | dict ds =>
    rcases c with ⟨xs, h, r⟩ | ⟨xs, h, r⟩
    · exact ⟨_, h, fun z => z⟩
    · exact ⟨_, h, fun z => z⟩
  | _ => exact c.elim
theorem Cont.rep {a : Addr} {d : D} (c : Cont K F H a d) (fa : F a) : Rep K F H (.ref a) d := by
  cases d with
  | list ds => obtain ⟨xs, h, r⟩ := c; exact .lst (.inl ⟨h, fa⟩) r
  | dict ds =>
    rcases c with ⟨xs, h, r⟩ | ⟨xs, h, r⟩
    · exact .dK h fa r
    · exact .dT h fa r
  | _ => exact c.elim
end

/-! ### the state of a def that runs -/
def CelOk (g : Gh) (H : Hp) : Cel → Prop
  | some (x, y) => ∃ a, g.cA = some a ∧ H a = some (.lst [.int x, .int y]) ∧ ¬ g.fz a
  | none => g.cA = none
def Alloc (g : Gh) (H : Hp) : Prop := ∀ a, g.fz a → ∃ o, H a = some o
/-- what a call leaves as it was -/
structure Frm (g : Gh) (H : Hp) (g' : Gh) (H' : Hp) : Prop where
  keep : ∀ a o, H a = some o → g.cA ≠ some a → H' a = some o
  fz : ∀ a, g.fz a → g'.fz a
  fzn : ∀ a, g'.fz a → g.fz a ∨ H a = none
  cA : ∀ c, g.cA = some c → g'.cA = some c
  cAn : ∀ c, g'.cA = some c → g.cA = some c ∨ H c = none
theorem Frm.refl (g : Gh) (H : Hp) : Frm g H g H := ⟨fun _ _ h _ => h, fun _ h => h, fun _ h => .inl h, fun _ h => h, fun _ h => .inl h⟩

/-- fixed through one call of a def -/
structure Par where
  K : PySem.W.Frag
  g0 : Gh
  H0 : Hp
  xc : Str → Option Addr
  /-- objects that stand still meanwhile -/
  pin : Addr → Prop

structure OwnAt (q : Par) (g : Gh) (H : Hp) (a : Addr) (d : D) : Prop where
  cont : Cont q.K g.fz H a d
  nfz : ¬ g.fz a
  nc : g.cA ≠ some a
  new : q.H0 a = none
  np : ¬ q.pin a

structure Rel (q : Par) (g : Gh) (H : Hp) (σ : L2.St) (e : Env) (c : Cel) : Prop where
  frm : Frm q.g0 q.H0 g H
  al : Alloc g H
  cel : CelOk g H c
  len : e.length = σ.length
  val : ∀ (i : Nat) (d : D), e[i]? = some (some (.val d)) → ∃ v, σ[i]? = some (some v) ∧ Rep q.K g.fz H v d
  own : ∀ (i : Nat) (d : D), e[i]? = some (some (.own d)) → ∃ a, σ[i]? = some (some (.ref a)) ∧ OwnAt q g H a d
  cll : ∀ (i : Nat), e[i]? = some (some .cell) → ∃ a, g.cA = some a ∧ σ[i]? = some (some (.ref a))
  pin : ∀ a, q.pin a → (∃ o, H a = some o) ∧ ¬ g.fz a ∧ g.cA ≠ some a ∧ q.H0 a = none
  dis : ∀ (i j : Nat) (d d' : D) (a : Addr), e[i]? = some (some (.own d)) → e[j]? = some (some (.own d')) → σ[i]? = some (some (.ref a)) → σ[j]? = some (some (.ref a)) → i = j
/-- a result -/
def ResOk (q : Par) (g : Gh) (H : Hp) (σ : L2.St) (e : Env) (v : V) : SV → Prop
  | .val d => Rep q.K g.fz H v d
  | .own d => ∃ a, v = .ref a ∧ OwnAt q g H a d ∧ ∀ (i : Nat) (d' : D), e[i]? = some (some (.own d')) → σ[i]? ≠ some (some (.ref a))
  | .cell => ∃ a, g.cA = some a ∧ v = .ref a

theorem CelOk.mut {g : Gh} {H : Hp} {c : Cel} (k : CelOk g H c) {a : Addr} (h : g.cA = some a) : ∃ o, H a = some o ∧ ¬ Imm o ∧ ¬ g.fz a := by
  cases c with
  | none => rw [show g.cA = none from k] at h; cases h
  | some p =>
    obtain ⟨x, y⟩ := p
    obtain ⟨b, h1, h2, h3⟩ := k
    rw [h1] at h; cases h
    exact ⟨_, h2, fun z => z, h3⟩
theorem Frm.ext {p : Addr → Prop} {g g' : Gh} {H H' : Hp} {c : Cel} (f : Frm g H g' H') (k : CelOk g H c) (hp : ∀ a, p a → g.cA ≠ some a) : Ext p g H g' H' :=
  ⟨fun a o h q => f.keep a o h fun z => by
    obtain ⟨o', h1, h2, h3⟩ := k.mut z
    rw [h] at h1; cases h1
    rcases q with q | q | q
    · exact h2 q
    · exact h3 q
    · exact hp a q z, f.fz, f.cA⟩
section
variable {q : Par} {g g' : Gh} {H H' : Hp} {σ : L2.St} {e : Env} {c c' : Cel} {a : Addr} {d : D} {i : Nat} {v : V} {sv : SV}
theorem CelOk.same (k : CelOk g H c) (s : Same H H') : CelOk g H' c := by
  cases c with
  | none => exact k
  | some p => obtain ⟨x, y⟩ := p; obtain ⟨b, h1, h2, h3⟩ := k; exact ⟨b, h1, s _ _ h2, h3⟩
theorem OwnAt.ext (o : OwnAt q g H a d) (x : Ext q.pin g H g' H') (ka : ∀ u, H a = some u → H' a = some u) (nf : ¬ g'.fz a) (nc : g'.cA ≠ some a) : OwnAt q g' H' a d :=
  ⟨o.cont.ext x.keep x.fz ka, nf, nc, o.new, o.np⟩
theorem Rel.same (r : Rel q g H σ e c) (s : Same H H') : Rel q g H' σ e c where
  frm := ⟨fun a o h n => s _ _ (r.frm.keep a o h n), r.frm.fz, r.frm.fzn, r.frm.cA, r.frm.cAn⟩
  al := fun a h => let ⟨o, z⟩ := r.al a h; ⟨o, s _ _ z⟩
  cel := r.cel.same s
  len := r.len
  val := fun i d h => let ⟨v, h1, h2⟩ := r.val i d h; ⟨v, h1, h2.ext (Ext.same (p := q.pin) (g := g) s).keep fun _ z => z⟩
  own := fun i d h => let ⟨a, h1, h2⟩ := r.own i d h; ⟨a, h1, h2.ext (Ext.same s) (fun u z => s _ _ z) h2.nfz h2.nc⟩
  cll := r.cll
  pin := fun a h => let ⟨⟨o, h1⟩, h2⟩ := r.pin a h; ⟨⟨o, s _ _ h1⟩, h2⟩
  dis := r.dis
/-- behind a call -/
theorem Rel.call (r : Rel q g H σ e c) (f : Frm g H g' H') (al : Alloc g' H') (k : CelOk g' H' c') : Rel q g' H' σ e c' where
  frm := by
    refine ⟨fun a o h n => ?_, fun a h => f.fz a (r.frm.fz a h), fun a h => ?_, fun a h => f.cA a (r.frm.cA a h), fun a h => ?_⟩
    · refine f.keep a o (r.frm.keep a o h n) fun z => ?_
      rcases r.frm.cAn a z with w | w
      · exact n w
      · rw [h] at w; cases w
    · rcases f.fzn a h with z | z
      · exact r.frm.fzn a z
      · refine .inr ?_
        cases w : q.H0 a with
        | none => rfl
        | some o =>
          by_cases hc : q.g0.cA = some a
          · obtain ⟨o', h1, _⟩ := r.cel.mut (r.frm.cA a hc); rw [z] at h1; cases h1
          · have := r.frm.keep a o w hc; rw [z] at this; cases this
    · rcases f.cAn a h with z | z
      · exact r.frm.cAn a z
      · refine .inr ?_
        cases w : q.H0 a with
        | none => rfl
        | some o =>
          by_cases hc : q.g0.cA = some a
          · obtain ⟨o', h1, _⟩ := r.cel.mut (r.frm.cA a hc); rw [z] at h1; cases h1
          · have := r.frm.keep a o w hc; rw [z] at this; cases this
  al := al
  cel := k
  len := r.len
  val := fun i d h => let ⟨v, h1, h2⟩ := r.val i d h; ⟨v, h1, h2.ext (f.ext r.cel fun a h => (r.pin a h).2.2.1).keep f.fz⟩
  own := fun i d h => by
    obtain ⟨a, h1, h2⟩ := r.own i d h
    obtain ⟨o, ho⟩ := h2.cont.obj
    refine ⟨a, h1, h2.ext (f.ext r.cel fun a h => (r.pin a h).2.2.1) (fun u z => f.keep a u z h2.nc) (fun z => ?_) fun z => ?_⟩
    · rcases f.fzn a z with w | w
      · exact h2.nfz w
      · rw [ho] at w; cases w
    · rcases f.cAn a z with w | w
      · exact h2.nc w
      · rw [ho] at w; cases w
  cll := fun i h => let ⟨a, h1, h2⟩ := r.cll i h; ⟨a, f.cA a h1, h2⟩
  pin := fun a h => by
    obtain ⟨⟨o, h1⟩, h2, h3, h4⟩ := r.pin a h
    refine ⟨⟨o, f.keep a o h1 h3⟩, fun z => ?_, fun z => ?_, h4⟩
    · rcases f.fzn a z with w | w
      · exact h2 w
      · rw [h1] at w; cases w
    · rcases f.cAn a z with w | w
      · exact h3 w
      · rw [h1] at w; cases w
  dis := r.dis
theorem Ext.add {p : Addr → Prop} (g : Gh) (H : Hp) (a : Addr) : Ext p g H (g.add a) H := ⟨fun _ _ h _ => h, fun _ h => .inr h, fun _ h => h⟩
/-- an own list of nobody's slot is frozen -/
theorem Rel.freezeRes (r : Rel q g H σ e c) (h : ResOk q g H σ e v (.own d)) : ∃ g', Rel q g' H σ e c ∧ Ext q.pin g H g' H ∧ Rep q.K g'.fz H v d := by
  obtain ⟨a, rfl, o, n⟩ := h
  refine ⟨g.add a, ?_, Ext.add g H a, ?_⟩
  · refine ⟨⟨r.frm.keep, fun b z => .inr (r.frm.fz b z), fun b z => ?_, r.frm.cA, r.frm.cAn⟩, fun b z => ?_, ?_, r.len, fun i d h => ?_, fun i d h => ?_, r.cll, fun b h => ?_, r.dis⟩
    · rcases z with rfl | z
      · exact .inr o.new
      · exact r.frm.fzn b z
    · rcases z with rfl | z
      · exact o.cont.obj
      · exact r.al b z
    · have k := r.cel
      cases c with
      | none => exact k
      | some p =>
        obtain ⟨x, y⟩ := p
        obtain ⟨b, h1, h2, h3⟩ := k
        refine ⟨b, h1, h2, fun z => ?_⟩
        rcases z with rfl | z
        · exact o.nc h1
        · exact h3 z
    · obtain ⟨v, h1, h2⟩ := r.val i d h
      exact ⟨v, h1, h2.ext (Ext.add (p := q.pin) g H a).keep (Ext.add (p := q.pin) g H a).fz⟩
    · obtain ⟨b, h1, h2⟩ := r.own i d h
      refine ⟨b, h1, h2.ext (Ext.add g H a) (fun _ z => z) (fun z => ?_) h2.nc⟩
      rcases z with rfl | z
      · exact n i d h h1
      · exact h2.nfz z
    · obtain ⟨h1, h2, h3, h4⟩ := r.pin b h
      refine ⟨h1, fun z => ?_, h3, h4⟩
      rcases z with rfl | z
      · exact o.np h
      · exact h2 z
  · exact (o.cont.ext (Ext.add (p := q.pin) g H a).keep (Ext.add (p := q.pin) g H a).fz fun _ z => z).rep (.inl rfl)
/-- a slot's own list is frozen -/
theorem Rel.freeze (r : Rel q g H σ e c) (hi : e[i]? = some (some (.own d))) (hv : σ[i]? = some (some v)) : ∃ g', Rel q g' H σ (e.set i (some (.val d))) c ∧ Ext q.pin g H g' H ∧ Rep q.K g'.fz H v d := by
  obtain ⟨a, h1, o⟩ := r.own i d hi
  rw [hv] at h1; cases h1
  have il : i < e.length := (List.getElem?_eq_some_iff.mp hi).1
  have rep : Rep q.K (g.add a).fz H (.ref a) d := (o.cont.ext (Ext.add (p := q.pin) g H a).keep (Ext.add (p := q.pin) g H a).fz fun _ z => z).rep (.inl rfl)
  refine ⟨g.add a, ?_, Ext.add g H a, rep⟩
  refine ⟨⟨r.frm.keep, fun b z => .inr (r.frm.fz b z), fun b z => ?_, r.frm.cA, r.frm.cAn⟩, fun b z => ?_, ?_, by rw [List.length_set]; exact r.len, fun j d' h => ?_, fun j d' h => ?_, fun j h => ?_, fun b h => ?_, fun j k d1 d2 b h1 h2 => ?_⟩
  · rcases z with rfl | z
    · exact .inr o.new
    · exact r.frm.fzn b z
  · rcases z with rfl | z
    · exact o.cont.obj
    · exact r.al b z
  · have k := r.cel
    cases c with
    | none => exact k
    | some p =>
      obtain ⟨x, y⟩ := p
      obtain ⟨b, h1, h2, h3⟩ := k
      refine ⟨b, h1, h2, fun z => ?_⟩
      rcases z with rfl | z
      · exact o.nc h1
      · exact h3 z
  · by_cases hj : i = j
    · subst hj
      rw [List.getElem?_set_self il] at h; cases h
      exact ⟨_, hv, rep⟩
    · rw [List.getElem?_set_ne hj] at h
      obtain ⟨v, h1, h2⟩ := r.val j d' h
      exact ⟨v, h1, h2.ext (Ext.add (p := q.pin) g H a).keep (Ext.add (p := q.pin) g H a).fz⟩
  · by_cases hj : i = j
    · subst hj
      rw [List.getElem?_set_self il] at h; cases h
    · rw [List.getElem?_set_ne hj] at h
      obtain ⟨b, h1, h2⟩ := r.own j d' h
      refine ⟨b, h1, h2.ext (Ext.add g H a) (fun _ z => z) (fun z => ?_) h2.nc⟩
      rcases z with rfl | z
      · exact hj (r.dis i j d d' b hi h hv h1)
      · exact h2.nfz z
  · by_cases hj : i = j
    · subst hj
      rw [List.getElem?_set_self il] at h; cases h
    · rw [List.getElem?_set_ne hj] at h
      exact r.cll j h
  · obtain ⟨h1, h2, h3, h4⟩ := r.pin b h
    refine ⟨h1, fun z => ?_, h3, h4⟩
    rcases z with rfl | z
    · exact o.np h
    · exact h2 z
  · by_cases hj : i = j
    · subst hj
      rw [List.getElem?_set_self il] at h1; cases h1
    · by_cases hk : i = k
      · subst hk
        rw [List.getElem?_set_self il] at h2; cases h2
      · rw [List.getElem?_set_ne hj] at h1
        rw [List.getElem?_set_ne hk] at h2
        exact r.dis j k d1 d2 b h1 h2
/-- a result goes to a slot -/
theorem Rel.store (r : Rel q g H σ e c) (h : ResOk q g H σ e v sv) (i : Nat) : Rel q g H (σ.set i (some v)) (e.set i (some sv)) c := by
  by_cases il : i < e.length
  · have is : i < σ.length := r.len ▸ il
    refine ⟨r.frm, r.al, r.cel, by rw [List.length_set, List.length_set]; exact r.len, fun j d h1 => ?_, fun j d h1 => ?_, fun j h1 => ?_, r.pin, fun j k d1 d2 b h1 h2 h3 h4 => ?_⟩
    · by_cases hj : i = j
      · subst hj
        rw [List.getElem?_set_self il] at h1; cases h1
        exact ⟨v, List.getElem?_set_self is, h⟩
      · rw [List.getElem?_set_ne hj] at h1
        rw [List.getElem?_set_ne hj]
        exact r.val j d h1
    · by_cases hj : i = j
      · subst hj
        rw [List.getElem?_set_self il] at h1; cases h1
        obtain ⟨a, rfl, o, _⟩ := h
        exact ⟨a, List.getElem?_set_self is, o⟩
      · rw [List.getElem?_set_ne hj] at h1
        rw [List.getElem?_set_ne hj]
        exact r.own j d h1
    · by_cases hj : i = j
      · subst hj
        rw [List.getElem?_set_self il] at h1; cases h1
        obtain ⟨a, o, rfl⟩ := h
        exact ⟨a, o, List.getElem?_set_self is⟩
      · rw [List.getElem?_set_ne hj] at h1
        rw [List.getElem?_set_ne hj]
        exact r.cll j h1
    · by_cases hj : i = j
      · subst hj
        by_cases hk : i = k
        · exact hk
        · rw [List.getElem?_set_self il] at h1; cases h1
          rw [List.getElem?_set_ne hk] at h2 h4
          rw [List.getElem?_set_self is] at h3; cases h3
          obtain ⟨a, e1, o, n⟩ := h
          cases e1
          exact absurd h4 (n k d2 h2)
      · rw [List.getElem?_set_ne hj] at h1 h3
        by_cases hk : i = k
        · subst hk
          rw [List.getElem?_set_self il] at h2; cases h2
          rw [List.getElem?_set_self is] at h4; cases h4
          obtain ⟨a, e1, o, n⟩ := h
          cases e1
          exact absurd h3 (n j d1 h1)
        · rw [List.getElem?_set_ne hk] at h2 h4
          exact r.dis j k d1 d2 b h1 h2 h3 h4
  · rw [List.set_eq_of_length_le (Nat.le_of_not_lt (r.len ▸ il)), List.set_eq_of_length_le (Nat.le_of_not_lt il)]
    exact r
/-- a slot is forgotten -/
theorem Rel.drop (r : Rel q g H σ e c) (i : Nat) : Rel q g H σ (e.set i none) c := by
  have old : ∀ (j : Nat) (sv : SV), (e.set i none)[j]? = some (some sv) → e[j]? = some (some sv) := fun j sv h => by
    by_cases hj : i = j
    · subst hj
      by_cases il : i < e.length
      · rw [List.getElem?_set_self il] at h; cases h
      · rw [List.getElem?_eq_none (by rw [List.length_set]; omega)] at h; cases h
    · rwa [List.getElem?_set_ne hj] at h
  exact ⟨r.frm, r.al, r.cel, by rw [List.length_set]; exact r.len, fun j d h => r.val j d (old _ _ h), fun j d h => r.own j d (old _ _ h), fun j h => r.cll j (old _ _ h), r.pin, fun j k d d' a h1 h2 => r.dis j k d d' a (old _ _ h1) (old _ _ h2)⟩
/-- an own list or dict is changed -/
theorem Rel.write {o' : HO} {d' : D} (r : Rel q g H σ e c) (hi : e[i]? = some (some (.own d))) (hv : σ[i]? = some (some (.ref a))) (hc : Cont q.K g.fz (upd H a o') a d') :
    Rel q g (upd H a o') σ (e.set i (some (.own d'))) c ∧ Ext q.pin g H g (upd H a o') := by
  obtain ⟨b, h1, o⟩ := r.own i d hi
  rw [hv] at h1; cases h1
  have il : i < e.length := (List.getElem?_eq_some_iff.mp hi).1
  obtain ⟨oa, ha, im⟩ := o.cont.mut
  have ext : Ext q.pin g H g (upd H a o') := ⟨fun b u h z => by
    rw [upd_ne]
    · exact h
    · rintro rfl
      rw [ha] at h; cases h
      rcases z with z | z | z
      · exact im z
      · exact o.nfz z
      · exact o.np z, fun _ z => z, fun _ z => z⟩
  refine ⟨⟨⟨fun b u h n => ?_, r.frm.fz, r.frm.fzn, r.frm.cA, r.frm.cAn⟩, fun b z => ?_, ?_, by rw [List.length_set]; exact r.len, fun j d1 h => ?_, fun j d1 h => ?_, fun j h => ?_, fun b h => ?_, fun j k d1 d2 b h1 h2 => ?_⟩, ext⟩
  · rw [upd_ne]
    · exact r.frm.keep b u h n
    · rintro rfl
      rw [o.new] at h; cases h
  · rw [upd_ne]
    · exact r.al b z
    · rintro rfl
      exact o.nfz z
  · have k := r.cel
    cases c with
    | none => exact k
    | some p =>
      obtain ⟨x, y⟩ := p
      obtain ⟨b, h1, h2, h3⟩ := k
      refine ⟨b, h1, ?_, h3⟩
      rw [upd_ne]
      · exact h2
      · rintro rfl
        exact o.nc h1
  · by_cases hj : i = j
    · subst hj
      rw [List.getElem?_set_self il] at h; cases h
    · rw [List.getElem?_set_ne hj] at h
      obtain ⟨v, h1, h2⟩ := r.val j d1 h
      exact ⟨v, h1, h2.ext ext.keep ext.fz⟩
  · by_cases hj : i = j
    · subst hj
      rw [List.getElem?_set_self il] at h; cases h
      exact ⟨a, hv, hc, o.nfz, o.nc, o.new, o.np⟩
    · rw [List.getElem?_set_ne hj] at h
      obtain ⟨b, h1, h2⟩ := r.own j d1 h
      refine ⟨b, h1, h2.ext ext (fun u z => ?_) h2.nfz h2.nc⟩
      rw [upd_ne]
      · exact z
      · rintro rfl
        exact hj (r.dis i j d d1 b hi h hv h1)
  · by_cases hj : i = j
    · subst hj
      rw [List.getElem?_set_self il] at h; cases h
    · rw [List.getElem?_set_ne hj] at h
      exact r.cll j h
  · obtain ⟨⟨u, h1⟩, h2, h3, h4⟩ := r.pin b h
    exact ⟨⟨u, ext.keep3 b u h1 (.inr (.inr h))⟩, h2, h3, h4⟩
  · intro h3 h4
    have f : ∀ (j : Nat) (d1 : D), (e.set i (some (.own d')))[j]? = some (some (.own d1)) → ∃ d2, e[j]? = some (some (.own d2)) := fun j d1 h => by
      by_cases hj : i = j
      · subst hj; exact ⟨_, hi⟩
      · rw [List.getElem?_set_ne hj] at h; exact ⟨_, h⟩
    obtain ⟨e1, q1⟩ := f j d1 h1
    obtain ⟨e2, q2⟩ := f k d2 h2
    exact r.dis j k e1 e2 b q1 q2 h3 h4
/-- the cell is changed -/
theorem Rel.setCell {x y x' y' : Int} (r : Rel q g H σ e (some (x, y))) (hc : g.cA = some a) :
    Rel q g (upd H a (.lst [.int x', .int y'])) σ e (some (x', y')) ∧ Ext q.pin g H g (upd H a (.lst [.int x', .int y'])) := by
  obtain ⟨b, k1, k2, k3⟩ := r.cel
  rw [hc] at k1; cases k1
  have ext : Ext q.pin g H g (upd H a (.lst [.int x', .int y'])) := ⟨fun b u h z => by
    rw [upd_ne]
    · exact h
    · rintro rfl
      rw [k2] at h; cases h
      rcases z with z | z | z
      · exact z
      · exact k3 z
      · exact (r.pin b z).2.2.1 hc, fun _ z => z, fun _ z => z⟩
  refine ⟨⟨⟨fun b u h n => ?_, r.frm.fz, r.frm.fzn, r.frm.cA, r.frm.cAn⟩, fun b z => ?_, ⟨a, hc, upd_same, k3⟩, r.len, fun j d1 h => ?_, fun j d1 h => ?_, r.cll, fun b h => let ⟨⟨u, h1⟩, h2⟩ := r.pin b h; ⟨⟨u, ext.keep3 b u h1 (.inr (.inr h))⟩, h2⟩, r.dis⟩, ext⟩
  · rw [upd_ne]
    · exact r.frm.keep b u h n
    · rintro rfl
      rcases r.frm.cAn b hc with w | w
      · exact n w
      · rw [h] at w; cases w
  · rw [upd_ne]
    · exact r.al b z
    · rintro rfl
      exact k3 z
  · obtain ⟨v, h1, h2⟩ := r.val j d1 h
    exact ⟨v, h1, h2.ext ext.keep ext.fz⟩
  · obtain ⟨b, h1, h2⟩ := r.own j d1 h
    refine ⟨b, h1, h2.ext ext (fun u z => ?_) h2.nfz h2.nc⟩
    rw [upd_ne]
    · exact z
    · rintro rfl
      exact h2.nc hc
/-- an own list of two ints becomes the cell -/
theorem Rel.newCell {x y : Int} (r : Rel q g H σ e none) (h : ResOk q g H σ e v (.own (.list [.int x, .int y]))) :
    ∃ g', Rel q g' H σ e (some (x, y)) ∧ Ext q.pin g H g' H ∧ ResOk q g' H σ e v .cell := by
  obtain ⟨a, rfl, o, n⟩ := h
  have gn : g.cA = none := r.cel
  obtain ⟨xs, hx, rx⟩ := o.cont
  have ex : xs = [.int x, .int y] := by
    cases rx with
    | cons r1 r2 => cases r1; cases r2 with | cons r3 r4 => cases r3; cases r4; rfl
  subst ex
  have ext : Ext q.pin g H ⟨g.fz, some a⟩ H := ⟨fun _ _ h _ => h, fun _ h => h, fun c h => by rw [gn] at h; cases h⟩
  refine ⟨⟨g.fz, some a⟩, ⟨⟨r.frm.keep, r.frm.fz, r.frm.fzn, fun c h => ?_, fun c h => ?_⟩, r.al, ⟨a, rfl, hx, o.nfz⟩, r.len, r.val, fun j d1 h => ?_, fun j h => ?_, fun b h => ?_, r.dis⟩, ext, a, rfl, rfl⟩
  · have := r.frm.cA c h; rw [gn] at this; cases this
  · cases h; exact .inr o.new
  · obtain ⟨b, h1, h2⟩ := r.own j d1 h
    refine ⟨b, h1, h2.ext ext (fun _ z => z) h2.nfz fun z => ?_⟩
    cases z
    exact n j d1 h h1
  · obtain ⟨b, h1, h2⟩ := r.cll j h
    rw [gn] at h1; cases h1
  · obtain ⟨h1, h2, h3, h4⟩ := r.pin b h
    refine ⟨h1, h2, fun z => ?_, h4⟩
    cases z
    exact o.np h
/-- a list that is not in a slot is pinned -/
theorem Rel.pinned (r : Rel q g H σ e c) {a : Addr} {o : HO} (ho : H a = some o) (nf : ¬ g.fz a) (nc : g.cA ≠ some a) (n0 : q.H0 a = none) (ns : ∀ (i : Nat) (d : D), e[i]? = some (some (.own d)) → σ[i]? ≠ some (some (.ref a))) :
    Rel { q with pin := fun b => b = a ∨ q.pin b } g H σ e c :=
  ⟨r.frm, r.al, r.cel, r.len, r.val, fun i d h => let ⟨b, h1, h2⟩ := r.own i d h; ⟨b, h1, h2.cont, h2.nfz, h2.nc, h2.new, fun z => z.elim (fun e => ns i d h (e ▸ h1)) h2.np⟩, r.cll,
    fun b h => h.elim (fun e => by subst e; exact ⟨⟨o, ho⟩, nf, nc, n0⟩) (r.pin b), r.dis⟩
/-- a pinned object is changed by its keeper -/
theorem Rel.poke {o o' : HO} (r : Rel q g H σ e c) (hp : q.pin a) (ho : H a = some o) (ni : ¬ Imm o) : Rel q g (upd H a o') σ e c := by
  obtain ⟨_, nf, nc, n0⟩ := r.pin a hp
  have k : ∀ b u, b ≠ a → H b = some u → upd H a o' b = some u := fun b u n h => by rw [upd_ne n]; exact h
  have ob : ∀ b, (∃ u, H b = some u) → ∃ u, upd H a o' b = some u := fun b ⟨u, h⟩ => by
    by_cases z : b = a
    · subst z; exact ⟨_, upd_same⟩
    · exact ⟨u, k b u z h⟩
  have kp : ∀ b u, H b = some u → g.fz b → upd H a o' b = some u := fun b u h f => k b u (fun z => nf (z ▸ f)) h
  have im : ¬ Imm o → ∀ b u, H b = some u → (Imm u ∨ g.fz b) → upd H a o' b = some u := fun ni b u h z => by
    refine k b u (fun y => ?_) h
    subst y
    rw [ho] at h; cases h
    exact z.elim ni nf
  · refine ⟨⟨fun b u h n => k b u (fun z => by rw [z, n0] at h; cases h) (r.frm.keep b u h n), r.frm.fz, r.frm.fzn, r.frm.cA, r.frm.cAn⟩, fun b z => ob b (r.al b z), ?_, r.len, fun i d h => ?_, fun i d h => ?_, r.cll, fun b h => ⟨ob b (r.pin b h).1, (r.pin b h).2⟩, r.dis⟩
    · have kk := r.cel
      cases c with
      | none => exact kk
      | some p => obtain ⟨x, y⟩ := p; obtain ⟨b, h1, h2, h3⟩ := kk; exact ⟨b, h1, k b _ (fun z => nc (z ▸ h1)) h2, h3⟩
    · obtain ⟨v, h1, h2⟩ := r.val i d h
      exact ⟨v, h1, h2.ext (im ni) fun _ z => z⟩
    · obtain ⟨b, h1, h2⟩ := r.own i d h
      exact ⟨b, h1, h2.cont.ext (im ni) (fun _ z => z) (fun u z => k b u (fun y => h2.np (y ▸ hp)) z), h2.nfz, h2.nc, h2.new, h2.np⟩
theorem Rel.unpinned {p : Addr → Prop} (r : Rel { q with pin := p } g H σ e c) (h : ∀ a, q.pin a → p a) : Rel q g H σ e c :=
  ⟨r.frm, r.al, r.cel, r.len, r.val, fun i d hi => let ⟨b, h1, h2⟩ := r.own i d hi; ⟨b, h1, h2.cont, h2.nfz, h2.nc, h2.new, fun z => h2.np (h b z)⟩, r.cll, fun b z => r.pin b (h b z), r.dis⟩
end
end Ev

/-! Expressions. -/
namespace Ev
open PySem PySem.Spec PyProof.Rows L2

theorem PE.imp {X : Cx} {e : Expr} {t t' : TE} (h : PE X e t) (i : ∀ σ H Q, t' σ H Q → t σ H Q) : PE X e t' := ⟨fun pins s σ H Q I q => h.run pins s σ H Q I (i σ H Q q)⟩
theorem PT.imp {X : Cx} {e : Expr} {t t' : TT} (h : PT X e t) (i : ∀ σ H Q, t' σ H Q → t σ H Q) : PT X e t' := ⟨fun pins s σ H Q I q => h.run pins s σ H Q I (i σ H Q q)⟩
theorem PW.imp {X : Cx} {e : Expr} {t t' : TT} (h : PW X e t) (i : ∀ σ H Q, t' σ H Q → t σ H Q) : PW X e t' := ⟨fun w pins s σ H Q I q => h.run w pins s σ H Q I (i σ H Q q)⟩
theorem PA.imp {X : Cx} {e : List Expr} {t t' : TA} (h : PA X e t) (i : ∀ σ H Q, t' σ H Q → t σ H Q) : PA X e t' := ⟨fun pos pins s σ H Q I q => h.run pos pins s σ H Q I (i σ H Q q)⟩
theorem PS.imp {X : Cx} {e : Stmt} {t t' : TS} (h : PS X e t) (i : ∀ D σ H, t' D σ H → t D σ H) : PS X e t' := ⟨fun pins s σ H D I q => h.run pins s σ H D I (i D σ H q)⟩
theorem PSs.imp {X : Cx} {e : List Stmt} {t t' : TS} (h : PSs X e t) (i : ∀ D σ H, t' D σ H → t D σ H) : PSs X e t' := ⟨fun pins s σ H D I q => h.run pins s σ H D I (i D σ H q)⟩

def XOk (q : Par) (x : Xn) (cls : Value) (dx : Option Addr) : Prop := ∃ C, q.xc x.name = some C ∧ cls = .ref C
/-- what is wanted behind a run that stood at g, H -/
def At {α β : Type} (q : Par) (W : WX) (σ : L2.St) (g : Gh) (H : Hp) (r : R α) (Ok : Gh → Hp → Env → β → α → Prop) (Q : β → Hp → Prop) : Prop :=
  match r with
  | .ok a e' c' => ∀ b g' H', Rel q g' H' σ e' c' → Ext q.pin g H g' H' → Ok g' H' e' b a → Q b H'
  | .ex x e' c' => ∀ cls dx g' H', Rel q g' H' σ e' c' → Ext q.pin g H g' H' → XOk q x cls dx → W cls dx σ H'
  | .bad => False
def Sem {α β : Type} (q : Par) (W : WX) (m : M α) (Ok : Gh → Hp → L2.St → Env → β → α → Prop) (σ : L2.St) (H : Hp) (Q : β → Hp → Prop) : Prop :=
  ∃ g e c, Rel q g H σ e c ∧ At q W σ g H (m e c) (fun g' H' e' b a => Ok g' H' σ e' b a) Q
section
variable {α β γ δ : Type} {q : Par} {W : WX} {σ : L2.St} {g g' : Gh} {H H' : Hp}
theorem At.shift {r : R α} {Ok : Gh → Hp → Env → β → α → Prop} {Q : β → Hp → Prop} (h : At q W σ g H r Ok Q) (x : Ext q.pin g H g' H') : At q W σ g' H' r Ok Q := by
  cases r with
  | ok a e c => exact fun b g2 H2 r2 x2 o => h b g2 H2 r2 (x.trans x2) o
  | ex y e c => exact fun cls dx g2 H2 r2 x2 o => h cls dx g2 H2 r2 (x.trans x2) o
  | bad => exact h
/-- one after the other -/
theorem At.bind {m : M α} {k : α → M γ} {e : Env} {c : Cel} {Ok1 : Gh → Hp → Env → β → α → Prop} {Ok2 : Gh → Hp → Env → δ → γ → Prop} {P : β → Hp → Prop} {Q : δ → Hp → Prop}
    (h : At q W σ g H (mBind m k e c) Ok2 Q)
    (i : ∀ a e' c' b g' H', m e c = .ok a e' c' → Rel q g' H' σ e' c' → Ext q.pin g H g' H' → Ok1 g' H' e' b a → At q W σ g' H' (k a e' c') Ok2 Q → P b H') : At q W σ g H (m e c) Ok1 P := by
  unfold mBind at h
  cases hm : m e c with
  | bad => rw [hm] at h; exact h
  | ex y e1 c1 => rw [hm] at h; exact h
  | ok a e1 c1 =>
    rw [hm] at h
    exact fun b g2 H2 r2 x2 o => i a e1 c1 b g2 H2 hm r2 x2 o (At.shift h x2)
end

theorem mBind_assoc {α β γ : Type} (m : M α) (k : α → M β) (l : β → M γ) : mBind (mBind m k) l = mBind m fun a => mBind (k a) l := by
  funext e c
  unfold mBind
  cases m e c <;> rfl
/-! ### the basic doings -/
def mBad {α : Type} : M α := fun _ _ => .bad
def mC (d : D) : M SV := fun e c => .ok (.val d) e c
def mVar (i : Nat) : M SV := fun e c => match e[i]? with
  | some (some (.val d)) => .ok (.val d) e c
  | some (some (.own d)) => .ok (.val d) (e.set i (some (.val d))) c
  | some (some .cell) => .ok .cell e c
  | _ => .bad

abbrev SemE (q : Par) (W : WX) (m : M SV) : TE := Sem q W m (ResOk q)
theorem SemE.bad {q : Par} {W : WX} {σ : L2.St} {H : Hp} {Q : VK} (h : SemE q W mBad σ H Q) : False := by
  obtain ⟨_, _, _, _, a⟩ := h; exact a
section
variable {X : Cx} {q : Par} {W : WX}
theorem se_bad {e : Expr} : PE X e (SemE q W mBad) := ⟨fun _ _ _ _ _ _ h => (SemE.bad h).elim⟩
theorem se_c {e : Expr} {v : V} {d : D} (h : PE X e (tC v)) (r : ∀ F H, Rep q.K F H v d) : PE X e (SemE q W (mC d)) := PE.imp h fun σ H Q ⟨g, e, c, rel, a⟩ =>
  a v g H rel (Ext.refl _ _) (r _ _)
theorem se_var {x : Str} {pos : Pos} {i : Nat} (h : PE X (.Name x pos) (tVar i)) : PE X (.Name x pos) (SemE q W (mVar i)) := PE.imp h fun σ H Q ⟨g, e, c, rel, a⟩ => by
  unfold mVar at a
  split at a
  · rename_i d hi
    obtain ⟨v, h1, h2⟩ := rel.val i d hi
    exact ⟨v, h1, a v g H rel (Ext.refl _ _) h2⟩
  · rename_i d hi
    obtain ⟨v, h1, _⟩ := rel.own i d hi
    obtain ⟨g', rel', x', rp⟩ := rel.freeze hi h1
    exact ⟨_, h1, a _ g' H rel' x' rp⟩
  · rename_i hi
    obtain ⟨v, h1, h2⟩ := rel.cll i hi
    exact ⟨_, h2, a _ g H rel (Ext.refl _ _) ⟨v, h1, rfl⟩⟩
  · exact a.elim
end

/-! ### operands: a name is looked at where it is used -/
inductive Opnd where
  | nm (i : Nat) | ex (m : M SV)
inductive PV where
  | d (d : D) | s (i : Nat)
def slotD (c : Cel) : Option (Option SV) → Option D
  | some (some (.val d)) => some d
  | some (some (.own d)) => some d
  | some (some .cell) => match c with
    | some (x, y) => some (.list [.int x, .int y])
    | none => none
  | _ => none
def rd (e : Env) (c : Cel) : PV → Option D
  | .d d => some d
  | .s i => slotD c e[i]?
theorem slotD_some {c : Cel} {o : Option (Option SV)} {d : D} (h : slotD c o = some d) : o = some (some (.val d)) ∨ o = some (some (.own d)) ∨ (o = some (some .cell) ∧ ∃ x y, c = some (x, y) ∧ d = .list [.int x, .int y]) := by
  match o, h with
  | some (some (.val _)), h => cases h; exact .inl rfl
  | some (some (.own _)), h => cases h; exact .inr (.inl rfl)
  | some (some .cell), h =>
    match c, h with
    | some (x, y), h => cases h; exact .inr (.inr ⟨rfl, x, y, rfl, rfl⟩)
def frz (sv : SV) : M PV := fun e c => match sv with
  | .val d => .ok (.d d) e c
  | .own d => .ok (.d d) e c
  | .cell => .bad
def mO : Opnd → M PV
  | .nm i => fun e c => match slotD c e[i]? with
    | some _ => .ok (.s i) e c
    | none => .bad
  | .ex m => mBind m frz
def mOs : List Opnd → M (List PV)
  | [] => fun e c => .ok [] e c
  | o :: os => mBind (mO o) fun p => mBind (mOs os) fun ps => fun e c => .ok (p :: ps) e c
def rds (e : Env) (c : Cel) : List PV → Option (List D)
  | [] => some []
  | p :: ps => match rd e c p, rds e c ps with
    | some d, some ds => some (d :: ds)
    | _, _ => none
abbrev BF := List D → Option SV
def mFin (f : BF) (ps : List PV) : M SV := fun e c => match rds e c ps with
  | some ds => match f ds with
    | some sv => .ok sv e c
    | none => .bad
  | none => .bad
def mOps (f : BF) (os : List Opnd) : M SV := mBind (mOs os) (mFin f)

/-- a value that is looked at: its outermost list may be one's own -/
def Arg (K : PySem.W.Frag) (F : Addr → Prop) (H : Hp) (v : V) (d : D) : Prop := match d with
  | .list ds => ∃ a xs, v = .ref a ∧ Rd H a (.lst xs) ∧ RepL K F H xs ds
  | .dict ds => ∃ a, v = .ref a ∧ ((∃ xs, H a = some (.dK xs) ∧ RepK K F H xs ds) ∨ (∃ xs, H a = some (.dT xs) ∧ RepT K F H xs ds))
  | d => Rep K F H v d
theorem Rep.arg {K : PySem.W.Frag} {F : Addr → Prop} {H : Hp} {v : V} {d : D} (h : Rep K F H v d) : Arg K F H v d := by
  cases h with
  | lst a b => exact ⟨_, _, rfl, a.rd, b⟩
  | dK a _ b => exact ⟨_, rfl, .inl ⟨_, a, b⟩⟩
  | dT a _ b => exact ⟨_, rfl, .inr ⟨_, a, b⟩⟩
  | non => exact .non
  | bl b => exact .bl b
  | int b => exact .int b
  | str b => exact .str b
  | tup a b => exact .tup a b
theorem Cont.arg {K : PySem.W.Frag} {F : Addr → Prop} {H : Hp} {a : Addr} {d : D} (h : Cont K F H a d) : Arg K F H (.ref a) d := by
  cases d with
  | list ds => obtain ⟨xs, h, r⟩ := h; exact ⟨_, _, rfl, .inl h, r⟩
  | dict ds => exact ⟨_, rfl, h⟩
  | _ => exact h.elim
inductive ArgL (K : PySem.W.Frag) (F : Addr → Prop) (H : Hp) : List V → List D → Prop
  | nil : ArgL K F H [] []
  | cons {v : V} {vs : List V} {d : D} {ds : List D} : Arg K F H v d → ArgL K F H vs ds → ArgL K F H (v :: vs) (d :: ds)

theorem argl1 {K : PySem.W.Frag} {F : Addr → Prop} {H : Hp} {vs : List V} {d : D} (h : ArgL K F H vs [d]) : ∃ v, vs = [v] ∧ Arg K F H v d := by
  cases h with | cons a r => cases r; exact ⟨_, rfl, a⟩
theorem argl2 {K : PySem.W.Frag} {F : Addr → Prop} {H : Hp} {vs : List V} {d d' : D} (h : ArgL K F H vs [d, d']) : ∃ v v', vs = [v, v'] ∧ Arg K F H v d ∧ Arg K F H v' d' := by
  cases h with | cons a r => cases r with | cons b r => cases r; exact ⟨_, _, rfl, a, b⟩
theorem argl3 {K : PySem.W.Frag} {F : Addr → Prop} {H : Hp} {vs : List V} {d d' d2 : D} (h : ArgL K F H vs [d, d', d2]) : ∃ v v' v2, vs = [v, v', v2] ∧ Arg K F H v d ∧ Arg K F H v' d' ∧ Arg K F H v2 d2 := by
  cases h with | cons a r => cases r with | cons b r => cases r with | cons c r => cases r; exact ⟨_, _, _, rfl, a, b, c⟩
def PVOk (q : Par) (g : Gh) (H : Hp) (σ : L2.St) (e : Env) (v : V) : PV → Prop
  | .d d => Rep q.K g.fz H v d
  | .s i => σ[i]? = some (some v)
inductive PVsOk (q : Par) (g : Gh) (H : Hp) (σ : L2.St) (e : Env) : List V → List PV → Prop
  | nil : PVsOk q g H σ e [] []
  | cons {v : V} {vs : List V} {p : PV} {ps : List PV} : PVOk q g H σ e v p → PVsOk q g H σ e vs ps → PVsOk q g H σ e (v :: vs) (p :: ps)
section
variable {q : Par} {g g' : Gh} {H H' : Hp} {σ : L2.St} {e e' : Env} {c : Cel}
theorem PVOk.ext {v : V} {p : PV} (h : PVOk q g H σ e v p) (x : Ext q.pin g H g' H') : PVOk q g' H' σ e' v p := by
  cases p with
  | d d => exact Rep.ext x.keep x.fz h
  | s i => exact h
theorem rd_ok {v : V} {p : PV} {d : D} (r : Rel q g H σ e c) (h : PVOk q g H σ e v p) (hd : rd e c p = some d) : Arg q.K g.fz H v d := by
  cases p with
  | d d' => cases hd; exact Rep.arg h
  | s i =>
    rcases slotD_some hd with hi | hi | ⟨hi, x, y, rfl, rfl⟩
    · obtain ⟨u, h1, h2⟩ := r.val i _ hi
      rw [show σ[i]? = some (some v) from h] at h1; cases h1
      exact h2.arg
    · obtain ⟨u, h1, h2⟩ := r.own i _ hi
      rw [show σ[i]? = some (some v) from h] at h1; cases h1
      exact h2.cont.arg
    · obtain ⟨u, h1, h2⟩ := r.cll i hi
      rw [show σ[i]? = some (some v) from h] at h2; cases h2
      obtain ⟨a, k1, k2, _⟩ := r.cel
      rw [h1] at k1; cases k1
      exact ⟨_, _, rfl, .inl k2, .cons (.int _) (.cons (.int _) .nil)⟩
theorem rds_ok : ∀ {vs : List V} {ps : List PV} {ds : List D}, Rel q g H σ e c → PVsOk q g H σ e vs ps → rds e c ps = some ds → ArgL q.K g.fz H vs ds
  | _, _, _, r, .nil, h => by cases h; exact .nil
  | _, _, _, r, .cons (p := p) (ps := ps) a b, h => by
    unfold rds at h
    cases h1 : rd e c p with
    | none => rw [h1] at h; cases h
    | some d =>
      cases h2 : rds e c ps with
      | none => rw [h1, h2] at h; cases h
      | some ds =>
        rw [h1, h2] at h
        cases h
        exact .cons (rd_ok r a h1) (rds_ok r b h2)
end

/-- what an operation makes: of scalars, new tuples and new lists -/
def New (K : PySem.W.Frag) (F : Addr → Prop) (H H' : Hp) (v : V) : SV → Prop
  | .val d => Rep K F H' v d
  | .own d => ∃ p, v = .ref p ∧ H p = none ∧ Cont K F H' p d
  | .cell => False
def BOk (K : PySem.W.Frag) (r : List V → Hp → VK → Prop) (f : BF) : Prop :=
  ∀ (F : Addr → Prop) (H : Hp) (vs : List V) (ds : List D) (sv : SV) (Q : VK), ArgL K F H vs ds → f ds = some sv → (∀ v H', Same H H' → New K F H H' v sv → Q v H') → r vs H Q
abbrev r2 (r : R2) : List V → Hp → VK → Prop := fun vs H Q => ∃ x y, vs = [x, y] ∧ r x y H Q
abbrev r1 (r : V → Hp → VK → Prop) : List V → Hp → VK → Prop := fun vs H Q => ∃ x, vs = [x] ∧ r x H Q

theorem New.res {q : Par} {g : Gh} {H H' : Hp} {σ : L2.St} {e : Env} {c : Cel} {v : V} {sv : SV} (r : Rel q g H σ e c) (n : New q.K g.fz H H' v sv) : ResOk q g H' σ e v sv := by
  cases sv with
  | val d => exact n
  | cell => exact n.elim
  | own d =>
    obtain ⟨p, rfl, hp, ct⟩ := n
    have nc : g.cA ≠ some p := fun z => by
      obtain ⟨o, h1, _⟩ := r.cel.mut z
      rw [hp] at h1; cases h1
    refine ⟨p, rfl, ⟨ct, fun z => ?_, nc, ?_, fun z => ?_⟩, fun i d' hi hs => ?_⟩
    · obtain ⟨o, h1⟩ := r.al p z
      rw [hp] at h1; cases h1
    · cases w : q.H0 p with
      | none => rfl
      | some o =>
        have := r.frm.keep p o w fun z => nc (r.frm.cA p z)
        rw [hp] at this; cases this
    · obtain ⟨⟨o, h1⟩, _⟩ := r.pin p z
      rw [hp] at h1; cases h1
    · obtain ⟨b, h1, h2⟩ := r.own i d' hi
      rw [hs] at h1; cases h1
      obtain ⟨o, ho⟩ := h2.cont.obj
      rw [hp] at ho; cases ho

section
variable {X : Cx} {q : Par} {W : WX} {a b : Expr} {es : List Expr} {o o1 o2 : Opnd} {os : List Opnd} {m : M SV} {pos : Pos}
abbrev SemO (q : Par) (W : WX) (o : Opnd) : TE := Sem q W (mO o) (PVOk q)
abbrev SemOs (q : Par) (W : WX) (os : List Opnd) : TA := Sem q W (mOs os) (PVsOk q)
theorem so_nm {i : Nat} (h : PE X a (tVar i)) : PE X a (SemO q W (.nm i)) := PE.imp h fun σ H Q ⟨g, e, c, rel, z⟩ => by
  cases h : slotD c e[i]? with
  | none => simp only [mO, h] at z; exact z.elim
  | some d =>
    simp only [mO, h] at z
    rcases slotD_some h with hi | hi | ⟨hi, _⟩
    · obtain ⟨v, h1, h2⟩ := rel.val i d hi
      exact ⟨v, h1, z v g H rel (Ext.refl _ _) h1⟩
    · obtain ⟨v, h1, _⟩ := rel.own i d hi
      exact ⟨_, h1, z _ g H rel (Ext.refl _ _) h1⟩
    · obtain ⟨v, _, h1⟩ := rel.cll i hi
      exact ⟨_, h1, z _ g H rel (Ext.refl _ _) h1⟩
theorem so_ex (h : PE X a (SemE q W m)) : PE X a (SemO q W (.ex m)) := PE.imp h fun σ H Q ⟨g, e, c, rel, z⟩ => by
  refine ⟨g, e, c, rel, ?_⟩
  refine At.bind (k := frz) z fun sv e1 c1 v g1 H1 _ rel1 x1 ok z => ?_
  cases sv with
  | val d => exact z v g1 H1 rel1 (Ext.refl _ _) ok
  | cell => exact z.elim
  | own d =>
    obtain ⟨g2, rel2, x2, rp⟩ := rel1.freezeRes ok
    exact z v g2 H1 rel2 x2 rp
theorem sos_nil : PA X [] (SemOs q W []) := PA.imp pa_nil fun σ H Q ⟨g, e, c, rel, z⟩ => z [] g H rel (Ext.refl _ _) .nil
theorem sos_cons (h1 : PE X a (SemO q W o)) (h2 : PA X es (SemOs q W os)) (hs : starEach (a :: es) X.env = (false, eval a X.env) :: starEach es X.env) : PA X (a :: es) (SemOs q W (o :: os)) := PA.imp (pa_cons h1 h2 hs) fun σ H Q ⟨g, e, c, rel, z⟩ => by
  refine ⟨g, e, c, rel, ?_⟩
  refine At.bind z fun p e1 c1 v g1 H1 _ rel1 x1 ok z => ?_
  refine ⟨g1, e1, c1, rel1, ?_⟩
  refine At.bind z fun ps e2 c2 vs g2 H2 _ rel2 x2 oks z => ?_
  exact z _ g2 H2 rel2 (Ext.refl _ _) (.cons (ok.ext x2) oks)
/-- the end of an operation -/
theorem fin_ok {r : List V → Hp → VK → Prop} {f : BF} (hb : BOk q.K r f) {σ : L2.St} {g : Gh} {H : Hp} {e : Env} {c : Cel} {vs : List V} {ps : List PV} {Q : VK} (rel : Rel q g H σ e c) (ok : PVsOk q g H σ e vs ps)
    (z : At q W σ g H (mFin f ps e c) (fun g' H' e' b a => ResOk q g' H' σ e' b a) Q) : r vs H Q := by
  unfold mFin at z
  cases hd : rds e c ps with
  | none => simp only [hd] at z; exact z.elim
  | some ds =>
    simp only [hd] at z
    cases hf : f ds with
    | none => simp only [hf] at z; exact z.elim
    | some sv =>
      simp only [hf] at z
      exact hb g.fz H vs ds sv Q (rds_ok rel ok hd) hf fun v H' sm nw => z v g H' (rel.same sm) (Ext.same sm) (nw.res rel)
theorem args_imp {r : List V → Hp → VK → Prop} {f : BF} (hb : BOk q.K r f) : ∀ (σ : L2.St) (H : Hp) (Q : VK), SemE q W (mOps f os) σ H Q → SemOs q W os σ H (fun vs H1 => r vs H1 Q) := fun σ H Q ⟨g, e, c, rel, z⟩ => by
  refine ⟨g, e, c, rel, ?_⟩
  refine At.bind z fun ps e1 c1 vs g1 H1 _ rel1 x1 ok z => ?_
  exact fin_ok hb rel1 ok z
theorem se_args {r : List V → Hp → VK → Prop} {f : BF} (hb : BOk q.K r f) (h : PE X a (tCB r (SemOs q W os))) : PE X a (SemE q W (mOps f os)) := PE.imp h (args_imp hb)
theorem se_un {r : V → Hp → VK → Prop} {f : BF} (hb : BOk q.K (r1 r) f) (h : PE X a (tUn r (SemO q W o))) : PE X a (SemE q W (mOps f [o])) := PE.imp h fun σ H Q ⟨g, e, c, rel, z⟩ => by
  refine ⟨g, e, c, rel, ?_⟩
  have z : At q W σ g H (mBind (mO o) (fun p => mFin f [p]) e c) (fun g' H' e' b a => ResOk q g' H' σ e' b a) Q := by
    unfold mOps mOs at z
    rw [mBind_assoc] at z
    exact z
  refine At.bind (Ok1 := fun g' H' e' b a => PVOk q g' H' σ e' b a) z fun p e1 c1 v g1 H1 _ rel1 x1 ok z => ?_
  obtain ⟨x, e1, h⟩ := fin_ok (vs := [v]) hb rel1 (.cons ok .nil) z
  cases e1
  exact h
theorem op2_imp {r : R2} {f : BF} (hb : BOk q.K (r2 r) f) : ∀ (σ : L2.St) (H : Hp) (Q : VK), SemE q W (mOps f [o1, o2]) σ H Q → tOp r (SemO q W o1) (SemO q W o2) σ H Q := fun σ H Q ⟨g, e, c, rel, z⟩ => by
  refine ⟨g, e, c, rel, ?_⟩
  have z : At q W σ g H (mBind (mO o1) (fun p => mBind (mO o2) fun p2 => mFin f [p, p2]) e c) (fun g' H' e' b a => ResOk q g' H' σ e' b a) Q := by
    unfold mOps mOs at z
    rw [mBind_assoc] at z
    unfold mOs at z
    have e : ∀ p, (mBind (mBind (mBind (mO o2) fun p2 => mBind (mOs []) fun ps => fun e c => R.ok (p2 :: ps) e c) fun ps => fun e c => R.ok (p :: ps) e c) (mFin f)) = mBind (mO o2) fun p2 => mFin f [p, p2] := fun p => by
      rw [mBind_assoc, mBind_assoc]
      rfl
    simp only [e] at z
    exact z
  refine At.bind (Ok1 := fun g' H' e' b a => PVOk q g' H' σ e' b a) z fun p e1 c1 v g1 H1 _ rel1 x1 ok z => ?_
  refine ⟨g1, e1, c1, rel1, ?_⟩
  refine At.bind z fun p2 e2 c2 v2 g2 H2 _ rel2 x2 ok2 z => ?_
  obtain ⟨x, y, e1, h⟩ := fin_ok (vs := [v, v2]) hb rel2 (.cons (ok.ext x2) (.cons ok2 .nil)) z
  cases e1
  exact h
theorem se_op2 {r : R2} {f : BF} (hb : BOk q.K (r2 r) f) (h : PE X a (tOp r (SemO q W o1) (SemO q W o2))) : PE X a (SemE q W (mOps f [o1, o2])) := PE.imp h (op2_imp hb)
end

/-! ### values of arguments, items of displays: frozen -/
def mArg (m : M SV) : M SV := mBind m fun sv => fun e c => match sv with
  | .val d => .ok (.val d) e c
  | .own d => .ok (.val d) e c
  | .cell => .ok .cell e c
def mArgs : List (M SV) → M (List SV)
  | [] => fun e c => .ok [] e c
  | m :: ms => mBind (mArg m) fun v => mBind (mArgs ms) fun vs => fun e c => .ok (v :: vs) e c
def ArgOk (K : PySem.W.Frag) (g : Gh) (H : Hp) (v : V) : SV → Prop
  | .val d => Rep K g.fz H v d
  | .own _ => False
  | .cell => ∃ a, g.cA = some a ∧ v = .ref a
inductive ArgsOk (K : PySem.W.Frag) (g : Gh) (H : Hp) : List V → List SV → Prop
  | nil : ArgsOk K g H [] []
  | cons {v : V} {vs : List V} {p : SV} {ps : List SV} : ArgOk K g H v p → ArgsOk K g H vs ps → ArgsOk K g H (v :: vs) (p :: ps)
section
variable {X : Cx} {q : Par} {W : WX} {a b : Expr} {es : List Expr} {m : M SV} {ms : List (M SV)} {pos : Pos} {g g' : Gh} {H H' : Hp} {K : PySem.W.Frag}
theorem ArgOk.ext {v : V} {sv : SV} (h : ArgOk K g H v sv) {p : Addr → Prop} (x : Ext p g H g' H') : ArgOk K g' H' v sv := by
  cases sv with
  | val d => exact Rep.ext x.keep x.fz h
  | own d => exact h
  | cell => obtain ⟨a, h1, h2⟩ := h; exact ⟨a, x.cA a h1, h2⟩
theorem ArgsOk.ext {p : Addr → Prop} (x : Ext p g H g' H') : ∀ {vs : List V} {svs : List SV}, ArgsOk K g H vs svs → ArgsOk K g' H' vs svs
  | _, _, .nil => .nil
  | _, _, .cons a b => .cons (a.ext x) (ArgsOk.ext x b)
theorem ArgsOk.length : ∀ {vs : List V} {svs : List SV}, ArgsOk K g H vs svs → vs.length = svs.length
  | _, _, .nil => rfl
  | _, _, .cons _ b => congrArg (· + 1) b.length
theorem ArgsOk.get : ∀ {vs : List V} {svs : List SV} {i : Nat} {sv : SV}, ArgsOk K g H vs svs → svs[i]? = some sv → ∃ v, vs[i]? = some v ∧ ArgOk K g H v sv
  | _, _, _, _, .nil, h => by simp at h
  | _, _, 0, _, .cons a _, h => by simp at h; subst h; exact ⟨_, rfl, a⟩
  | _, _, i + 1, _, .cons _ b, h => ArgsOk.get (i := i) b (by simpa using h)
abbrev SemV (q : Par) (W : WX) (m : M SV) : TE := Sem q W (mArg m) (fun g H _ _ v sv => ArgOk q.K g H v sv)
abbrev SemVs (q : Par) (W : WX) (ms : List (M SV)) : TA := Sem q W (mArgs ms) (fun g H _ _ v sv => ArgsOk q.K g H v sv)
theorem sv_of (h : PE X a (SemE q W m)) : PE X a (SemV q W m) := PE.imp h fun σ H Q ⟨g, e, c, rel, z⟩ => by
  refine ⟨g, e, c, rel, ?_⟩
  refine At.bind z fun sv e1 c1 v g1 H1 _ rel1 x1 ok z => ?_
  cases sv with
  | val d => exact z v g1 H1 rel1 (Ext.refl _ _) ok
  | cell => exact z v g1 H1 rel1 (Ext.refl _ _) ok
  | own d =>
    obtain ⟨g2, rel2, x2, rp⟩ := rel1.freezeRes ok
    exact z v g2 H1 rel2 x2 rp
theorem svs_nil : PA X [] (SemVs q W []) := PA.imp pa_nil fun σ H Q ⟨g, e, c, rel, z⟩ => z [] g H rel (Ext.refl _ _) .nil
theorem svs_cons (h1 : PE X a (SemE q W m)) (h2 : PA X es (SemVs q W ms)) (hs : starEach (a :: es) X.env = (false, eval a X.env) :: starEach es X.env) : PA X (a :: es) (SemVs q W (m :: ms)) := PA.imp (pa_cons (sv_of h1) h2 hs) fun σ H Q ⟨g, e, c, rel, z⟩ => by
  refine ⟨g, e, c, rel, ?_⟩
  refine At.bind z fun p e1 c1 v g1 H1 _ rel1 x1 ok z => ?_
  refine ⟨g1, e1, c1, rel1, ?_⟩
  refine At.bind z fun ps e2 c2 vs g2 H2 _ rel2 x2 oks z => ?_
  exact z _ g2 H2 rel2 (Ext.refl _ _) (.cons (ok.ext x2) oks)

/-- the data of values -/
def datas : List SV → Option (List D)
  | [] => some []
  | .val d :: r => match datas r with
    | some ds => some (d :: ds)
    | none => none
  | _ :: _ => none
theorem datas_ok : ∀ {svs : List SV} {vs : List V} {ds : List D}, ArgsOk K g H vs svs → datas svs = some ds → RepL K g.fz H vs ds
  | _, _, _, .nil, h => by cases h; exact .nil
  | .val d :: r, _, _, .cons a b, h => by
    unfold datas at h
    cases h1 : datas r with
    | none => rw [h1] at h; cases h
    | some ds => rw [h1] at h; cases h; exact .cons a (datas_ok b h1)
  | .own d :: r, _, _, .cons a b, h => a.elim
  | .cell :: r, _, _, .cons a b, h => by unfold datas at h; cases h
def mTup (ms : List (M SV)) : M SV := mBind (mArgs ms) fun svs => fun e c => match datas svs with
  | some ds => if ds.length ≤ 1000 then .ok (.val (.tuple ds)) e c else .bad
  | none => .bad
def mLst (ms : List (M SV)) : M SV := mBind (mArgs ms) fun svs => fun e c => match datas svs with
  | some ds => if ds.length ≤ 1000 then .ok (.own (.list ds)) e c else .bad
  | none => .bad
theorem sz1000 {n : Nat} (h : n ≤ 1000) : n ≤ sizeLine := Nat.le_trans h (by decide)
theorem same_upd {H : Hp} {p : Addr} {o : HO} (h : H p = none) : Same H (upd H p o) := fun b x e => by
  rw [upd_ne (ne_of_none e h)]
  exact e
theorem se_tup {k : Nat} (h : PA X es (SemVs q W ms)) : PE X (.Tuple es k pos) (SemE q W (mTup ms)) := PE.imp (pe_tup h) fun σ H Q ⟨g, e, c, rel, z⟩ => by
  refine ⟨g, e, c, rel, ?_⟩
  refine At.bind z fun svs e1 c1 vs g1 H1 _ rel1 x1 ok z => ?_
  split at z
  · rename_i ds hd
    split at z
    · rename_i hl
      have rp := datas_ok ok hd
      refine ⟨by rw [rp.length]; exact sz1000 hl, fun p hp => ?_⟩
      refine z _ g1 _ (rel1.same (same_upd hp)) (Ext.same (same_upd hp)) ?_
      exact .tup (.inl (.inl upd_same)) (rp.ext (Ext.same (p := q.pin) (g := g1) (same_upd hp)).keep fun _ z => z)
    · exact z.elim
  · exact z.elim
theorem se_lst (h : PA X es (SemVs q W ms)) : PE X (.List es pos) (SemE q W (mLst ms)) := PE.imp (pe_lst h) fun σ H Q ⟨g, e, c, rel, z⟩ => by
  refine ⟨g, e, c, rel, ?_⟩
  refine At.bind z fun svs e1 c1 vs g1 H1 _ rel1 x1 ok z => ?_
  split at z
  · rename_i ds hd
    split at z
    · rename_i hl
      have rp := datas_ok ok hd
      refine ⟨by rw [rp.length]; exact sz1000 hl, fun p hp => ?_⟩
      refine z _ g1 _ (rel1.same (same_upd hp)) (Ext.same (same_upd hp)) (New.res rel1 ⟨p, rfl, hp, _, upd_same, ?_⟩)
      exact rp.ext (Ext.same (p := q.pin) (g := g1) (same_upd hp)).keep fun _ z => z
    · exact z.elim
  · exact z.elim

/-! ### defs of the text -/
inductive FR where
  | ok (v : SV) (c : Cel) | ex (x : Xn) (c : Cel) | bad
abbrev Fn := List SV → Cel → FR
def ResF (K : PySem.W.Frag) (H : Hp) (g' : Gh) (H' : Hp) (v : V) : SV → Prop
  | .val d => Rep K g'.fz H' v d
  | .own d => ∃ a, v = .ref a ∧ Cont K g'.fz H' a d ∧ ¬ g'.fz a ∧ g'.cA ≠ some a ∧ H a = none
  | .cell => ∃ a, g'.cA = some a ∧ v = .ref a
/-- what is wanted of a call that stood at g, H -/
def AtF (K : PySem.W.Frag) (xc : Str → Option Addr) (g : Gh) (H : Hp) (Q : VK) (E : XK) : FR → Prop
  | .ok sv c' => ∀ v g' H', Frm g H g' H' → Alloc g' H' → CelOk g' H' c' → ResF K H g' H' v sv → Q v H'
  | .ex x c' => ∀ cls dx g' H', Frm g H g' H' → Alloc g' H' → CelOk g' H' c' → (∃ C, xc x.name = some C ∧ cls = .ref C) → E cls dx H'
  | .bad => False
def spF (K : PySem.W.Frag) (xc : Str → Option Addr) (np : Nat) (F : Fn) : Sp := fun vs H Q E => vs.length = np ∧ ∃ g svs c, ArgsOk K g H vs svs ∧ Alloc g H ∧ CelOk g H c ∧ AtF K xc g H Q E (F svs c)
def mCall (F : Fn) (ms : List (M SV)) : M SV := mBind (mArgs ms) fun svs => fun e c => if svs.length = ms.length then (match F svs c with
  | .ok sv c' => .ok sv e c'
  | .ex x c' => .ex x e c'
  | .bad => .bad) else .bad
theorem ResF.res {σ : L2.St} {e : Env} {c c' : Cel} {v : V} {sv : SV} (r : Rel q g H σ e c) (f : Frm g H g' H') (al : Alloc g' H') (k : CelOk g' H' c') (n : ResF q.K H g' H' v sv) : ResOk q g' H' σ e v sv := by
  cases sv with
  | val d => exact n
  | cell => exact n
  | own d =>
    obtain ⟨a, rfl, ct, nf, nc, hn⟩ := n
    refine ⟨a, rfl, ⟨ct, nf, nc, ?_, fun z => ?_⟩, fun i d' hi hs => ?_⟩
    · cases w : q.H0 a with
      | none => rfl
      | some o =>
        by_cases z : q.g0.cA = some a
        · exact absurd (f.cA a (r.frm.cA a z)) nc
        · have := r.frm.keep a o w z
          rw [hn] at this; cases this
    · obtain ⟨⟨o, h1⟩, _⟩ := r.pin a z
      rw [hn] at h1; cases h1
    · obtain ⟨b, h1, h2⟩ := r.own i d' hi
      rw [hs] at h1; cases h1
      obtain ⟨o, ho⟩ := h2.cont.obj
      rw [hn] at ho; cases ho
theorem se_call {np : Nat} {F : Fn} (hn : ms.length = np) (h : PE X a (tCallS (spF q.K q.xc np F) (fun σ cls d H => W cls d σ H) (SemVs q W ms))) : PE X a (SemE q W (mCall F ms)) := PE.imp h fun σ H Q ⟨g, e, c, rel, z⟩ => by
  refine ⟨g, e, c, rel, ?_⟩
  refine At.bind z fun svs e1 c1 vs g1 H1 _ rel1 x1 ok z => ?_
  split at z
  · rename_i hl
    refine ⟨by rw [ok.length, hl, hn], g1, svs, c1, ok, rel1.al, rel1.cel, ?_⟩
    cases hF : F svs c1 with
    | bad => rw [hF] at z; exact z
    | ok sv c2 => rw [hF] at z; exact fun v g2 H2 f2 al2 k2 rs => z v g2 H2 (rel1.call f2 al2 k2) (f2.ext rel1.cel fun a h => (rel1.pin a h).2.2.1) (rs.res rel1 f2 al2 k2)
    | ex x c2 => rw [hF] at z; exact fun cls dx g2 H2 f2 al2 k2 rs => z cls dx g2 H2 (rel1.call f2 al2 k2) (f2.ext rel1.cel fun a h => (rel1.pin a h).2.2.1) rs
  · exact z.elim
end

/-! ### tests -/
abbrev BOk1 : Gh → Hp → L2.St → Env → Bool → Bool → Prop := fun _ _ _ _ b a => b = a
abbrev SemT (q : Par) (W : WX) (m : M Bool) : TT := Sem q W m BOk1
def mTV (m : M SV) : M Bool := mBind m fun sv => fun e c => match sv with
  | .val (.bool b) => .ok b e c
  | _ => .bad
def mVT (m : M Bool) : M SV := mBind m fun b => fun e c => .ok (.val (.bool b)) e c
def mNotT (m : M Bool) : M Bool := mBind m fun b => fun e c => .ok (!b) e c
def mIf {α : Type} (t : M Bool) (m1 m2 : M α) : M α := mBind t fun b => if b = true then m1 else m2
def mAndT : List (M Bool) → M Bool
  | [] => mBad
  | [m] => m
  | m :: ms => mBind m fun b => if b = true then mAndT ms else fun e c => .ok false e c
def mOrT : List (M Bool) → M Bool
  | [] => mBad
  | [m] => m
  | m :: ms => mBind m fun b => if b = true then (fun e c => .ok true e c) else mOrT ms
def mAndV : List (M SV) → M SV
  | [] => mBad
  | [m] => m
  | m :: ms => mBind (mTV m) fun b => if b = true then mAndV ms else mC (.bool false)
def mOrV : List (M SV) → M SV
  | [] => mBad
  | [m] => m
  | m :: ms => mBind (mTV m) fun b => if b = true then mC (.bool true) else mOrV ms
section
variable {X : Cx} {q : Par} {W : WX} {a b : Expr} {m : M SV} {pos : Pos}
theorem st_bad {e : Expr} : PT X e (SemT q W mBad) := ⟨fun _ _ _ _ _ _ h => by obtain ⟨_, _, _, _, z⟩ := h; exact z.elim⟩
theorem tv_imp : ∀ (σ : L2.St) (H : Hp) (Q : Bool → Hp → Prop), SemT q W (mTV m) σ H Q → SemE q W m σ H (fun x H1 => ∃ k, x = .bl k ∧ Q k H1) := fun σ H Q ⟨g, e, c, rel, z⟩ => by
  refine ⟨g, e, c, rel, ?_⟩
  refine At.bind z fun sv e1 c1 v g1 H1 _ rel1 x1 ok z => ?_
  cases sv with
  | own d => exact z.elim
  | cell => exact z.elim
  | val d =>
    cases d with
    | bool b => cases ok; exact ⟨b, rfl, z b g1 H1 rel1 (Ext.refl _ _) rfl⟩
    | _ => exact z.elim
theorem tB_of (h : PT X a (tB (SemE q W m))) : PT X a (SemT q W (mTV m)) := PT.imp h tv_imp
theorem st_val (h : PE X a (SemE q W m)) (he : ∀ whole, isTrue a X.env whole = (do let v ← whole; standAt a.pos; holding [v] (truthy v))) : PT X a (SemT q W (mTV m)) := tB_of (pt_val h he)
theorem st_not {t : M Bool} (h : PT X a (SemT q W t)) : PT X (.UnaryOp .Not a pos) (SemT q W (mNotT t)) := PT.imp (pt_not h) fun σ H Q ⟨g, e, c, rel, z⟩ => by
  refine ⟨g, e, c, rel, ?_⟩
  refine At.bind z fun b e1 c1 v g1 H1 _ rel1 x1 ok z => ?_
  cases ok
  exact z _ g1 H1 rel1 (Ext.refl _ _) rfl
theorem tv_at {σ : L2.St} {g : Gh} {H : Hp} {e : Env} {c : Cel} {γ δ : Type} {k : Bool → M γ} {Ok2 : Gh → Hp → Env → δ → γ → Prop} {Q : δ → Hp → Prop} {P : V → Hp → Prop} (z : At q W σ g H (mBind (mTV m) k e c) Ok2 Q)
    (i : ∀ b e' c' g' H', Rel q g' H' σ e' c' → Ext q.pin g H g' H' → At q W σ g' H' (k b e' c') Ok2 Q → P (.bl b) H') : At q W σ g H (m e c) (fun g' H' e' b a => ResOk q g' H' σ e' b a) P := by
  unfold mTV at z
  rw [mBind_assoc] at z
  refine At.bind z fun sv e1 c1 v g1 H1 _ rel1 x1 ok z => ?_
  cases sv with
  | own d => exact z.elim
  | cell => exact z.elim
  | val d =>
    cases d with
    | bool b => cases ok; exact i b e1 c1 g1 H1 rel1 x1 z
    | _ => exact z.elim
theorem se_not (h : PE X a (SemE q W m)) : PE X (.UnaryOp .Not a pos) (SemE q W (mVT (mNotT (mTV m)))) := PE.imp (pe_not h) fun σ H Q ⟨g, e, c, rel, z⟩ => by
  refine ⟨g, e, c, rel, ?_⟩
  have z : At q W σ g H (mBind (mTV m) (fun b => fun e c => R.ok (SV.val (.bool (!b))) e c) e c) (fun g' H' e' b a => ResOk q g' H' σ e' b a) Q := by
    unfold mVT mNotT at z
    rw [mBind_assoc] at z
    exact z
  exact tv_at z fun b e1 c1 g1 H1 rel1 x1 z => ⟨b, rfl, z _ g1 H1 rel1 (Ext.refl _ _) (.bl _)⟩
theorem se_if {t : M Bool} {m1 m2 : M SV} {c : Expr} (hc : PT X c (SemT q W t)) (ha : PE X a (SemE q W m1)) (hb : PE X b (SemE q W m2)) : PE X (.IfExp c a b pos) (SemE q W (mIf t m1 m2)) := PE.imp (pe_ifExp hc ha hb) fun σ H Q ⟨g, e, c, rel, z⟩ => by
  refine ⟨g, e, c, rel, ?_⟩
  refine At.bind z fun b e1 c1 v g1 H1 _ rel1 x1 ok z => ?_
  cases ok
  cases b with
  | true => exact ⟨g1, e1, c1, rel1, z⟩
  | false => exact ⟨g1, e1, c1, rel1, z⟩
theorem sw_and : ∀ {es : List Expr} {ts : List (M Bool)}, Paired (fun e t => PT X e (SemT q W t)) es ts → PW X (.BoolOp .And es pos) (SemT q W (mAndT ts))
  | _, _, .nil => ⟨fun _ _ _ _ _ _ _ h => by obtain ⟨_, _, _, _, z⟩ := h; exact z.elim⟩
  | _, _, .cons h .nil => pw_and1 h
  | _, _, .cons h (.cons h2 r) => PW.imp (pw_and h (sw_and (.cons h2 r))) fun σ H Q ⟨g, e, c, rel, z⟩ => by
    refine ⟨g, e, c, rel, ?_⟩
    refine At.bind z fun b e1 c1 v g1 H1 _ rel1 x1 ok z => ?_
    cases ok
    cases b with
    | true => exact ⟨g1, e1, c1, rel1, z⟩
    | false => exact z _ g1 H1 rel1 (Ext.refl _ _) rfl
theorem sw_or : ∀ {es : List Expr} {ts : List (M Bool)}, Paired (fun e t => PT X e (SemT q W t)) es ts → PW X (.BoolOp .Or es pos) (SemT q W (mOrT ts))
  | _, _, .nil => ⟨fun _ _ _ _ _ _ _ h => by obtain ⟨_, _, _, _, z⟩ := h; exact z.elim⟩
  | _, _, .cons h .nil => pw_or1 h
  | _, _, .cons h (.cons h2 r) => PW.imp (pw_or h (sw_or (.cons h2 r))) fun σ H Q ⟨g, e, c, rel, z⟩ => by
    refine ⟨g, e, c, rel, ?_⟩
    refine At.bind z fun b e1 c1 v g1 H1 _ rel1 x1 ok z => ?_
    cases ok
    cases b with
    | false => exact ⟨g1, e1, c1, rel1, z⟩
    | true => exact z _ g1 H1 rel1 (Ext.refl _ _) rfl
theorem se_and : ∀ {es : List Expr} {ts : List (M SV)}, Paired (fun e t => PE X e (SemE q W t)) es ts → PE X (.BoolOp .And es pos) (SemE q W (mAndV ts))
  | _, _, .nil => se_bad
  | _, _, .cons h .nil => pe_one h
  | _, _, .cons h (.cons h2 r) => PE.imp (pe_and h (se_and (.cons h2 r))) fun σ H Q ⟨g, e, c, rel, z⟩ => by
    refine ⟨g, e, c, rel, ?_⟩
    refine tv_at z fun b e1 c1 g1 H1 rel1 x1 z => ⟨b, rfl, ?_⟩
    cases b with
    | true => exact ⟨g1, e1, c1, rel1, z⟩
    | false => exact z _ g1 H1 rel1 (Ext.refl _ _) (.bl _)
theorem se_or : ∀ {es : List Expr} {ts : List (M SV)}, Paired (fun e t => PE X e (SemE q W t)) es ts → PE X (.BoolOp .Or es pos) (SemE q W (mOrV ts))
  | _, _, .nil => se_bad
  | _, _, .cons h .nil => pe_one h
  | _, _, .cons h (.cons h2 r) => PE.imp (pe_or h (se_or (.cons h2 r))) fun σ H Q ⟨g, e, c, rel, z⟩ => by
    refine ⟨g, e, c, rel, ?_⟩
    refine tv_at z fun b e1 c1 g1 H1 rel1 x1 z => ⟨b, rfl, ?_⟩
    cases b with
    | false => exact ⟨g1, e1, c1, rel1, z⟩
    | true => exact z _ g1 H1 rel1 (Ext.refl _ _) (.bl _)
end
end Ev

/-! Chains, subscripts, targets, what is walked, list comprehensions. -/
namespace Ev
open PySem PySem.Spec PyProof.Rows L2

/-! ### a < b < c -/
def mChain (f1 f2 : BF) (o1 o2 o3 : Opnd) : M SV := mBind (mO o1) fun p1 => mBind (mO o2) fun p2 => mBind (mTV (mFin f1 [p1, p2])) fun b =>
  if b = true then mBind (mO o3) fun p3 => mFin f2 [p2, p3] else mC (.bool false)
/-! ### subscripts, slices -/
def mPart : Option Opnd → M (Option Int)
  | none => fun e c => .ok none e c
  | some o => mBind (mO o) fun p => fun e c => match rd e c p with
    | some (.int i) => .ok (some i) e c
    | _ => .bad
abbrev SF := D → Option Int → Option Int → Option SV
def mSl (f : SF) (o : Opnd) (lo hi : Option Opnd) : M SV := mBind (mO o) fun p => mBind (mPart lo) fun l => mBind (mPart hi) fun h => fun e c => match rd e c p with
  | some d => match f d l h with
    | some sv => .ok sv e c
    | none => .bad
  | none => .bad
def SOk (K : PySem.W.Frag) (r : V → Option Int → Option Int → Hp → VK → Prop) (f : SF) : Prop :=
  ∀ (F : Addr → Prop) (H : Hp) (v : V) (d : D) (lo hi : Option Int) (sv : SV) (Q : VK), Arg K F H v d → f d lo hi = some sv → (∀ v H', Same H H' → New K F H H' v sv → Q v H') → r v lo hi H Q
section
variable {X : Cx} {q : Par} {W : WX} {a b c : Expr} {es : List Expr} {o o1 o2 o3 : Opnd} {os : List Opnd} {m : M SV} {pos : Pos}
theorem chain_imp {r r' : R2} {f1 f2 : BF} (hb : BOk q.K (r2 r) f1) (hb' : BOk q.K (r2 r') f2) : ∀ (σ : L2.St) (H : Hp) (Q : VK), SemE q W (mChain f1 f2 o1 o2 o3) σ H Q → tChain r r' (SemO q W o1) (SemO q W o2) (SemO q W o3) σ H Q := fun σ H Q ⟨g, e, c, rel, z⟩ => by
  refine ⟨g, e, c, rel, ?_⟩
  refine At.bind z fun p1 e1 c1 v1 g1 H1 _ rel1 x1 ok1 z => ?_
  refine ⟨g1, e1, c1, rel1, ?_⟩
  refine At.bind z fun p2 e2 c2 v2 g2 H2 _ rel2 x2 ok2 z => ?_
  have z2 := tv_at (P := fun x H3 => ∃ k, x = .bl k ∧ (if k = true then SemO q W o3 σ H3 fun w' H4 => r' v2 w' H4 Q else Q (.bl false) H3)) z fun b e3 c3 g3 H3 rel3 x3 z => ⟨b, rfl, by
    cases b with
    | false => exact z _ g3 H3 rel3 (Ext.refl _ _) (.bl _)
    | true =>
      refine ⟨g3, e3, c3, rel3, ?_⟩
      refine At.bind z fun p3 e4 c4 v4 g4 H4 _ rel4 x4 ok4 z => ?_
      obtain ⟨x, y, e1, h⟩ := fin_ok (vs := [v2, v4]) hb' rel4 (.cons (ok2.ext (x3.trans x4)) (.cons ok4 .nil)) z
      cases e1
      exact h⟩
  obtain ⟨x, y, e1, h⟩ := fin_ok (vs := [v1, v2]) hb rel2 (.cons (ok1.ext x2) (.cons ok2 .nil)) z2
  cases e1
  exact h
theorem se_chain {op op' : CmpOp} {r r' : R2} {f1 f2 : BF} (hb : BOk q.K (r2 r) f1) (hb' : BOk q.K (r2 r') f2) (ho : OpR X (compareOp op) r) (ho' : OpR X (compareOp op') r') (ha : PE X a (SemO q W o1)) (hbb : PE X b (SemO q W o2)) (hc : PE X c (SemO q W o3))
    (hm : lastMarks [op, op'] [b, c] = false) : PE X (.Compare a [op, op'] [b, c] pos) (SemE q W (mChain f1 f2 o1 o2 o3)) := PE.imp (pe_chain ho ho' ha hbb hc hm) (chain_imp hb hb')
theorem st_chain {op op' : CmpOp} {r r' : R2} {f1 f2 : BF} (hb : BOk q.K (r2 r) f1) (hb' : BOk q.K (r2 r') f2) (ho : OpR X (compareOp op) r) (ho' : OpR X (compareOp op') r') (ha : PE X a (SemO q W o1)) (hbb : PE X b (SemO q W o2)) (hc : PE X c (SemO q W o3))
    (hm : lastMarks [op, op'] [b, c] = false) : PT X (.Compare a [op, op'] [b, c] pos) (SemT q W (mTV (mChain f1 f2 o1 o2 o3))) := PT.imp (pt_chain ho ho' ha hbb hc hm) fun σ H Q h => chain_imp hb hb' σ H _ (tv_imp σ H Q h)
theorem st_op2 {op : CmpOp} {r : R2} {f : BF} (hb : BOk q.K (r2 r) f) (ho : OpR X (compareOp op) r) (ha : PE X a (SemO q W o1)) (hbb : PE X b (SemO q W o2)) (hm : behindInMarks op b = false) : PT X (.Compare a [op] [b] pos) (SemT q W (mTV (mOps f [o1, o2]))) :=
  PT.imp (pt_cmpR ho ha hbb hm) fun σ H Q h => op2_imp hb σ H _ (tv_imp σ H Q h)
theorem po_of {lo : Expr} {ol : Opnd} (h : PE X lo (SemO q W ol)) : PO X (some lo) (Sem q W (mPart (some ol)) fun _ _ _ _ b a => b = a) := ⟨fun pins s σ H Q I w => (po_some h).run pins s σ H Q I (by
  obtain ⟨g, e, c, rel, z⟩ := w
  refine ⟨g, e, c, rel, ?_⟩
  refine At.bind z fun p e1 c1 v g1 H1 _ rel1 x1 ok z => ?_
  cases hd : rd e1 c1 p with
  | none => simp only [hd] at z; exact z.elim
  | some d =>
    simp only [hd] at z
    have ag := rd_ok rel1 ok hd
    cases d with
    | int i => cases ag; exact ⟨i, rfl, z _ g1 H1 rel1 (Ext.refl _ _) rfl⟩
    | _ => exact z.elim)⟩
theorem po_no : PO X none (Sem q W (mPart none) fun _ _ _ _ b a => b = a) := ⟨fun pins s σ H Q I w => po_none.run pins s σ H Q I (by
  obtain ⟨g, e, c, rel, z⟩ := w
  exact z _ g H rel (Ext.refl _ _) rfl)⟩
theorem se_sl {r : V → Option Int → Option Int → Hp → VK → Prop} {f : SF} {lo hi : Option Expr} {ol oh : Option Opnd} {p2 : Pos} (hs : SOk q.K r f) (hr : SlR X r) (he : PE X a (SemO q W o))
    (hl : PO X lo (Sem q W (mPart ol) fun _ _ _ _ b a => b = a)) (hu : PO X hi (Sem q W (mPart oh) fun _ _ _ _ b a => b = a)) : PE X (.Subscript a (.Slice lo hi none p2) pos) (SemE q W (mSl f o ol oh)) := PE.imp (pe_slice hr he hl hu) fun σ H Q ⟨g, e, c, rel, z⟩ => by
  refine ⟨g, e, c, rel, ?_⟩
  refine At.bind z fun p e1 c1 v g1 H1 _ rel1 x1 ok z => ?_
  refine ⟨g1, e1, c1, rel1, ?_⟩
  refine At.bind z fun l e2 c2 l' g2 H2 _ rel2 x2 ok2 z => ?_
  subst ok2
  refine ⟨g2, e2, c2, rel2, ?_⟩
  refine At.bind z fun h e3 c3 h' g3 H3 _ rel3 x3 ok3 z => ?_
  subst ok3
  cases hd : rd e3 c3 p with
  | none => simp only [hd] at z; exact z.elim
  | some d =>
    simp only [hd] at z
    cases hf : f d l' h' with
    | none => simp only [hf] at z; exact z.elim
    | some sv =>
      simp only [hf] at z
      exact hs g3.fz H3 v d l' h' sv Q (rd_ok rel3 (ok.ext (x2.trans x3)) hd) hf fun v H' sm nw => z v g3 H' (rel3.same sm) (Ext.same sm) (nw.res rel3)
end

/-! ### targets -/
inductive Tgt where
  | nm (i : Nat) | tp (ts : List Tgt)
mutual
def mTgt : Tgt → D → Env → Option Env
  | .nm i, d, e => some (e.set i (some (.val d)))
  | .tp ts, .tuple ds, e => mTgts ts ds e
  | .tp _, _, _ => none
def mTgts : List Tgt → List D → Env → Option Env
  | [], [], e => some e
  | t :: ts, d :: ds, e => match mTgt t d e with
    | some e1 => mTgts ts ds e1
    | none => none
  | _, _, _ => none
end
mutual
def gTgt (K : PySem.W.Frag) : Tgt → TG
  | .nm i => gName i
  | .tp ts => gTup K ts.length (gTgts K ts)
def gTgts (K : PySem.W.Frag) : List Tgt → TGs
  | [] => gNil
  | t :: ts => gCons (gTgt K t) (gTgts K ts)
end
mutual
def Tgt.slots : Tgt → List Nat
  | .nm i => [i]
  | .tp ts => slotsL ts
def slotsL : List Tgt → List Nat
  | [] => []
  | t :: ts => t.slots ++ slotsL ts
end
theorem wipe_set {σ : L2.St} {i : Nat} {x : Option V} : ∀ {vs : List Nat}, i ∈ vs → wipe (σ.set i x) vs = wipe σ vs
  | v :: vs, h => by
    unfold wipe
    by_cases hv : i ∈ vs
    · rw [wipe_set hv]
    · have e : i = v := by
        rcases List.mem_cons.mp h with e | e
        · exact e
        · exact absurd e hv
      subst e
      have : ∀ (us : List Nat), i ∉ us → wipe (σ.set i x) us = (wipe σ us).set i x := by
        intro us
        induction us with
        | nil => intro _; rfl
        | cons u us ih =>
          intro hn
          unfold wipe
          rw [ih (fun z => hn (List.mem_cons_of_mem _ z)), List.set_comm _ _ (fun z => hn (by rw [z]; exact List.mem_cons_self))]
      rw [this vs hv, List.set_set]
theorem tgt_len (K : PySem.W.Frag) : ∀ {ts : List Tgt} {ds : List D} {e e' : Env}, mTgts ts ds e = some e' → ds.length = ts.length
  | [], [], _, _, _ => rfl
  | [], _ :: _, _, _, h => by simp [mTgts] at h
  | _ :: _, [], _, _, h => by simp [mTgts] at h
  | t :: ts, d :: ds, e, e', h => by
    unfold mTgts at h
    cases h1 : mTgt t d e with
    | none => simp only [h1] at h; cases h
    | some e1 => simp only [h1] at h; simp [tgt_len K h]
mutual
theorem tgt_ok {q : Par} {g : Gh} {H : Hp} : ∀ (t : Tgt) {σ : L2.St} {e : Env} {c : Cel} {v : V} {d : D} {e' : Env} {Q : L2.St → Hp → Prop}, Rel q g H σ e c → Rep q.K g.fz H v d → mTgt t d e = some e' →
    (∀ σ', Rel q g H σ' e' c → (∀ vs : List Nat, (∀ i ∈ t.slots, i ∈ vs) → wipe σ' vs = wipe σ vs) → Q σ' H) → gTgt q.K t v σ H Q
  | .nm i, σ, e, c, v, d, e', Q, rel, rp, h, k => by
    have he : e' = e.set i (some (.val d)) := (Option.some.inj (show some (e.set i (some (.val d))) = some e' from by simpa [mTgt] using h)).symm
    subst he
    have : gTgt q.K (.nm i) = gName i := by simp [gTgt]
    rw [this]
    refine k _ (rel.store (sv := .val d) rp i) fun vs hv => wipe_set (hv i (by simp [Tgt.slots]))
  | .tp ts, σ, e, c, v, d, e', Q, rel, rp, h, k => by
    have : gTgt q.K (.tp ts) = gTup q.K ts.length (gTgts q.K ts) := by simp [gTgt]
    rw [this]
    cases rp with
    | tup hs rl =>
      rename_i a xs ds
      have h' : mTgts ts ds e = some e' := by simpa [mTgt] using h
      refine ⟨a, xs, rfl, hs, by rw [rl.length, tgt_len q.K h'], ?_⟩
      exact tgts_ok ts rel rl h' fun σ' r' w => k σ' r' fun vs hv => w vs fun i hi => hv i (by simpa [Tgt.slots] using hi)
    | _ => simp [mTgt] at h
theorem tgts_ok {q : Par} {g : Gh} {H : Hp} : ∀ (ts : List Tgt) {σ : L2.St} {e : Env} {c : Cel} {vs : List V} {ds : List D} {e' : Env} {Q : L2.St → Hp → Prop}, Rel q g H σ e c → RepL q.K g.fz H vs ds → mTgts ts ds e = some e' →
    (∀ σ', Rel q g H σ' e' c → (∀ vs : List Nat, (∀ i ∈ slotsL ts, i ∈ vs) → wipe σ' vs = wipe σ vs) → Q σ' H) → gTgts q.K ts vs σ H Q
  | [], σ, e, c, vs, ds, e', Q, rel, rl, h, k => by
    have : gTgts q.K [] = gNil := by simp [gTgts]
    rw [this]
    cases rl with
    | nil =>
      have he : e' = e := (Option.some.inj (show some e = some e' from by simpa [mTgts] using h)).symm
      subst he
      exact ⟨rfl, k σ rel fun _ _ => rfl⟩
    | cons _ _ => simp [mTgts] at h
  | t :: ts, σ, e, c, vs, ds, e', Q, rel, rl, h, k => by
    have : gTgts q.K (t :: ts) = gCons (gTgt q.K t) (gTgts q.K ts) := by simp [gTgts]
    rw [this]
    cases rl with
    | nil => simp [mTgts] at h
    | cons r1 rr =>
      unfold mTgts at h
      split at h
      · rename_i e1 h1
        refine ⟨_, _, rfl, tgt_ok t rel r1 h1 fun σ1 rel1 w1 => ?_⟩
        exact tgts_ok ts rel1 rr h fun σ2 rel2 w2 => k σ2 rel2 fun us hu => (w2 us fun i hi => hu i (by simp [slotsL, hi])).trans (w1 us fun i hi => hu i (by simp [slotsL, hi]))
      · cases h
end

/-! ### what is walked -/
/-- the items that come, whatever is added meanwhile -/
def ItOk (q : Par) (g : Gh) (H : Hp) (J : It) (ds : List D) : Prop := ∀ (g' : Gh) (H' : Hp), Ext (fun _ => False) g H g' H' → ∀ i : Nat,
  (∀ d, ds[i]? = some d → J.go i H' ∧ ∀ x H'', J.yld i H' x H'' → Same H' H'' ∧ Rep q.K g'.fz H'' x d) ∧ (ds.length ≤ i → J.stop i H')
theorem ItOk.ext {q : Par} {g g' : Gh} {H H' : Hp} {J : It} {ds : List D} {p : Addr → Prop} (h : ItOk q g H J ds) (x : Ext p g H g' H') : ItOk q g' H' J ds := fun g2 H2 x2 => h g2 H2 ((x.less fun _ z => z.elim).trans x2)
abbrev SemI (q : Par) (W : WX) (m : M (List D)) : TI := Sem q W m (fun g H _ _ J ds => ItOk q g H J ds)
/-- a value that is walked -/
def ItV (X : Cx) (tg : Expr) (r : V → Hp → (It → Hp → Prop) → Prop) : Prop :=
  ∀ (pins : List (Addr × Obj)) (s : Shared) (σ : L2.St) (H : Hp) (x : V) (v : Value) (R : It → Hp → Prop), Inv X pins σ H s → RelV x v → r x H R → wpAny (model X.prog X.w) X.A (pyIter v) (PIE X pins σ tg R) X.xe s
def rSeqIt (K : PySem.W.Frag) : V → Hp → (It → Hp → Prop) → Prop := fun x H R =>
  (∃ a, x = .ref a ∧ (∃ xs, SqL K H a xs) ∧ R (Itl K a) H) ∨ (∃ a, x = .ref a ∧ (∃ xs, SqT K H a xs) ∧ R (Itt K a) H) ∨ (∃ z, x = .str z ∧ R (Its z) H)
theorem itv_seq {X : Cx} {tg : Expr} : ItV X tg (rSeqIt X.K) := fun pins s σ H x v R I rx h => by
  rcases h with ⟨a, rfl, ⟨xs, hq⟩, q⟩ | ⟨a, rfl, ⟨xs, hq⟩, q⟩ | ⟨z, rfl, q⟩
  · cases rx
    obtain ⟨its, rv, p, hz⟩ := I.list hq
    refine wpAny_pyIter_list p.isList ?_
    refine ⟨s.heap.objs.size, [s.heap.objs.size], _, _, H, rfl, I.kept (t' := s.toks) fun b o e => Heap.get?_push_of_some _ e, turn_list a _, ⟨_, Heap.get?_push_size _ rfl, rfl, rfl⟩, fun b hb => ?_, q⟩
    have e : b = s.heap.objs.size := by simpa using hb
    subst e
    exact I.fpOk (Nat.le_refl _) (I.hok.fresh (Nat.le_refl _))
  · cases rx
    obtain ⟨its, rv, p, hz⟩ := I.tuple hq
    refine wpAny_pyIter_tuple (show s.heap.IsTuple a its.toArray from p) ?_
    refine ⟨s.heap.objs.size, [s.heap.objs.size], _, _, H, rfl, I.kept (t' := s.toks) fun b o e => Heap.get?_push_of_some _ e, turn_tuple a _, ⟨_, Heap.get?_push_size _ rfl, rfl, rfl⟩, fun b hb => ?_, q⟩
    have e : b = s.heap.objs.size := by simpa using hb
    subst e
    exact I.fpOk (Nat.le_refl _) (I.hok.fresh (Nat.le_refl _))
  · obtain ⟨t, rfl⟩ := rx
    cases ha : z.cps.all (· < 128)
    · exact wpAny_pyIter_wide ha (pi_one (tk := s.toks) I _ (turn_str _ z t "str_iterator" (.inr rfl)) ⟨_, Heap.get?_push_size _ rfl, rfl, rfl⟩ q)
    · exact wpAny_pyIter_ascii ha (pi_one (tk := s.toks) I _ (turn_str _ z t "str_ascii_iterator" (.inl rfl)) ⟨_, Heap.get?_push_size _ rfl, rfl, rfl⟩ q)
def signs (x : Str) : List D := x.cps.toList.map fun c => .str ⟨#[c]⟩
/-- the items of a sequence -/
def seqD : D → Option (List D)
  | .list ds => some ds
  | .tuple ds => some ds
  | .str x => some (signs x)
  | _ => none
def mSeqIt (m : M SV) : M (List D) := mBind (mArg m) fun sv => fun e c => match sv with
  | .val d => match seqD d with
    | some ds => .ok ds e c
    | none => .bad
  | _ => .bad
section
variable {q : Par} {g : Gh} {H : Hp} {a : Addr} {xs : List V} {ds : List D}
theorem itok_list (h : LstOk g.fz H a xs) (r : RepL q.K g.fz H xs ds) : ItOk q g H (Itl q.K a) ds := fun g' H' x i => by
  have h' : SqL q.K H' a xs := (h.ext x.keep x.fz).seq
  have r' := r.ext x.keep x.fz
  refine ⟨fun d hd => ?_, fun hl => ⟨xs, h', by rw [r.length]; exact hl⟩⟩
  obtain ⟨v, hv, rv⟩ := r'.get' hd
  refine ⟨⟨xs, v, h', hv⟩, fun y H'' hy => ?_⟩
  obtain ⟨rfl, f⟩ := hy
  have := f xs h'
  rw [hv] at this; cases this
  exact ⟨Same.refl _, rv⟩
theorem itok_tup (h : SqT q.K H a xs) (r : RepL q.K g.fz H xs ds) : ItOk q g H (Itt q.K a) ds := fun g' H' x i => by
  have h' : SqT q.K H' a xs := SqT.ext h (fun a o e m => x.keep a o e (.inl m))
  have r' := r.ext x.keep x.fz
  refine ⟨fun d hd => ?_, fun hl => ⟨xs, h', by rw [r.length]; exact hl⟩⟩
  obtain ⟨v, hv, rv⟩ := r'.get' hd
  refine ⟨⟨xs, v, h', hv⟩, fun y H'' hy => ?_⟩
  obtain ⟨rfl, f⟩ := hy
  have := f xs h'
  rw [hv] at this; cases this
  exact ⟨Same.refl _, rv⟩
theorem itok_str (z : Str) : ItOk q g H (Its z) (signs z) := fun g' H' x i => by
  unfold signs
  refine ⟨fun d hd => ?_, fun hl => show z.cps.size ≤ i by simpa using hl⟩
  rw [List.getElem?_map] at hd
  cases hc : z.cps.toList[i]? with
  | none => rw [hc] at hd; cases hd
  | some c =>
    rw [hc] at hd
    cases hd
    have hi : i < z.cps.size := by simpa using (List.getElem?_eq_some_iff.mp hc).1
    refine ⟨hi, fun y H'' hy => ?_⟩
    obtain ⟨rfl, c', h1, rfl⟩ := hy
    have h2 : z.cps[i]? = some c := by rw [← hc]; simp
    rw [h1] at h2; cases h2
    exact ⟨Same.refl _, .str _⟩
def zipD (a b : List D) : List D := (a.zip b).map fun p => .tuple [p.1, p.2]
theorem zip_get {a b : List D} {i : Nat} {d : D} (h : (zipD a b)[i]? = some d) : ∃ x y, a[i]? = some x ∧ b[i]? = some y ∧ d = .tuple [x, y] := by
  unfold zipD at h
  rw [List.getElem?_map] at h
  cases hz : (a.zip b)[i]? with
  | none => rw [hz] at h; cases h
  | some p =>
    rw [hz] at h
    cases h
    obtain ⟨h1, h2⟩ := List.getElem?_zip_eq_some.mp hz
    exact ⟨_, _, h1, h2, rfl⟩
theorem zip_len {a b : List D} : (zipD a b).length = min a.length b.length := by simp [zipD]
theorem itok_zip {b : Addr} {ys : List V} {es : List D} (h1 : LstOk g.fz H a xs) (r1 : RepL q.K g.fz H xs ds) (h2 : LstOk g.fz H b ys) (r2 : RepL q.K g.fz H ys es) : ItOk q g H (Itz q.K a b) (zipD ds es) := fun g' H' x i => by
  have s1 : SqL q.K H' a xs := (h1.ext x.keep x.fz).seq
  have s2 : SqL q.K H' b ys := (h2.ext x.keep x.fz).seq
  have r1' := r1.ext x.keep x.fz
  have r2' := r2.ext x.keep x.fz
  refine ⟨fun d hd => ?_, fun hl => ⟨xs, ys, s1, s2, by rw [zip_len] at hl; rw [r1.length, r2.length]; omega⟩⟩
  obtain ⟨u, w, hu, hw, rfl⟩ := zip_get hd
  obtain ⟨v1, hv1, rv1⟩ := r1'.get' hu
  obtain ⟨v2, hv2, rv2⟩ := r2'.get' hw
  refine ⟨⟨xs, ys, v1, v2, s1, s2, hv1, hv2⟩, fun y H'' hy => ?_⟩
  obtain ⟨T, y1, y2, rfl, hT, rfl, f1, f2⟩ := hy
  have e1 := f1 xs s1
  rw [hv1] at e1; cases e1
  have e2 := f2 ys s2
  rw [hv2] at e2; cases e2
  refine ⟨same_upd hT, .tup (.inl (.inl upd_same)) ?_⟩
  exact (RepL.cons rv1 (.cons rv2 .nil)).ext (Ext.same (p := fun _ => False) (g := g') (same_upd hT)).keep fun _ z => z
theorem itok_zipT {b : Addr} {ys : List V} {es : List D} (h1 : SqT q.K H a xs) (r1 : RepL q.K g.fz H xs ds) (h2 : SqT q.K H b ys) (r2 : RepL q.K g.fz H ys es) : ItOk q g H (RZ.ItzT q.K a b) (zipD ds es) := fun g' H' x i => by
  have s1 : SqT q.K H' a xs := SqT.ext h1 (fun a o e m => x.keep a o e (.inl m))
  have s2 : SqT q.K H' b ys := SqT.ext h2 (fun a o e m => x.keep a o e (.inl m))
  have r1' := r1.ext x.keep x.fz
  have r2' := r2.ext x.keep x.fz
  refine ⟨fun d hd => ?_, fun hl => ⟨xs, ys, s1, s2, by rw [zip_len] at hl; rw [r1.length, r2.length]; omega⟩⟩
  obtain ⟨u, w, hu, hw, rfl⟩ := zip_get hd
  obtain ⟨v1, hv1, rv1⟩ := r1'.get' hu
  obtain ⟨v2, hv2, rv2⟩ := r2'.get' hw
  refine ⟨⟨xs, ys, v1, v2, s1, s2, hv1, hv2⟩, fun y H'' hy => ?_⟩
  obtain ⟨T, y1, y2, rfl, hT, rfl, f1, f2⟩ := hy
  have e1 := f1 xs s1
  rw [hv1] at e1; cases e1
  have e2 := f2 ys s2
  rw [hv2] at e2; cases e2
  refine ⟨same_upd hT, .tup (.inl (.inl upd_same)) ?_⟩
  exact (RepL.cons rv1 (.cons rv2 .nil)).ext (Ext.same (p := fun _ => False) (g := g') (same_upd hT)).keep fun _ z => z
theorem itok_range (lo : Int) (n : Nat) : ItOk q g H (Itr lo n) ((List.range n).map fun k => .int (lo + (k : Nat))) := fun g' H' x i => by
  refine ⟨fun d hd => ?_, fun hl => show n ≤ i by simpa using hl⟩
  rw [List.getElem?_map] at hd
  by_cases hi : i < n
  · rw [List.getElem?_range hi] at hd
    cases hd
    refine ⟨hi, fun y H'' hy => ?_⟩
    obtain ⟨rfl, rfl⟩ := hy
    exact ⟨Same.refl _, .int _⟩
  · rw [List.getElem?_eq_none (by simpa using hi)] at hd; cases hd
end
section
variable {X : Cx} {q : Par} {W : WX} {a b : Expr} {es : List Expr} {o : Opnd} {os : List Opnd} {m : M SV} {pos p : Pos} {tg : Expr}
theorem PI.imp {wi wi' : TI} (h : PI X tg a wi) (i : ∀ σ H R, wi' σ H R → wi σ H R) : PI X tg a wi' := ⟨fun pins s σ H R I w => h.run pins s σ H R I (i σ H R w)⟩
theorem pi_v {te : TE} {r : V → Hp → (It → Hp → Prop) → Prop} (hv : ItV X tg r) (h : PE X a te) : PI X tg a (fun σ H R => te σ H fun x H1 => r x H1 R) := ⟨fun pins s σ H R I w =>
  thn (h.run pins s σ H _ I w) fun v s1 ⟨x, H1, I1, r1, q1⟩ => hv pins s1 σ H1 x v R I1 r1 q1⟩
theorem si_seq (hK : X.K = q.K) (h : PE X a (SemE q W m)) : PI X tg a (SemI q W (mSeqIt m)) := PI.imp (pi_v itv_seq (sv_of h)) fun σ H R ⟨g, e, c, rel, z⟩ => by
  refine ⟨g, e, c, rel, ?_⟩
  refine At.bind z fun sv e1 c1 v g1 H1 _ rel1 x1 ok z => ?_
  rw [hK]
  cases sv with
  | own d => exact ok.elim
  | cell => exact z.elim
  | val d =>
    cases ok with
    | lst h r => exact .inl ⟨_, rfl, ⟨_, h.seq⟩, z _ g1 H1 rel1 (Ext.refl _ _) (itok_list h r)⟩
    | tup h r => exact .inr (.inl ⟨_, rfl, ⟨_, h⟩, z _ g1 H1 rel1 (Ext.refl _ _) (itok_tup h r)⟩)
    | str x => exact .inr (.inr ⟨_, rfl, z _ g1 H1 rel1 (Ext.refl _ _) (itok_str x)⟩)
    | _ => exact z.elim
/-- zip of two -/
def mZip (m1 m2 : M SV) : M (List D) := mBind (mArgs [m1, m2]) fun svs => fun e c => match svs with
  | [.val (.list a), .val (.list b)] => .ok (zipD a b) e c
  | [.val (.tuple a), .val (.tuple b)] => .ok (zipD a b) e c
  | _ => .bad
theorem si_zip {m1 m2 : M SV} {e1 e2 : Expr} {elts : List Expr} {kk : Nat} {tpos : Pos} (hK : X.K = q.K) (hg : Gl X "zip") (hm : X.mg "zip" = none) (ha : PA X [e1, e2] (SemVs q W [m1, m2]))
    (hs : starEach [e1, e2] X.env = (false, eval e1 X.env) :: starEach [e2] X.env) (hpl : (backTo pos (starEach [e2] X.env)).any (·.1) = false) :
    PI X (.Tuple elts kk tpos) (.Call (.Name "zip" p) [e1, e2] [] pos) (SemI q W (mZip m1 m2)) := PI.imp (RZ.pi_zipA hg hm ha hs hpl) fun σ H R ⟨g, e, c, rel, z⟩ => by
  refine ⟨g, e, c, rel, ?_⟩
  refine At.bind z fun svs e1 c1 vs g1 H1 _ rel1 x1 ok z => ?_
  rw [hK]
  split at z
  · rename_i a b
    cases ok with
    | cons o1 ok =>
      cases ok with
      | cons o2 ok =>
        cases ok
        cases o1 with
        | lst h1 r1 =>
          cases o2 with
          | lst h2 r2 => exact ⟨_, _, _, _, rfl, .inl ⟨h1.seq, h2.seq, z _ g1 H1 rel1 (Ext.refl _ _) (itok_zip h1 r1 h2 r2)⟩⟩
  · rename_i a b
    cases ok with
    | cons o1 ok =>
      cases ok with
      | cons o2 ok =>
        cases ok
        cases o1 with
        | tup h1 r1 =>
          cases o2 with
          | tup h2 r2 => exact ⟨_, _, _, _, rfl, .inr ⟨h1, h2, z _ g1 H1 rel1 (Ext.refl _ _) (itok_zipT h1 r1 h2 r2)⟩⟩
  · exact z.elim
/-- range -/
def rngD (lo : Int) (n : Nat) : List D := (List.range n).map fun k => .int (lo + (k : Nat))
abbrev okR (j : Int) : Prop := -(2 ^ 62) ≤ j ∧ j < 2 ^ 62
def intsOf : List D → Option (List Int)
  | [] => some []
  | .int i :: r => match intsOf r with
    | some is => some (i :: is)
    | none => none
  | _ :: _ => none
def mInts (os : List Opnd) : M (List Int) := mBind (mOs os) fun ps => fun e c => match rds e c ps with
  | some ds => match intsOf ds with
    | some is => .ok is e c
    | none => .bad
  | none => .bad
def mRng1 (o : Opnd) : M (List D) := mBind (mInts [o]) fun is => fun e c => match is with
  | [j] => if okR j then .ok (rngD 0 j.toNat) e c else .bad
  | _ => .bad
def mRng2 (o1 o2 : Opnd) : M (List D) := mBind (mInts [o1, o2]) fun is => fun e c => match is with
  | [i, j] => if okR i ∧ okR j then .ok (rngD i (j - i).toNat) e c else .bad
  | _ => .bad
theorem intsOf_ok {K : PySem.W.Frag} {F : Addr → Prop} {H : Hp} : ∀ {ds : List D} {vs : List V} {is : List Int}, ArgL K F H vs ds → intsOf ds = some is → vs = is.map V.int
  | [], _, _, .nil, h => by cases h; rfl
  | .int i :: r, _, _, .cons a b, h => by
    unfold intsOf at h
    cases h1 : intsOf r with
    | none => rw [h1] at h; cases h
    | some is => rw [h1] at h; cases h; cases a; rw [intsOf_ok b h1]; rfl
  | .none :: r, _, _, _, h => by simp [intsOf] at h
  | .bool _ :: r, _, _, _, h => by simp [intsOf] at h
  | .str _ :: r, _, _, _, h => by simp [intsOf] at h
  | .list _ :: r, _, _, _, h => by simp [intsOf] at h
  | .tuple _ :: r, _, _, _, h => by simp [intsOf] at h
  | .dict _ :: r, _, _, _, h => by simp [intsOf] at h
theorem sints (h : PA X es (SemOs q W os)) : PA X es (Sem q W (mInts os) fun _ _ _ _ vs is => vs = is.map V.int) := PA.imp h fun σ H Q ⟨g, e, c, rel, z⟩ => by
  refine ⟨g, e, c, rel, ?_⟩
  refine At.bind z fun ps e1 c1 vs g1 H1 _ rel1 x1 ok z => ?_
  cases hd : rds e1 c1 ps with
  | none => simp only [hd] at z; exact z.elim
  | some ds =>
    simp only [hd] at z
    cases hi : intsOf ds with
    | none => simp only [hi] at z; exact z.elim
    | some is =>
      simp only [hi] at z
      exact z _ g1 H1 rel1 (Ext.refl _ _) (intsOf_ok (rds_ok rel1 ok hd) hi)
theorem si_rng1 {ea : Expr} (hg : Gl X "range") (hm : X.mg "range" = none) (ha : PA X [ea] (SemOs q W [o])) (hs : starEach [ea] X.env = [(false, eval ea X.env)]) : PI X tg (.Call (.Name "range" p) [ea] [] pos) (SemI q W (mRng1 o)) :=
  PI.imp (pi_range1 hg hm (sints ha) hs) fun σ H R ⟨g, e, c, rel, z⟩ => by
    refine ⟨g, e, c, rel, ?_⟩
    refine At.bind z fun is e1 c1 vs g1 H1 _ rel1 x1 ok z => ?_
    subst ok
    match is, z with
    | [j], z =>
      dsimp only at z
      split at z
      · rename_i hj
        exact ⟨j, rfl, hj.1, hj.2, z _ g1 H1 rel1 (Ext.refl _ _) (itok_range 0 j.toNat)⟩
      · exact z.elim
    | [], z => exact z.elim
    | _ :: _ :: _, z => exact z.elim
theorem si_rng2 {ea eb : Expr} {o1 o2 : Opnd} (hg : Gl X "range") (hm : X.mg "range" = none) (ha : PA X [ea, eb] (SemOs q W [o1, o2])) (hs : starEach [ea, eb] X.env = [(false, eval ea X.env), (false, eval eb X.env)]) (hs2 : starEach [eb] X.env = [(false, eval eb X.env)]) :
    PI X tg (.Call (.Name "range" p) [ea, eb] [] pos) (SemI q W (mRng2 o1 o2)) :=
  PI.imp (pi_range2 hg hm (sints ha) hs hs2) fun σ H R ⟨g, e, c, rel, z⟩ => by
    refine ⟨g, e, c, rel, ?_⟩
    refine At.bind z fun is e1 c1 vs g1 H1 _ rel1 x1 ok z => ?_
    subst ok
    match is, z with
    | [i, j], z =>
      dsimp only at z
      split at z
      · rename_i hj
        exact ⟨i, j, rfl, ⟨hj.1.1, hj.1.2, hj.2.1, hj.2.2⟩, z _ g1 H1 rel1 (Ext.refl _ _) (itok_range i (j - i).toNat)⟩
      · exact z.elim
    | [], z => exact z.elim
    | [_], z => exact z.elim
    | _ :: _ :: _ :: _, z => exact z.elim

/-! ### list comprehensions -/
def wipeE (e : Env) : List Nat → Env
  | [] => e
  | v :: vs => (wipeE e vs).set v none
/-- the block's own names as they were -/
def restE (e e' : Env) : List Nat → Env
  | [] => e'
  | v :: vs => (restE e e' vs).set v (e[v]?.getD none)
def noOwn (e : Env) (vs : List Nat) : Bool := vs.all fun v => match e[v]? with
  | some (some (.own _)) => false
  | some (some .cell) => false
  | _ => true
def mIfs : List (M Bool) → M Bool
  | [] => fun e c => .ok true e c
  | m :: _ => m
def compT (own : List Nat) (t : Tgt) (ifs : M Bool) (elt : M SV) : List D → M (List D)
  | [] => fun e c => .ok [] (wipeE e own) c
  | d :: ds => fun e c => match mTgt t d (wipeE e own) with
    | none => .bad
    | some e1 => mBind ifs (fun b => if b = true then mBind (mArg elt) (fun sv => match sv with
        | .val x => mBind (compT own t ifs elt ds) fun r => fun e c => .ok (x :: r) e c
        | _ => mBad) else compT own t ifs elt ds) e1 c
def mNoX {α : Type} (m : M α) : M α := fun e c => match m e c with
  | .ok a e c => .ok a e c
  | _ => .bad
def mComp (own : List Nat) (it : M (List D)) (t : Tgt) (ifs : M Bool) (elt : M SV) : M SV := mBind it fun ds => fun e c =>
  if ds.length ≤ 16777216 ∧ noOwn e own = true ∧ (∀ i ∈ t.slots, i ∈ own) then mBind (mNoX (compT own t ifs elt ds)) (fun r => fun e' c' => .ok (.own (.list r)) (restE e e' own) c') e c else .bad

theorem wipeE_get {e : Env} {i : Nat} {x : SV} : ∀ {vs : List Nat}, (wipeE e vs)[i]? = some (some x) → e[i]? = some (some x) ∧ i ∉ vs
  | [], h => ⟨h, by simp⟩
  | v :: vs, h => by
    unfold wipeE at h
    by_cases hi : v = i
    · subst hi
      by_cases hv : v < (wipeE e vs).length
      · rw [List.getElem?_set_self hv] at h; cases h
      · rw [List.getElem?_eq_none (by rw [List.length_set]; omega)] at h; cases h
    · rw [List.getElem?_set_ne hi] at h
      obtain ⟨h1, h2⟩ := wipeE_get h
      exact ⟨h1, by simp only [List.mem_cons, not_or]; exact ⟨fun e => hi e.symm, h2⟩⟩
theorem wipeE_length (e : Env) : ∀ vs : List Nat, (wipeE e vs).length = e.length
  | [] => rfl
  | v :: vs => by unfold wipeE; rw [List.length_set, wipeE_length e vs]
theorem wipe_get {σ : L2.St} {i : Nat} {x : V} : ∀ {vs : List Nat}, i ∉ vs → σ[i]? = some (some x) → (wipe σ vs)[i]? = some (some x)
  | [], _, h => h
  | v :: vs, n, h => by
    unfold wipe
    rw [List.getElem?_set_ne (fun e : v = i => n (by rw [e]; exact List.mem_cons_self))]
    exact wipe_get (fun z => n (List.mem_cons_of_mem _ z)) h
theorem restE_length (e e' : Env) : ∀ vs : List Nat, (restE e e' vs).length = e'.length
  | [] => rfl
  | v :: vs => by unfold restE; rw [List.length_set, restE_length e e' vs]
theorem restE_get {e e' : Env} {i : Nat} {x : SV} : ∀ {vs : List Nat}, (restE e e' vs)[i]? = some (some x) → (i ∈ vs ∧ e[i]? = some (some x)) ∨ (i ∉ vs ∧ e'[i]? = some (some x))
  | [], h => .inr ⟨by simp, h⟩
  | v :: vs, h => by
    unfold restE at h
    by_cases hi : v = i
    · subst hi
      by_cases hv : v < (restE e e' vs).length
      · rw [List.getElem?_set_self hv] at h
        cases he : e[v]? with
        | none => rw [he] at h; cases h
        | some o => rw [he] at h; exact .inl ⟨List.mem_cons_self, h⟩
      · rw [List.getElem?_eq_none (by rw [List.length_set]; omega)] at h; cases h
    · rw [List.getElem?_set_ne hi] at h
      rcases restE_get h with ⟨h1, h2⟩ | ⟨h1, h2⟩
      · exact .inl ⟨List.mem_cons_of_mem _ h1, h2⟩
      · exact .inr ⟨by simp only [List.mem_cons, not_or]; exact ⟨fun e => hi e.symm, h1⟩, h2⟩
theorem Rel.wipe {q : Par} {g : Gh} {H : Hp} {σ : L2.St} {e : Env} {c : Cel} (r : Rel q g H σ e c) (vs : List Nat) : Rel q g H (L2.wipe σ vs) (wipeE e vs) c :=
  ⟨r.frm, r.al, r.cel, by rw [wipeE_length, wipe_length]; exact r.len,
    fun i d h => let ⟨h1, h2⟩ := wipeE_get h; let ⟨v, a, b⟩ := r.val i d h1; ⟨v, wipe_get h2 a, b⟩,
    fun i d h => let ⟨h1, h2⟩ := wipeE_get h; let ⟨v, a, b⟩ := r.own i d h1; ⟨v, wipe_get h2 a, b⟩,
    fun i h => let ⟨h1, h2⟩ := wipeE_get h; let ⟨v, a, b⟩ := r.cll i h1; ⟨v, a, wipe_get h2 b⟩, r.pin,
    fun i j d d' a h1 h2 h3 h4 => r.dis i j d d' a (wipeE_get h1).1 (wipeE_get h2).1 (wipe_some h3).1 (wipe_some h4).1⟩
theorem Rel.rest {q : Par} {g g' : Gh} {H H' : Hp} {σ : L2.St} {e e' : Env} {c c' : Cel} {vs : List Nat} (r : Rel q g H σ e c) (r' : Rel q g' H' (L2.wipe σ vs) e' c') (x : Ext q.pin g H g' H') (no : noOwn e vs = true) : Rel q g' H' σ (restE e e' vs) c' := by
  have ow : ∀ (i : Nat) (d : D), (restE e e' vs)[i]? = some (some (.own d)) → i ∉ vs ∧ e'[i]? = some (some (.own d)) := fun i d h => by
    rcases restE_get h with ⟨h1, h2⟩ | h
    · have := List.all_eq_true.mp no i h1
      rw [h2] at this; cases this
    · exact h
  refine ⟨r'.frm, r'.al, r'.cel, by rw [restE_length, r'.len, wipe_length], fun i d h => ?_, fun i d h => ?_, fun i h => ?_, r'.pin, fun i j d d' a h1 h2 h3 h4 => ?_⟩
  · rcases restE_get h with ⟨h1, h2⟩ | ⟨h1, h2⟩
    · obtain ⟨v, a, b⟩ := r.val i d h2
      exact ⟨v, a, b.ext x.keep x.fz⟩
    · obtain ⟨v, a, b⟩ := r'.val i d h2
      exact ⟨v, (wipe_some a).1, b⟩
  · obtain ⟨v, a, b⟩ := r'.own i d (ow i d h).2
    exact ⟨v, (wipe_some a).1, b⟩
  · rcases restE_get h with ⟨h1, h2⟩ | ⟨h1, h2⟩
    · have := List.all_eq_true.mp no i h1
      rw [h2] at this; cases this
    · obtain ⟨v, a, b⟩ := r'.cll i h2
      exact ⟨v, a, (wipe_some b).1⟩
  · obtain ⟨n1, e1⟩ := ow i d h1
    obtain ⟨n2, e2⟩ := ow j d' h2
    exact r'.dis i j d d' a e1 e2 (wipe_get n1 h3) (wipe_get n2 h4)
theorem wipe_wipe {σ : L2.St} (vs : List Nat) : L2.wipe (L2.wipe σ vs) vs = L2.wipe σ vs := by
  have gen : ∀ (us : List Nat) (τ : L2.St), (∀ i ∈ us, τ[i]? = some none ∨ τ.length ≤ i) → L2.wipe τ us = τ := by
    intro us
    induction us with
    | nil => intro _ _; rfl
    | cons u us ih =>
      intro τ h
      unfold L2.wipe
      rw [ih τ fun i hi => h i (List.mem_cons_of_mem _ hi)]
      rcases h u List.mem_cons_self with h | h
      · apply List.ext_getElem?
        intro j
        by_cases hj : u = j
        · subst hj
          rw [List.getElem?_set_self (List.getElem?_eq_some_iff.mp h).1, h]
        · rw [List.getElem?_set_ne hj]
      · exact List.set_eq_of_length_le h
  refine gen vs _ fun i hi => ?_
  by_cases hl : i < (L2.wipe σ vs).length
  · refine .inl ?_
    cases hx : (L2.wipe σ vs)[i]? with
    | none => rw [List.getElem?_eq_none_iff] at hx; omega
    | some o =>
      cases o with
      | none => rfl
      | some v => exact absurd hi (wipe_some hx).2
  · exact .inr (Nat.le_of_not_lt hl)
/-- the comprehension's reading -/
theorem lc_of {it : M (List D)} {t : Tgt} {mi : M Bool} {me : M SV} {own : List Nat} {tt : TT} {te : TE} (ht : ∀ q', q'.K = q.K → q'.xc = q.xc → ∀ σ H Q, SemT q' (fun _ _ _ _ => False) mi σ H Q → tt σ H Q)
    (he : ∀ q', q'.K = q.K → q'.xc = q.xc → ∀ σ H Q, SemV q' (fun _ _ _ _ => False) me σ H Q → te σ H Q) :
    ∀ σ H Q, SemE q W (mComp own it t mi me) σ H Q → tLc (SemI q W it) (gTgt q.K t) tt te own σ H Q := fun σ H Q ⟨g, e, c, rel, z⟩ => by
  refine ⟨g, e, c, rel, ?_⟩
  refine At.bind z fun ds e1 c1 J g1 H1 _ rel1 x1 iok z => ?_
  intro Dn hDn
  split at z
  case isFalse => exact z.elim
  rename_i hg
  obtain ⟨hlen, hno, hsl⟩ := hg
  cases hR : compT own t mi me ds e1 c1 with
  | bad => simp only [mNoX, mBind, hR] at z; exact z.elim
  | ex x ef cf => simp only [mNoX, mBind, hR] at z; exact z.elim
  | ok r ef cf =>
  simp only [mNoX, mBind, hR] at z
  -- the new list stands still but for us
  have npD : ¬ q.pin Dn := fun h => by obtain ⟨⟨o, ho⟩, _⟩ := rel1.pin Dn h; rw [hDn] at ho; cases ho
  have nfD : ¬ g1.fz Dn := fun h => by obtain ⟨o, ho⟩ := rel1.al Dn h; rw [hDn] at ho; cases ho
  have ncD : g1.cA ≠ some Dn := fun h => by obtain ⟨o, ho, _⟩ := rel1.cel.mut h; rw [hDn] at ho; cases ho
  have n0D : q.H0 Dn = none := by
    cases w : q.H0 Dn with
    | none => rfl
    | some o =>
      have := rel1.frm.keep Dn o w fun y => ncD (rel1.frm.cA Dn y)
      rw [hDn] at this; cases this
  have sm : Same H1 (upd H1 Dn (.lst [])) := same_upd hDn
  generalize hq' : ({ q with pin := fun b => b = Dn ∨ q.pin b } : Par) = q'
  have qK : q'.K = q.K := by rw [← hq']
  have qx : q'.xc = q.xc := by rw [← hq']
  have qH : q'.H0 = q.H0 := by rw [← hq']
  have qp : ∀ b, q'.pin b ↔ (b = Dn ∨ q.pin b) := fun b => by rw [← hq']
  have relD : Rel q' g1 (upd H1 Dn (.lst [])) σ e1 c1 := by
    rw [← hq']
    refine (rel1.same sm).pinned upd_same nfD ncD n0D fun i d hi hs => ?_
    obtain ⟨b, h1, h2⟩ := rel1.own i d hi
    rw [hs] at h1; cases h1
    obtain ⟨o, ho⟩ := h2.cont.obj
    rw [hDn] at ho; cases ho
  let Wv : Nat → Hp → Prop := fun i H => i ≤ ds.length ∧ ∃ g' ei ci accV acc rest, Rel q' g' H (L2.wipe σ own) (wipeE ei own) ci ∧ Ext q.pin g1 H1 g' H ∧ H Dn = some (.lst accV) ∧ RepL q.K g'.fz H accV acc ∧ acc.length ≤ i ∧
    compT own t mi me (ds.drop i) ei ci = .ok rest ef cf ∧ acc ++ rest = r
  refine ⟨fun i m H => m = ds.length - i ∧ Wv i H, ⟨ds.length, by simp, Nat.zero_le _, g1, e1, c1, [], [], r, relD.wipe own, Ext.same sm, upd_same, .nil, Nat.le_refl _, by rw [List.drop_zero]; exact hR, rfl⟩, ?_⟩
  rintro i m H2 ⟨rfl, hi, g2, ei, ci, accV, acc, rest, rel2, x2, hD, ra, hal, hC, hr⟩
  have io := iok g2 H2 (x2.less fun _ w => w.elim) i
  by_cases hlt : i < ds.length
  · refine .inr ?_
    have hdi : ds[i]? = some ds[i] := List.getElem?_eq_getElem hlt
    obtain ⟨go, yl⟩ := io.1 _ hdi
    refine ⟨go, Wv (i + 1), fun H' w => ⟨ds.length - (i + 1), by omega, rfl, w⟩, fun x H3 hy => ?_⟩
    obtain ⟨sm3, rx⟩ := yl x H3 hy
    rw [List.drop_eq_getElem_cons hlt] at hC
    unfold compT at hC
    cases hT : mTgt t ds[i] (wipeE ei own) with
    | none => simp only [hT] at hC; cases hC
    | some ea =>
    simp only [hT] at hC
    have rel3 := rel2.same sm3
    rw [← qK]
    rw [← qK] at rx
    refine tgt_ok t rel3 rx hT fun σ4 rel4 wp => ?_
    have w4 : L2.wipe σ4 own = L2.wipe σ own := (wp own hsl).trans (wipe_wipe own)
    refine ⟨w4, ?_⟩
    have hD3 : H3 Dn = some (.lst accV) := sm3 _ _ hD
    have ra3 : RepL q.K g2.fz H3 accV acc := ra.ext (Ext.same (p := q.pin) (g := g2) sm3).keep fun _ w => w
    have x3 : Ext q.pin g1 H1 g2 H3 := x2.trans (Ext.same sm3)
    unfold mBind at hC
    cases hI : mi ea ci with
    | bad => simp only [hI] at hC; cases hC
    | ex y e5 c5 => simp only [hI] at hC; cases hC
    | ok b e5 c5 =>
    simp only [hI] at hC
    refine ht q' qK qx σ4 H3 _ ⟨g2, ea, ci, rel4, ?_⟩
    rw [hI]
    intro b' g5 H5 rel5 x5 hb
    subst hb
    have hD5 : H5 Dn = some (.lst accV) := x5.keep3 _ _ hD3 (.inr (.inr ((qp Dn).mpr (.inl rfl))))
    have x5' : Ext q.pin g2 H3 g5 H5 := x5.less fun b h => (qp b).mpr (.inr h)
    have ra5 : RepL q.K g5.fz H5 accV acc := ra3.ext x5'.keep x5'.fz
    cases b' with
    | false =>
      simp only [Bool.false_eq_true, if_false] at hC ⊢
      refine ⟨hlt, g5, e5, c5, accV, acc, rest, ?_, x3.trans x5', hD5, ra5, by omega, hC, hr⟩
      have := rel5.wipe own
      rw [w4] at this
      exact this
    | true =>
      simp only [if_true] at hC ⊢
      cases hE : mArg me e5 c5 with
      | bad => simp only [hE] at hC; cases hC
      | ex y e6 c6 => simp only [hE] at hC; cases hC
      | ok sv e6 c6 =>
      simp only [hE] at hC
      refine he q' qK qx σ4 H5 _ ⟨g5, e5, c5, rel5, ?_⟩
      rw [hE]
      intro y g6 H6 rel6 x6 hy6
      cases sv with
      | own d => exact hy6.elim
      | cell => simp only [mBad] at hC; cases hC
      | val d =>
        simp only at hC
        cases hN : compT own t mi me (ds.drop (i + 1)) e6 c6 with
        | bad => simp only [hN] at hC; cases hC
        | ex y e7 c7 => simp only [hN] at hC; cases hC
        | ok r' e7 c7 =>
          simp only [hN] at hC
          cases hC
          have hD6 : H6 Dn = some (.lst accV) := x6.keep3 _ _ hD5 (.inr (.inr ((qp Dn).mpr (.inl rfl))))
          have x6' : Ext q.pin g5 H5 g6 H6 := x6.less fun b h => (qp b).mpr (.inr h)
          have ra6 : RepL q.K g6.fz H6 accV acc := ra5.ext x6'.keep x6'.fz
          have ry : Rep q.K g6.fz H6 y d := by rw [← qK]; exact hy6
          obtain ⟨_, nf6, nc6, _⟩ := rel6.pin Dn ((qp Dn).mpr (.inl rfl))
          have px : Ext q.pin g6 H6 g6 (upd H6 Dn (.lst (accV ++ [y]))) := ⟨fun b u h w => by
            rw [upd_ne]
            · exact h
            · rintro rfl
              rw [hD6] at h; cases h
              rcases w with w | w | w
              · exact w
              · exact nf6 w
              · exact npD w, fun _ w => w, fun _ w => w⟩
          have hsz : acc.length < 16777216 := by omega
          refine ⟨accV, hD6, ?_, hlt, g6, e6, c6, accV ++ [y], acc ++ [d], r', ?_, (x3.trans x5').trans (x6'.trans px), upd_same, ?_, ?_, hN, by rw [← hr, List.append_assoc]; rfl⟩
          · rw [ra6.length]; exact hsz
          · have := (rel6.poke (o' := .lst (accV ++ [y])) ((qp Dn).mpr (.inl rfl)) hD6 (fun w => w)).wipe own
            rw [w4] at this
            exact this
          · exact (ra6.append (.cons ry .nil)).ext px.keep px.fz
          · rw [List.length_append]; simp only [List.length_cons, List.length_nil]; omega
  · have e : i = ds.length := by omega
    subst e
    refine .inl ⟨io.2 (Nat.le_refl _), ?_⟩
    rw [List.drop_length] at hC
    unfold compT at hC
    cases hC
    rw [List.append_nil] at hr
    subst hr
    obtain ⟨_, nf2, nc2, n02⟩ := rel2.pin Dn ((qp Dn).mpr (.inl rfl))
    have relq : Rel q g2 H2 (L2.wipe σ own) (wipeE ei own) cf := by
      rw [← hq'] at rel2
      exact rel2.unpinned fun b h => .inr h
    refine z (.ref Dn) g2 H2 (rel1.rest relq x2 hno) x2 ⟨Dn, rfl, ⟨⟨accV, hD, ra⟩, nf2, nc2, by rw [← qH]; exact n02, npD⟩, fun j d' hj hs => ?_⟩
    rcases restE_get hj with ⟨h1, h2⟩ | ⟨h1, h2⟩
    · have := List.all_eq_true.mp hno j h1
      rw [h2] at this; cases this
    · obtain ⟨b, h3, h4⟩ := rel2.own j d' h2
      have h5 := wipe_get h1 hs
      rw [h3] at h5
      cases h5
      exact h4.np ((qp _).mpr (.inl rfl))
end
end Ev

/-! Statements, defs. -/
namespace Ev
open PySem PySem.Spec PyProof.Rows L2

inductive Fl where
  | nx | rt (sv : SV)
def AtS (q : Par) (W : WX) (g : Gh) (H : Hp) (D : Ends) : R Fl → Prop
  | .ok .nx e' c' => ∀ σ' g' H', Rel q g' H' σ' e' c' → Ext q.pin g H g' H' → D.nx σ' H'
  | .ok (.rt sv) e' c' => ∀ v σ' g' H', Rel q g' H' σ' e' c' → Ext q.pin g H g' H' → ResOk q g' H' σ' e' v sv → D.rt v H'
  | .ex x e' c' => ∀ cls dx σ' g' H', Rel q g' H' σ' e' c' → Ext q.pin g H g' H' → XOk q x cls dx → W cls dx σ' H'
  | .bad => False
def SemS (q : Par) (W : WX) (m : M Fl) : TS := fun D σ H => ∃ g e c, Rel q g H σ e c ∧ AtS q W g H D (m e c)
theorem AtS.shift {q : Par} {W : WX} {g g' : Gh} {H H' : Hp} {D : Ends} {r : R Fl} (h : AtS q W g H D r) (x : Ext q.pin g H g' H') : AtS q W g' H' D r := by
  cases r with
  | bad => exact h
  | ex y e c => exact fun cls dx σ2 g2 H2 r2 x2 o => h cls dx σ2 g2 H2 r2 (x.trans x2) o
  | ok f e c =>
    cases f with
    | nx => exact fun σ2 g2 H2 r2 x2 => h σ2 g2 H2 r2 (x.trans x2)
    | rt sv => exact fun v σ2 g2 H2 r2 x2 o => h v σ2 g2 H2 r2 (x.trans x2) o
/-- behind an expression -/
theorem AtS.bind {α β : Type} {q : Par} {W : WX} {σ : L2.St} {g : Gh} {H : Hp} {D : Ends} {m : M α} {k : α → M Fl} {e : Env} {c : Cel} {Ok1 : Gh → Hp → Env → β → α → Prop} {P : β → Hp → Prop}
    (h : AtS q W g H D (mBind m k e c))
    (i : ∀ a e' c' b g' H', m e c = .ok a e' c' → Rel q g' H' σ e' c' → Ext q.pin g H g' H' → Ok1 g' H' e' b a → AtS q W g' H' D (k a e' c') → P b H') : At q W σ g H (m e c) Ok1 P := by
  unfold mBind at h
  cases hm : m e c with
  | bad => rw [hm] at h; exact h
  | ex y e1 c1 => rw [hm] at h; exact fun cls dx g2 H2 r2 x2 o => h cls dx σ g2 H2 r2 x2 o
  | ok a e1 c1 =>
    rw [hm] at h
    exact fun b g2 H2 r2 x2 o => i a e1 c1 b g2 H2 hm r2 x2 o (AtS.shift h x2)
def mSeq (a b : M Fl) : M Fl := fun e c => match a e c with
  | .ok .nx e' c' => b e' c'
  | r => r
def mNx : M Fl := fun e c => .ok .nx e c
def mDrop (m : M SV) : M Fl := mBind m fun _ => mNx
def mRet (m : M SV) : M Fl := mBind m fun sv => fun e c => .ok (.rt sv) e c
def mMove (i : Nat) : M SV := fun e c => match e[i]? with
  | some (some (.own d)) => .ok (.own d) (e.set i none) c
  | some (some sv) => .ok sv e c
  | _ => .bad
def mSet (i : Nat) (m : M SV) : M Fl := mBind m fun sv => fun e c => .ok .nx (e.set i (some sv)) c
def mSetCup (i : Nat) (m : M SV) : M Fl := mBind m fun sv => fun e c => match sv, c with
  | .own (.list [.int x, .int y]), none => .ok .nx (e.set i (some .cell)) (some (x, y))
  | _, _ => .bad
def mAsgT (t : Tgt) (m : M SV) : M Fl := mBind (mArg m) fun sv => fun e c => match sv with
  | .val d => match mTgt t d e with
    | some e' => .ok .nx e' c
    | none => .bad
  | _ => .bad
def forT (t : Tgt) (body : M Fl) : List D → M Fl
  | [] => mNx
  | d :: ds => fun e c => match mTgt t d e with
    | none => .bad
    | some e1 => mSeq body (forT t body ds) e1 c
def mFor (it : M (List D)) (t : Tgt) (body : M Fl) : M Fl := mBind it fun ds => forT t body ds
def mWhile (t : M Bool) (body : M Fl) : Nat → M Fl
  | 0 => mBad
  | n + 1 => mIf t (mSeq body (mWhile t body n)) mNx
def mRaise (x : Str) : M Fl := fun e c => .ex ⟨x, []⟩ e c

section
variable {X : Cx} {q : Par} {W : WX} {a b ex : Expr} {es : List Expr} {o : Opnd} {os : List Opnd} {m : M SV} {pos : Pos} {st : Stmt} {sts : List Stmt} {s1 s2 : M Fl}
theorem SemS.bad {D : Ends} {σ : L2.St} {H : Hp} (h : SemS q W mBad D σ H) : False := by
  obtain ⟨_, _, _, _, z⟩ := h; exact z
theorem ss_bad : PS X st (SemS q W mBad) := ⟨fun _ _ _ _ _ _ h => (SemS.bad h).elim⟩
theorem sss_nil : PSs X [] (SemS q W mNx) := PSs.imp pss_nil fun D σ H ⟨g, e, c, rel, z⟩ => z σ g H rel (Ext.refl _ _)
theorem AtS.seq {g : Gh} {H : Hp} {D : Ends} {e : Env} {c : Cel} {D' : Ends} (h : AtS q W g H D (mSeq s1 s2 e c)) (hr : D'.rt = D.rt) (hn : ∀ σ' g' H' e' c', s1 e c = .ok .nx e' c' → Rel q g' H' σ' e' c' → Ext q.pin g H g' H' → AtS q W g' H' D (s2 e' c') → D'.nx σ' H') : AtS q W g H D' (s1 e c) := by
  unfold mSeq at h
  cases h1 : s1 e c with
  | bad => rw [h1] at h; exact h
  | ex y e1 c1 => rw [h1] at h; exact h
  | ok f e1 c1 =>
    rw [h1] at h
    cases f with
    | rt sv => intro v σ' g' H' r x k; rw [hr]; exact h v σ' g' H' r x k
    | nx => exact fun σ' g' H' r x => hn σ' g' H' e1 c1 h1 r x (AtS.shift h x)
theorem sss_cons (h1 : PS X st (SemS q W s1)) (h2 : PSs X sts (SemS q W s2)) : PSs X (st :: sts) (SemS q W (mSeq s1 s2)) := PSs.imp (pss_cons h1 h2) fun D σ H ⟨g, e, c, rel, z⟩ => by
  refine ⟨g, e, c, rel, ?_⟩
  exact AtS.seq (D' := { D with nx := (SemS q W s2) D }) z rfl fun σ' g' H' e' c' _ r x z => ⟨g', e', c', r, z⟩
theorem ss_pass : PS X (.Pass pos) (SemS q W mNx) := PS.imp ps_pass fun D σ H ⟨g, e, c, rel, z⟩ => z σ g H rel (Ext.refl _ _)
theorem ss_expr (h : PE X ex (SemE q W m)) (hs : swapsWith ex none pos.line X.env = pure false) : PS X (.Expr ex pos) (SemS q W (mDrop m)) := PS.imp (ps_expr h hs) fun D σ H ⟨g, e, c, rel, z⟩ => by
  refine ⟨g, e, c, rel, ?_⟩
  exact AtS.bind z fun sv e1 c1 v g1 H1 _ rel1 x1 ok z => z σ g1 H1 rel1 (Ext.refl _ _)
theorem ss_ret (h : PE X ex (SemE q W m)) : PS X (.Return (some ex) pos) (SemS q W (mRet m)) := PS.imp (ps_ret h) fun D σ H ⟨g, e, c, rel, z⟩ => by
  refine ⟨g, e, c, rel, ?_⟩
  exact AtS.bind z fun sv e1 c1 v g1 H1 _ rel1 x1 ok z => z v σ g1 H1 rel1 (Ext.refl _ _) ok
theorem ss_retN : PS X (.Return none pos) (SemS q W (mRet (mC .none))) := PS.imp ps_retN fun D σ H ⟨g, e, c, rel, z⟩ => z .non σ g H rel (Ext.refl _ _) .non
/-- a name is given away -/
theorem se_move {x : Str} {i : Nat} (h : PE X (.Name x pos) (tVar i)) : PE X (.Name x pos) (SemE q W (mMove i)) := PE.imp h fun σ H Q ⟨g, e, c, rel, z⟩ => by
  unfold mMove at z
  split at z
  · rename_i d hi
    obtain ⟨a, h1, h2⟩ := rel.own i d hi
    refine ⟨_, h1, z _ g H (rel.drop i) (Ext.refl _ _) ⟨a, rfl, h2, fun j d' hj hs => ?_⟩⟩
    by_cases hij : i = j
    · subst hij
      rw [List.getElem?_set_self (List.getElem?_eq_some_iff.mp hi).1] at hj; cases hj
    · rw [List.getElem?_set_ne hij] at hj
      exact hij (rel.dis i j d d' a hi hj h1 hs)
  · rename_i sv hn hi
    cases sv with
    | own d => exact (hn d rfl).elim
    | val d => obtain ⟨v, h1, h2⟩ := rel.val i d hi; exact ⟨v, h1, z v g H rel (Ext.refl _ _) h2⟩
    | cell => obtain ⟨v, h1, h2⟩ := rel.cll i hi; exact ⟨_, h2, z _ g H rel (Ext.refl _ _) ⟨v, h1, rfl⟩⟩
  · exact z.elim
theorem asg_set {i : Nat} {te : TE} (hi : ∀ σ H Q, SemE q W m σ H Q → te σ H Q) : ∀ (D : Ends) (σ : L2.St) (H : Hp), SemS q W (mSet i m) D σ H → tAsg te (gName i) D σ H := fun D σ H ⟨g, e, c, rel, z⟩ => by
  refine hi σ H _ ⟨g, e, c, rel, ?_⟩
  exact AtS.bind z fun sv e1 c1 v g1 H1 _ rel1 x1 ok z => z _ g1 H1 (rel1.store ok i) (Ext.refl _ _)
theorem asg_cup {i : Nat} {te : TE} (hi : ∀ σ H Q, SemE q W m σ H Q → te σ H Q) : ∀ (D : Ends) (σ : L2.St) (H : Hp), SemS q W (mSetCup i m) D σ H → tAsg te (gName i) D σ H := fun D σ H ⟨g, e, c, rel, z⟩ => by
  refine hi σ H _ ⟨g, e, c, rel, ?_⟩
  refine AtS.bind z fun sv e1 c1 v g1 H1 _ rel1 x1 ok z => ?_
  split at z
  · obtain ⟨g2, rel2, x2, ok2⟩ := rel1.newCell ok
    exact z _ g2 H1 (rel2.store ok2 i) x2
  · exact z.elim
theorem asg_tgt {t : Tgt} {te : TE} (hi : ∀ σ H Q, SemV q W m σ H Q → te σ H Q) : ∀ (D : Ends) (σ : L2.St) (H : Hp), SemS q W (mAsgT t m) D σ H → tAsg te (gTgt q.K t) D σ H := fun D σ H ⟨g, e, c, rel, z⟩ => by
  refine hi σ H _ ⟨g, e, c, rel, ?_⟩
  refine AtS.bind z fun sv e1 c1 v g1 H1 _ rel1 x1 ok z => ?_
  cases sv with
  | own d => exact z.elim
  | cell => exact z.elim
  | val d =>
    cases hT : mTgt t d e1 with
    | none => simp only [hT] at z; exact z.elim
    | some e2 =>
      simp only [hT] at z
      exact tgt_ok t rel1 ok hT fun σ' r' _ => z σ' g1 H1 r' (Ext.refl _ _)
theorem ss_if {t : M Bool} {cx : Expr} {b1 b2 : List Stmt} (hc : PT X cx (SemT q W t)) (h1 : PSs X b1 (SemS q W s1)) (h2 : PSs X b2 (SemS q W s2)) : PS X (.If cx b1 b2 pos) (SemS q W (mIf t s1 s2)) := PS.imp (ps_if hc h1 h2) fun D σ H ⟨g, e, c, rel, z⟩ => by
  refine ⟨g, e, c, rel, ?_⟩
  refine AtS.bind z fun b e1 c1 v g1 H1 _ rel1 x1 ok z => ?_
  cases ok
  cases b with
  | true => exact ⟨g1, e1, c1, rel1, z⟩
  | false => exact ⟨g1, e1, c1, rel1, z⟩
theorem ss_while {t : M Bool} {cx : Expr} {body : List Stmt} {n : Nat} (hp : PassesOwn (model X.prog X.w) X.A X.env X.xe) (hc : PT X cx (SemT q W t)) (hb : PSs X body (SemS q W s1)) : PS X (.While cx body [] pos) (SemS q W (mWhile t s1 n)) := PS.imp (ps_while hp hc hb) fun D σ H ⟨g, e, c, rel, z⟩ => by
  refine ⟨fun m σ' H' => ∃ g' e' c', Rel q g' H' σ' e' c' ∧ AtS q W g' H' D (mWhile t s1 m e' c'), ⟨n, g, e, c, rel, z⟩, ?_⟩
  rintro m σ1 H1 ⟨g1, e1, c1, rel1, z1⟩
  cases m with
  | zero => exact z1.elim
  | succ m =>
    refine ⟨g1, e1, c1, rel1, ?_⟩
    refine AtS.bind z1 fun b e2 c2 v g2 H2 _ rel2 x2 ok z => ?_
    cases ok
    cases b with
    | false => exact z σ1 g2 H2 rel2 (Ext.refl _ _)
    | true =>
      refine ⟨fun σ' H' => ∃ g' e' c', Rel q g' H' σ' e' c' ∧ AtS q W g' H' D (mWhile t s1 m e' c'), fun σ' H' w => ⟨m, Nat.lt_succ_self m, w⟩, g2, e2, c2, rel2, ?_⟩
      exact AtS.seq z rfl fun σ' g' H' e' c' _ r x z => ⟨g', e', c', r, z⟩
theorem ss_for {it : M (List D)} {t : Tgt} {tg iter : Expr} {body : List Stmt} (hp : PassesOwn (model X.prog X.w) X.A X.env X.xe) (hc : X.calm = true) (hi : PI X tg iter (SemI q W it)) (hg : PG X tg (gTgt q.K t)) (hb : PSs X body (SemS q W s1))
    (hs : ∀ x, foldedSetIterable iter X.env x = pure x) : PS X (.For tg iter body [] pos) (SemS q W (mFor it t s1)) := PS.imp (ps_for hp hc hi hg hb hs) fun D σ H ⟨g, e, c, rel, z⟩ => by
  refine ⟨g, e, c, rel, ?_⟩
  refine AtS.bind z fun ds e1 c1 J g1 H1 _ rel1 x1 iok z => ?_
  let Wv : Nat → L2.St → Hp → Prop := fun i σ' H' => i ≤ ds.length ∧ ∃ g' e' c', Rel q g' H' σ' e' c' ∧ Ext q.pin g1 H1 g' H' ∧ AtS q W g' H' D (forT t s1 (ds.drop i) e' c')
  refine ⟨fun i m σ' H' => m = ds.length - i ∧ Wv i σ' H', ⟨ds.length, by simp, Nat.zero_le _, g1, e1, c1, rel1, Ext.refl _ _, by rw [List.drop_zero]; exact z⟩, ?_⟩
  rintro i m σ2 H2 ⟨rfl, hi, g2, e2, c2, rel2, x2, z2⟩
  have io := iok g2 H2 (x2.less fun _ w => w.elim) i
  by_cases hlt : i < ds.length
  · refine .inr ?_
    obtain ⟨go, yl⟩ := io.1 _ (List.getElem?_eq_getElem hlt)
    refine ⟨go, Wv (i + 1), fun σ' H' w => ⟨ds.length - (i + 1), by omega, rfl, w⟩, fun x H3 hy => ?_⟩
    obtain ⟨sm3, rx⟩ := yl x H3 hy
    rw [List.drop_eq_getElem_cons hlt] at z2
    unfold forT at z2
    cases hT : mTgt t ds[i] e2 with
    | none => simp only [hT] at z2; exact z2.elim
    | some ea =>
      simp only [hT] at z2
      have rel3 := rel2.same sm3
      refine tgt_ok t rel3 rx hT fun σ4 rel4 _ => ?_
      refine ⟨g2, ea, c2, rel4, ?_⟩
      refine AtS.seq (AtS.shift z2 (Ext.same sm3)) rfl fun σ' g' H' e' c' _ r x z => ?_
      exact ⟨hlt, g', e', c', r, (x2.trans (Ext.same sm3)).trans x, z⟩
  · have e : i = ds.length := by omega
    subst e
    refine .inl ⟨io.2 (Nat.le_refl _), ?_⟩
    rw [List.drop_length] at z2
    exact z2 σ2 g2 H2 rel2 (Ext.refl _ _)
theorem ss_raise {x : Str} {t : L2.St → Hp → XK → Prop} {C : Addr} (hc : X.calm = true) (tk : Takes X W) (he : PMk X ex t) (hx : q.xc x = some C) (ht : ∀ σ H Q, Q (.ref C) none H → t σ H Q) : PS X (.Raise (some ex) none pos) (SemS q W (mRaise x)) :=
  PS.imp (ps_raise hc tk he) fun D σ H ⟨g, e, c, rel, z⟩ => ht σ H _ (z _ none σ g H rel (Ext.refl _ _) ⟨C, hx, rfl⟩)
end

/-! ### a body and its def -/
def runB (N : Nat) (m : M Fl) : Fn := fun args c => match m (args.map some ++ List.replicate (N - args.length) none) c with
  | .ok .nx _ c' => .ok (.val .none) c'
  | .ok (.rt sv) _ c' => .ok sv c'
  | .ex x _ c' => .ex x c'
  | .bad => .bad
theorem start_rel {K : PySem.W.Frag} {xc : Str → Option Addr} {g : Gh} {H : Hp} {N : List Str} {vs : List V} {svs : List SV} {c : Cel} (ok : ArgsOk K g H vs svs) (al : Alloc g H) (k : CelOk g H c) :
    Rel ⟨K, g, H, xc, fun _ => False⟩ g H (L2.start N vs) (svs.map some ++ List.replicate (N.length - svs.length) none) c := by
  have len : vs.length = svs.length := ok.length
  have get : ∀ (i : Nat) (sv : SV), (svs.map some ++ List.replicate (N.length - svs.length) none)[i]? = some (some sv) → ∃ v, (L2.start N vs)[i]? = some (some v) ∧ ArgOk K g H v sv := fun i sv h => by
    by_cases hi : i < svs.length
    · rw [List.getElem?_append_left (by simpa using hi), List.getElem?_map] at h
      cases hx : svs[i]? with
      | none => rw [hx] at h; cases h
      | some x =>
        rw [hx] at h; cases h
        obtain ⟨v, h1, h2⟩ := ok.get hx
        refine ⟨v, ?_, h2⟩
        unfold L2.start
        rw [List.getElem?_append_left (by simpa [len] using hi), List.getElem?_map, h1]
        rfl
    · rw [List.getElem?_append_right (by simpa using hi), List.getElem?_replicate] at h
      split at h <;> cases h
  refine ⟨Frm.refl g H, al, k, ?_, fun i d h => ?_, fun i d h => ?_, fun i h => ?_, fun a h => h.elim, fun i j d d' a h1 h2 => ?_⟩
  · unfold L2.start; simp [len]
  · obtain ⟨v, h1, h2⟩ := get i _ h; exact ⟨v, h1, h2⟩
  · obtain ⟨v, h1, h2⟩ := get i _ h; exact h2.elim
  · obtain ⟨v, h1, h2⟩ := get i _ h
    obtain ⟨a, h3, rfl⟩ := h2
    exact ⟨a, h3, h1⟩
  · obtain ⟨v, _, h2⟩ := get i _ h1; exact h2.elim
theorem run_ok {K : PySem.W.Frag} {xc : Str → Option Addr} {g : Gh} {H : Hp} {N : List Str} {vs : List V} {svs : List SV} {c : Cel} {m : M Fl} {Q : VK} {E : XK} (ok : ArgsOk K g H vs svs) (al : Alloc g H) (k : CelOk g H c) (h : AtF K xc g H Q E (runB N.length m svs c)) :
    SemS ⟨K, g, H, xc, fun _ => False⟩ (fun cls d _ H' => E cls d H') m { nx := fun _ H' => Q .non H', rt := Q } (L2.start N vs) H := by
  refine ⟨g, _, c, start_rel ok al k, ?_⟩
  unfold runB at h
  cases hm : m (svs.map some ++ List.replicate (N.length - svs.length) none) c with
  | bad => rw [hm] at h; exact h
  | ex x e' c' => rw [hm] at h; exact fun cls dx σ' g' H' r x o => h cls dx g' H' r.frm r.al r.cel o
  | ok f e' c' =>
    rw [hm] at h
    cases f with
    | nx => exact fun σ' g' H' r x => h .non g' H' r.frm r.al r.cel .non
    | rt sv =>
      refine fun v σ' g' H' r x o => h v g' H' r.frm r.al r.cel ?_
      cases sv with
      | val d => exact o
      | cell => exact o
      | own d => obtain ⟨a, e1, o1, _⟩ := o; exact ⟨a, e1, o1.cont, o1.nfz, o1.nc, o1.new⟩
theorem fn_ok {P : Program} {w : World} {K : PySem.W.Frag} {mg : Str → Option Value} {base : Heap} {x qual : Str} {st : Stmt} {f : Addr} {fd : FuncData} {N ps : List Str} {k : Nat} {xc : Str → Option Addr} {m : M Fl} (F : Fun K x qual st f fd) (S : FnScope N ps (defScope st))
    (hb : ∀ (cdv : Value) (A : Around) (outer : List PySem.Env) (s : Shared) (g : Gh) (H : Hp) (E : XK), Room k (A.deeper (envOfC qual (defScope st) s.heap.objs.size f cdv)) →
      PSs (cxOf (L2.CX P w) P w K mg base N qual (defScope st) f cdv A outer s H E) (defBody st) (SemS ⟨K, g, H, xc, fun _ => False⟩ (fun cls d _ H' => E cls d H') m)) :
    FnOk P w K mg base (L2.CX P w) (k + 1) f fd ps (spF K xc ps.length (runB N.length m)) := by
  refine F.okX S (fun vs H Q E h => h.1) fun cdv A outer s H vs Q E hr ⟨hl, g, svs, c, ok, al, ck, h⟩ => ?_
  exact ⟨_, hb cdv A outer s g H E hr, run_ok ok al ck h⟩
end Ev

/-! Several targets at once, stores to items, x += e, methods that change a list. -/
namespace Ev
open PySem PySem.Spec PyProof.Rows L2

/-! ### values side by side, each may be one's own -/
def mVals : List (M SV) → M (List SV)
  | [] => fun e c => .ok [] e c
  | m :: ms => mBind m fun v => mBind (mVals ms) fun vs => fun e c => .ok (v :: vs) e c
def ownAdr (v : V) : SV → Option Addr
  | .own _ => match v with
    | .ref a => some a
    | _ => none
  | _ => none
def ownIn (a : Addr) : List V → List SV → Prop
  | v :: vs, sv :: svs => ownAdr v sv = some a ∨ ownIn a vs svs
  | _, _ => False
inductive ValsOk (q : Par) (g : Gh) (H : Hp) (σ : L2.St) (e : Env) : List V → List SV → Prop
  | nil : ValsOk q g H σ e [] []
  | cons {v : V} {vs : List V} {p : SV} {ps : List SV} : ResOk q g H σ e v p → (∀ a, ownAdr v p = some a → ¬ ownIn a vs ps) → ValsOk q g H σ e vs ps → ValsOk q g H σ e (v :: vs) (p :: ps)
section
variable {X : Cx} {q : Par} {W : WX} {a b : Expr} {es : List Expr} {m : M SV} {ms : List (M SV)} {pos : Pos} {g g' : Gh} {H H' : Hp} {σ : L2.St} {e e' : Env} {c c' : Cel} {v : V} {sv : SV}
theorem ownAdr_ok {a : Addr} (h : ResOk q g H σ e v sv) (ha : ownAdr v sv = some a) : ∃ d, sv = .own d ∧ v = .ref a ∧ OwnAt q g H a d ∧ ∀ (i : Nat) (d' : D), e[i]? = some (some (.own d')) → σ[i]? ≠ some (some (.ref a)) := by
  cases sv with
  | val d => cases ha
  | cell => cases ha
  | own d =>
    obtain ⟨b, rfl, o, n⟩ := h
    cases ha
    exact ⟨d, rfl, rfl, o, n⟩
theorem ValsOk.length : ∀ {vs : List V} {svs : List SV}, ValsOk q g H σ e vs svs → vs.length = svs.length
  | _, _, .nil => rfl
  | _, _, .cons _ _ b => congrArg (· + 1) b.length
/-- a result that waits, while others come -/
theorem Rel.hold (r : Rel q g H σ e c) (h : ResOk q g H σ e v sv) : ∃ p : Addr → Prop, (∀ b, p b ↔ (ownAdr v sv = some b ∨ q.pin b)) ∧ Rel { q with pin := p } g H σ e c := by
  cases hx : ownAdr v sv with
  | none => exact ⟨q.pin, fun b => by simp, r⟩
  | some a =>
    obtain ⟨d, rfl, rfl, o, n⟩ := ownAdr_ok h hx
    obtain ⟨u, hu⟩ := o.cont.obj
    refine ⟨fun b => b = a ∨ q.pin b, fun b => by simp [eq_comm], r.pinned hu o.nfz o.nc o.new n⟩
theorem ResOk.unpin {p : Addr → Prop} (h : ResOk { q with pin := p } g H σ e v sv) (hp : ∀ a, q.pin a → p a) : ResOk q g H σ e v sv := by
  cases sv with
  | val d => exact h
  | cell => exact h
  | own d => obtain ⟨a, e1, o, n⟩ := h; exact ⟨a, e1, ⟨o.cont, o.nfz, o.nc, o.new, fun z => o.np (hp a z)⟩, n⟩
theorem ValsOk.unpin {p : Addr → Prop} (hp : ∀ a, q.pin a → p a) : ∀ {vs : List V} {svs : List SV}, ValsOk { q with pin := p } g H σ e vs svs → ValsOk q g H σ e vs svs
  | _, _, .nil => .nil
  | _, _, .cons a b c => .cons (a.unpin hp) b (ValsOk.unpin hp c)
theorem ValsOk.notpin {p : Addr → Prop} {a : Addr} (hp : p a) : ∀ {vs : List V} {svs : List SV}, ValsOk { q with pin := p } g H σ e vs svs → ¬ ownIn a vs svs
  | _, _, .nil, h => h
  | _, _, .cons r1 _ rr, h => by
    rcases h with h | h
    · obtain ⟨d, _, _, o, _⟩ := ownAdr_ok r1 h
      exact o.np hp
    · exact ValsOk.notpin hp rr h
theorem ResOk.held {p : Addr → Prop} (h : ResOk q g H σ e v sv) (hp : ∀ b, p b ↔ (ownAdr v sv = some b ∨ q.pin b)) (r' : Rel { q with pin := p } g' H' σ e' c') (x : Ext p g H g' H') : ResOk q g' H' σ e' v sv := by
  cases sv with
  | val d => exact Rep.ext x.keep x.fz h
  | cell => obtain ⟨a, h1, h2⟩ := h; exact ⟨a, x.cA a h1, h2⟩
  | own d =>
    obtain ⟨a, rfl, o, n⟩ := h
    have pa : p a := (hp a).mpr (.inl rfl)
    obtain ⟨⟨u, hu⟩, nf, nc, n0⟩ := r'.pin a pa
    refine ⟨a, rfl, ⟨o.cont.ext x.keep x.fz fun w hw => x.keep3 a w hw (.inr (.inr pa)), nf, nc, o.new, o.np⟩, fun i d' hi hs => ?_⟩
    obtain ⟨b, h1, h2⟩ := r'.own i d' hi
    rw [hs] at h1; cases h1
    exact h2.np pa
abbrev SemVals (q : Par) (W : WX) (ms : List (M SV)) : TA := Sem q W (mVals ms) (ValsOk q)
theorem vals_nil : PA X [] (SemVals q W []) := PA.imp pa_nil fun σ H Q ⟨g, e, c, rel, z⟩ => z [] g H rel (Ext.refl _ _) .nil
theorem vals_cons (h1 : PE X a (SemE q W m)) (h2 : ∀ p, PA X es (SemVals { q with pin := p } W ms)) (hs : starEach (a :: es) X.env = (false, eval a X.env) :: starEach es X.env) : PA X (a :: es) (SemVals q W (m :: ms)) := ⟨fun pos pins s σ H Q I ⟨g, e, c, rel, z⟩ => by
  have key : ∀ p, (tCons (SemE q W m) (SemVals { q with pin := p } W ms)) σ H Q → wpAny (model X.prog X.w) X.A (spliced (backTo pos (starEach (a :: es) X.env))) (AP X pins σ Q) X.xe s := fun p h => (pa_cons h1 (h2 p) hs).run pos pins s σ H Q I h
  -- the pins depend on the first value: the two runs are put together by hand
  rw [hs]
  show wpAny _ _ (spliced ((false, eval a X.env) :: backTo pos (starEach es X.env))) _ _ s
  refine Calls.spliced_cons (thn (h1.run pins s σ H (fun v H1 => ∃ sv g1 e1 c1, Rel q g1 H1 σ e1 c1 ∧ ResOk q g1 H1 σ e1 v sv ∧ At q W σ g1 H1 ((mBind (mVals ms) fun vs => fun e c => .ok (sv :: vs) e c) e1 c1) (fun g' H' e' b a => ValsOk q g' H' σ e' b a) Q) I ⟨g, e, c, rel, ?_⟩) fun u s1 ⟨x, H1, I1, r1, sv, g1, e1, c1, rel1, ok, z⟩ => ?_)
  · exact At.bind z fun sv e1 c1 v g1 H1 _ rel1 x1 ok z => ⟨sv, g1, e1, c1, rel1, ok, z⟩
  · obtain ⟨p, hp, relp⟩ := rel1.hold ok
    have go : SemVals { q with pin := p } W ms σ H1 (fun vs H2 => Q (x :: vs) H2) := by
      refine ⟨g1, e1, c1, relp, ?_⟩
      have z' : At { q with pin := p } W σ g1 H1 ((mBind (mVals ms) fun vs => fun e c => R.ok (sv :: vs) e c) e1 c1) (fun g' H' e' b a => ∃ r, b = x :: r ∧ ∃ rs, a = sv :: rs ∧ ValsOk { q with pin := p } g' H' σ e' r rs) Q := by
        have lift : ∀ r : R (List SV), At q W σ g1 H1 r (fun g' H' e' b a => ValsOk q g' H' σ e' b a) Q → At { q with pin := p } W σ g1 H1 r (fun g' H' e' b a => ∃ r, b = x :: r ∧ ∃ rs, a = sv :: rs ∧ ValsOk { q with pin := p } g' H' σ e' r rs) Q := fun r h => by
          cases r with
          | bad => exact h
          | ex y e2 c2 => exact fun cls dx g2 H2 r2 x2 o => h cls dx g2 H2 (r2.unpinned fun b w => (hp b).mpr (.inr w)) (x2.less fun b w => (hp b).mpr (.inr w)) o
          | ok as e2 c2 =>
            rintro b g2 H2 r2 x2 ⟨r, rfl, rs, rfl, vo⟩
            refine h _ g2 H2 (r2.unpinned fun b w => (hp b).mpr (.inr w)) (x2.less fun b w => (hp b).mpr (.inr w)) (.cons (ok.held hp r2 x2) (fun a ha => ?_) (vo.unpin fun b w => (hp b).mpr (.inr w)))
            exact vo.notpin ((hp a).mpr (.inl ha))
        exact lift _ z
      refine At.bind z' fun rs e2 c2 vs g2 H2 _ rel2 x2 oks z => ?_
      exact z (x :: vs) g2 H2 rel2 (Ext.refl _ _) ⟨vs, rfl, rs, rfl, oks⟩
    exact thn ((h2 p).run pos pins s1 σ H1 _ I1 go) fun us s2 ⟨xs, H2, I2, r2, q2⟩ => ⟨x :: xs, H2, I2, .cons r1 r2, q2⟩⟩
theorem ResOk.stored {sv' : SV} {v' : V} {i : Nat} (h : ResOk q g H σ e v sv) (h' : ResOk q g H σ e v' sv') (n : ∀ a, ownAdr v sv = some a → ownAdr v' sv' ≠ some a) : ResOk q g H (σ.set i (some v)) (e.set i (some sv)) v' sv' := by
  cases sv' with
  | val d => exact h'
  | cell => exact h'
  | own d =>
    obtain ⟨a, rfl, o, m⟩ := h'
    refine ⟨a, rfl, o, fun j d' hj hs => ?_⟩
    by_cases hij : i = j
    · subst hij
      by_cases hl : i < e.length
      · rw [List.getElem?_set_self hl] at hj
        cases hj
        obtain ⟨b, rfl, o2, _⟩ := h
        by_cases hl2 : i < σ.length
        · rw [List.getElem?_set_self hl2] at hs
          cases hs
          exact n a rfl rfl
        · rw [List.getElem?_eq_none (by rw [List.length_set]; omega)] at hs; cases hs
      · rw [List.getElem?_eq_none (by rw [List.length_set]; omega)] at hj; cases hj
    · rw [List.getElem?_set_ne hij] at hj hs
      exact m j d' hj hs
/-- x, y = e, f; x, y, z = e, f, h (names) -/
def sets (e : Env) : List Nat → List SV → Option Env
  | [], [] => some e
  | i :: is, v :: vs => sets (e.set i (some v)) is vs
  | _, _ => none
def mPar (is : List Nat) (ms : List (M SV)) : M Fl := mBind (mVals ms) fun svs => fun e c => match sets e is svs with
  | some e' => .ok .nx e' c
  | none => .bad
theorem ownIn_get {x : Addr} : ∀ {vs : List V} {svs : List SV} {j : Nat} {v : V} {sv : SV}, vs[j]? = some v → svs[j]? = some sv → ownAdr v sv = some x → ownIn x vs svs
  | v :: vs, sv :: svs, 0, _, _, h1, h2, h => by simp at h1 h2; subst h1; subst h2; exact .inl h
  | v :: vs, sv :: svs, j + 1, _, _, h1, h2, h => .inr (ownIn_get (j := j) (by simpa using h1) (by simpa using h2) h)
theorem ss_par2 {i j : Nat} {ta : TA} {m1 m2 : M SV} (h : ∀ σ H Q, SemVals q W [m1, m2] σ H Q → ta σ H Q) : ∀ (D : Ends) (σ : L2.St) (H : Hp), SemS q W (mPar [i, j] [m1, m2]) D σ H → tPar i j ta D σ H := fun D σ H ⟨g, e, c, rel, z⟩ => by
  refine h σ H _ ⟨g, e, c, rel, ?_⟩
  refine AtS.bind z fun svs e1 c1 vs g1 H1 _ rel1 x1 ok z => ?_
  cases ok with
  | nil => exact z.elim
  | cons r1 n1 ok =>
  cases ok with
  | nil => exact z.elim
  | cons r2 n2 ok =>
  cases ok with
  | cons _ _ _ => exact z.elim
  | nil =>
    refine ⟨_, _, rfl, z _ g1 H1 ?_ (Ext.refl _ _)⟩
    exact (rel1.store r1 i).store (r1.stored r2 fun a ha hb => n1 a ha (.inl hb)) j
theorem ss_par3 {i j l : Nat} {ta : TA} {m1 m2 m3 : M SV} (h : ∀ σ H Q, SemVals q W [m1, m2, m3] σ H Q → ta σ H Q) : ∀ (D : Ends) (σ : L2.St) (H : Hp), SemS q W (mPar [i, j, l] [m1, m2, m3]) D σ H → tPar3 i j l ta D σ H := fun D σ H ⟨g, e, c, rel, z⟩ => by
  refine h σ H _ ⟨g, e, c, rel, ?_⟩
  refine AtS.bind z fun svs e1 c1 vs g1 H1 _ rel1 x1 ok z => ?_
  cases ok with
  | nil => exact z.elim
  | cons r1 n1 ok =>
  cases ok with
  | nil => exact z.elim
  | cons r2 n2 ok =>
  cases ok with
  | nil => exact z.elim
  | cons r3 n3 ok =>
  cases ok with
  | cons _ _ _ => exact z.elim
  | nil =>
    refine ⟨_, _, _, rfl, z _ g1 H1 ?_ (Ext.refl _ _)⟩
    have s2 := r1.stored (i := i) r2 fun a ha hb => n1 a ha (.inl hb)
    have s3 := r1.stored (i := i) r3 fun a ha hb => n1 a ha (.inr (.inl hb))
    exact ((rel1.store r1 i).store s2 j).store (s2.stored s3 fun a ha hb => n2 a ha (.inl hb)) l
/-- the values pass through a tuple that nobody keeps -/
theorem gtgts_sets {K : PySem.W.Frag} : ∀ {is : List Nat} {vs : List V} {svs : List SV} {σ : L2.St} {e e' : Env} {c : Cel} {Q : L2.St → Hp → Prop}, Rel q g H σ e c → ValsOk q g H σ e vs svs → sets e is svs = some e' → (∀ σ', Rel q g H σ' e' c → Q σ' H) → gTgts K (is.map .nm) vs σ H Q
  | [], _, _, σ, e, e', c, Q, rel, ok, h, k => by
    cases ok with
    | nil => cases h; simp only [List.map_nil, gTgts]; exact ⟨rfl, k σ rel⟩
    | cons _ _ _ => cases h
  | i :: is, _, _, σ, e, e', c, Q, rel, ok, h, k => by
    cases ok with
    | nil => cases h
    | cons r1 n1 ok =>
      rename_i v vs sv svs
      simp only [List.map_cons, gTgts, gTgt]
      refine ⟨_, _, rfl, ?_⟩
      have rest : ∀ {us : List V} {sus : List SV}, ValsOk q g H σ e us sus → (∀ a, ownAdr v sv = some a → ¬ ownIn a us sus) → ValsOk q g H (σ.set i (some v)) (e.set i (some sv)) us sus := by
        intro us sus vo
        induction vo with
        | nil => intro _; exact .nil
        | cons a b _ ih => intro n; exact .cons (r1.stored a fun x hx hy => n x hx (.inl hy)) b (ih fun x hx hy => n x hx (.inr hy))
      exact gtgts_sets (rel.store r1 i) (rest ok n1) h k
theorem ResOk.same (r : Rel q g H σ e c) (h : ResOk q g H σ e v sv) (s : Same H H') : ResOk q g H' σ e v sv := by
  cases sv with
  | val d => exact Rep.ext (Ext.same (p := q.pin) (g := g) s).keep (fun _ w => w) h
  | cell => exact h
  | own d => obtain ⟨a, e1, o, n⟩ := h; exact ⟨a, e1, o.ext (Ext.same s) (fun u w => s _ _ w) o.nfz o.nc, n⟩
theorem ValsOk.same (r : Rel q g H σ e c) (s : Same H H') : ∀ {vs : List V} {svs : List SV}, ValsOk q g H σ e vs svs → ValsOk q g H' σ e vs svs
  | _, _, .nil => .nil
  | _, _, .cons a b d => .cons (a.same r s) b (ValsOk.same r s d)
theorem sets_len : ∀ {is : List Nat} {svs : List SV} {e e' : Env}, sets e is svs = some e' → is.length = svs.length
  | [], [], _, _, _ => rfl
  | i :: is, v :: svs, e, e', h => congrArg (· + 1) (sets_len (show sets (e.set i (some v)) is svs = some e' from h))
  | [], _ :: _, _, _, h => by cases h
  | _ :: _, [], _, _, h => by cases h
theorem ss_parT {is : List Nat} {ta : TA} (h : ∀ σ H Q, SemVals q W ms σ H Q → ta σ H Q) (hl : ms.length ≤ 1000) : ∀ (D : Ends) (σ : L2.St) (H : Hp), SemS q W (mPar is ms) D σ H → tAsg (tTup ta) (gTup q.K is.length (gTgts q.K (is.map .nm))) D σ H := fun D σ H ⟨g, e, c, rel, z⟩ => by
  refine h σ H _ ⟨g, e, c, rel, ?_⟩
  refine AtS.bind z fun svs e1 c1 vs g1 H1 hm rel1 x1 ok z => ?_
  cases hs : sets e1 is svs with
  | none => simp only [hs] at z; exact z.elim
  | some e2 =>
    simp only [hs] at z
    have ln : svs.length = ms.length := by
      have : ∀ (ms : List (M SV)) (e c svs e1 c1), mVals ms e c = .ok svs e1 c1 → svs.length = ms.length := by
        intro ms
        induction ms with
        | nil => intro e c svs e1 c1 h; cases h; rfl
        | cons m ms ih =>
          intro e c svs e1 c1 h
          unfold mVals mBind at h
          cases h1 : m e c with
          | bad => rw [h1] at h; cases h
          | ex _ _ _ => rw [h1] at h; cases h
          | ok v e2 c2 =>
            rw [h1] at h
            simp only at h
            cases h2 : mVals ms e2 c2 with
            | bad => rw [h2] at h; cases h
            | ex _ _ _ => rw [h2] at h; cases h
            | ok r e3 c3 => rw [h2] at h; cases h; exact congrArg (· + 1) (ih _ _ _ _ _ h2)
      exact this ms _ _ _ _ _ hm
    refine ⟨by rw [ok.length, ln]; exact sz1000 hl, fun p hp => ⟨p, vs, rfl, .inl (.inl upd_same), by rw [ok.length, sets_len hs], ?_⟩⟩
    have sm := same_upd (o := .tup vs) hp
    exact gtgts_sets (rel1.same sm) (ok.same rel1 sm) hs fun σ' r' => z σ' g1 _ r' (Ext.same sm)

/-! ### stores to items -/
abbrev UF := D → D → D → Option D
def mHas (j : Nat) : M Unit := fun e c => match e[j]? with
  | some (some (.own _)) => .ok () e c
  | some (some .cell) => .ok () e c
  | _ => .bad
def putIx (j : Nat) (f : UF) (d di : D) : M Fl := fun e c => match e[j]? with
  | some (some (.own x)) => match f x di d with
    | some x' => .ok .nx (e.set j (some (.own x'))) c
    | none => .bad
  | some (some .cell) => match c, di, d with
    | some (x, y), .int i, .int z => if i = 0 then .ok .nx e (some (z, y)) else if i = 1 then .ok .nx e (some (x, z)) else .bad
    | _, _, _ => .bad
  | _ => .bad
def mStore (j : Nat) (f : UF) (m : M SV) (oi : Opnd) : M Fl := mBind (mArg m) fun sv => mBind (mHas j) fun _ => mBind (mO oi) fun p => fun e c => match sv, rd e c p with
  | .val d, some di => putIx j f d di e c
  | _, _ => .bad
/-- a store's rule by values -/
def UOk (K : PySem.W.Frag) (t : TSet) (f : UF) : Prop := ∀ (F : Addr → Prop) (H : Hp) (a : Addr) (x di d x' : D) (vi v : V) (Q : Hp → Prop), ¬ F a → Cont K F H a x → Arg K F H vi di → Rep K F H v d → f x di d = some x' →
  (∀ o', Cont K F (upd H a o') a x' → Q (upd H a o')) → t (.ref a) vi v H Q
theorem has_at {j : Nat} {σ : L2.St} {g : Gh} {H : Hp} {e : Env} {c : Cel} {D : Ends} {k : Unit → M Fl} {P : V → Hp → Prop} (rel : Rel q g H σ e c) (z : AtS q W g H D (mBind (mHas j) k e c)) (i : ∀ b, σ[j]? = some (some b) → AtS q W g H D (k () e c) → P b H) : ∃ b, σ[j]? = some (some b) ∧ P b H := by
  unfold mBind mHas at z
  cases he : e[j]? with
  | none => simp only [he] at z; exact z.elim
  | some s =>
    cases s with
    | none => simp only [he] at z; exact z.elim
    | some sv =>
      cases sv with
      | val d => simp only [he] at z; exact z.elim
      | own d => simp only [he] at z; obtain ⟨a, h1, _⟩ := rel.own j d he; exact ⟨_, h1, i _ h1 z⟩
      | cell => simp only [he] at z; obtain ⟨a, _, h1⟩ := rel.cll j he; exact ⟨_, h1, i _ h1 z⟩
theorem ss_store {j : Nat} {f : UF} {t : TSet} {oi : Opnd} (hu : UOk q.K t f) (hl : ∀ a xs k n v H Q, H a = some (.lst xs) → ixN xs.length k = some n → Q (upd H a (.lst (xs.set n v))) → t (.ref a) (.int k) v H Q) {te : TE} {ti : TE} (he : ∀ σ H Q, SemV q W m σ H Q → te σ H Q) (hi : ∀ σ H Q, SemO q W oi σ H Q → ti σ H Q) :
    ∀ (D : Ends) (σ : L2.St) (H : Hp), SemS q W (mStore j f m oi) D σ H → tAsg te (gSub (tVar j) ti t) D σ H := fun D σ H ⟨g, e, c, rel, z⟩ => by
  refine he σ H _ ⟨g, e, c, rel, ?_⟩
  refine AtS.bind z fun sv e1 c1 v g1 H1 _ rel1 x1 ok z => ?_
  refine has_at (P := fun o H1 => ti σ H1 fun i H2 => t o i v H2 fun H3 => D.nx σ H3) rel1 z fun b hb z => ?_
  refine hi σ H1 _ ⟨g1, e1, c1, rel1, ?_⟩
  refine AtS.bind z fun p e2 c2 vi g2 H2 _ rel2 x2 oki z => ?_
  cases sv with
  | own d => exact z.elim
  | cell => exact z.elim
  | val d =>
  have okv : Rep q.K g2.fz H2 v d := Rep.ext x2.keep x2.fz ok
  cases hr : rd e2 c2 p with
  | none => simp only [hr] at z; exact z.elim
  | some di =>
  simp only [hr] at z
  have ai := rd_ok rel2 oki hr
  unfold putIx at z
  cases he : e2[j]? with
  | none => simp only [he] at z; exact z.elim
  | some s =>
  cases s with
  | none => simp only [he] at z; exact z.elim
  | some sv =>
  cases sv with
  | val d' => simp only [he] at z; exact z.elim
  | own x =>
    simp only [he] at z
    obtain ⟨a, h1, h2⟩ := rel2.own j x he
    rw [hb] at h1; cases h1
    cases hf : f x di d with
    | none => simp only [hf] at z; exact z.elim
    | some x' =>
      simp only [hf] at z
      refine hu g2.fz H2 a x di d x' vi v _ h2.nfz h2.cont ai okv hf fun o' ct => ?_
      obtain ⟨r', x'⟩ := rel2.write he hb ct
      exact z σ g2 _ r' x'
  | cell =>
    simp only [he] at z
    obtain ⟨a, h1, h2⟩ := rel2.cll j he
    rw [hb] at h2; cases h2
    match c2, di, d, rel2, z, ai, okv with
    | some (x, y), .int i, .int w, rel2, z, ai, okv =>
      cases ai
      cases okv
      obtain ⟨a', k1, k2, k3⟩ := rel2.cel
      rw [h1] at k1; cases k1
      by_cases h0 : i = 0
      · subst h0
        simp only [if_true] at z
        refine hl a _ 0 0 _ H2 _ k2 rfl ?_
        obtain ⟨r', x'⟩ := rel2.setCell (x' := w) (y' := y) h1
        exact z σ g2 _ r' x'
      · by_cases h1' : i = 1
        · subst h1'
          simp only [h0, if_false, if_true] at z
          refine hl a _ 1 1 _ H2 _ k2 rfl ?_
          obtain ⟨r', x'⟩ := rel2.setCell (x' := x) (y' := w) h1
          exact z σ g2 _ r' x'
        · simp only [h0, h1', if_false] at z; exact z.elim
    | none, _, _, _, z, _, _ => exact z.elim
    | some (_, _), .none, _, _, z, _, _ => exact z.elim
    | some (_, _), .bool _, _, _, z, _, _ => exact z.elim
    | some (_, _), .str _, _, _, z, _, _ => exact z.elim
    | some (_, _), .list _, _, _, z, _, _ => exact z.elim
    | some (_, _), .tuple _, _, _, z, _, _ => exact z.elim
    | some (_, _), .dict _, _, _, z, _, _ => exact z.elim
    | some (_, _), .int _, .none, _, z, _, _ => exact z.elim
    | some (_, _), .int _, .bool _, _, z, _, _ => exact z.elim
    | some (_, _), .int _, .str _, _, z, _, _ => exact z.elim
    | some (_, _), .int _, .list _, _, z, _, _ => exact z.elim
    | some (_, _), .int _, .tuple _, _, z, _, _ => exact z.elim
    | some (_, _), .int _, .dict _, _, z, _, _ => exact z.elim

/-! ### x += e -/
/-- of scalars -/
def mAugV (j : Nat) (f : BF) (o : Opnd) : M Fl := mBind (mO (.nm j)) fun _ => mBind (mO o) fun p => mBind (mFin f [.s j, p]) fun sv => fun e c => .ok .nx (e.set j (some sv)) c
/-- of a list of one's own, by the items of another one -/
def mAugL (j : Nat) (o : Opnd) : M Fl := mBind (mHas j) fun _ => mBind (mO o) fun p => fun e c => match e[j]?, rd e c p with
  | some (some (.own (.list xs))), some (.list ys) => if xs.length + ys.length ≤ 16777216 then .ok .nx (e.set j (some (.own (.list (xs ++ ys))))) c else .bad
  | _, _ => .bad
theorem ss_augL {j : Nat} {o : Opnd} {ti : TIp} {te : TE} (he : ∀ σ H Q, SemO q W o σ H Q → te σ H Q) (hi : ∀ l b xs zs H Q, H l = some (.lst xs) → Rd H b (.lst zs) → xs.length + zs.length ≤ sizeLine → Q (.ref l) (upd H l (.lst (xs ++ zs))) → ti (.ref l) (.ref b) H Q) :
    ∀ (D : Ends) (σ : L2.St) (H : Hp), SemS q W (mAugL j o) D σ H → tAug j te ti D σ H := fun D σ H ⟨g, e, c, rel, z⟩ => by
  refine has_at (P := fun x H => te σ H fun y H1 => ti x y H1 fun z H2 => D.nx (σ.set j (some z)) H2) rel z fun b hb z => ?_
  refine he σ H _ ⟨g, e, c, rel, ?_⟩
  refine AtS.bind z fun p e2 c2 vi g2 H2 _ rel2 x2 oki z => ?_
  cases hr : rd e2 c2 p with
  | none =>
    cases he2 : e2[j]? with
    | none => simp only [he2, hr] at z; exact z.elim
    | some s => cases s with
      | none => simp only [he2, hr] at z; exact z.elim
      | some sv => cases sv with
        | val d' => simp only [he2, hr] at z; exact z.elim
        | cell => simp only [he2, hr] at z; exact z.elim
        | own d' => cases d' <;> (simp only [he2, hr] at z; exact z.elim)
  | some di =>
  have ai := rd_ok rel2 oki hr
  cases he2 : e2[j]? with
  | none => simp only [he2, hr] at z; exact z.elim
  | some s => cases s with
    | none => simp only [he2, hr] at z; exact z.elim
    | some sv => cases sv with
      | val d' => simp only [he2, hr] at z; exact z.elim
      | cell => simp only [he2, hr] at z; exact z.elim
      | own d' =>
        cases d' with
        | list xs =>
          cases di with
          | list ys =>
            simp only [he2, hr] at z
            split at z
            · rename_i hz
              obtain ⟨a, h1, h2⟩ := rel2.own j _ he2
              rw [hb] at h1; cases h1
              obtain ⟨vx, hx, rx⟩ := h2.cont
              obtain ⟨b, vy, rfl, hy, ry⟩ := ai
              refine hi a b vx vy H2 _ hx hy (by rw [rx.length, ry.length]; exact hz) ?_
              have im : ∀ (d o), H2 d = some o → (Imm o ∨ g2.fz d) → upd H2 a (.lst (vx ++ vy)) d = some o := fun d o h w => by
                rw [upd_ne]
                · exact h
                · rintro rfl
                  rw [hx] at h; cases h
                  exact w.elim (fun w => w) h2.nfz
              obtain ⟨r', x'⟩ := rel2.write (o' := .lst (vx ++ vy)) (d' := .list (xs ++ ys)) he2 hb ⟨_, upd_same, (rx.append ry).ext im fun _ w => w⟩
              have e1 : σ.set j (some (V.ref a)) = σ := by
                apply List.ext_getElem?
                intro k
                by_cases hk : j = k
                · subst hk; rw [List.getElem?_set_self (List.getElem?_eq_some_iff.mp hb).1, hb]
                · rw [List.getElem?_set_ne hk]
              rw [e1]
              exact z σ g2 _ r' x'
            · exact z.elim
          | _ => simp only [he2, hr] at z; exact z.elim
        | _ => simp only [he2, hr] at z; exact z.elim
theorem ss_augV {j : Nat} {o : Opnd} {f : BF} {ti : TIp} {te : TE} (hf : BOk q.K (fun vs H Q => ∃ x y, vs = [x, y] ∧ ti x y H Q) f) (he : ∀ σ H Q, SemO q W o σ H Q → te σ H Q) :
    ∀ (D : Ends) (σ : L2.St) (H : Hp), SemS q W (mAugV j f o) D σ H → tAug j te ti D σ H := fun D σ H ⟨g, e, c, rel, z⟩ => by
  have : ∃ b, σ[j]? = some (some b) ∧ AtS q W g H D (mBind (mO o) (fun p => mBind (mFin f [.s j, p]) fun sv => fun e c => R.ok Fl.nx (e.set j (some sv)) c) e c) := by
    unfold mAugV mBind mO at z
    cases h : slotD c e[j]? with
    | none => simp only [h] at z; exact z.elim
    | some d =>
      simp only [h] at z
      rcases slotD_some h with hi | hi | ⟨hi, _⟩
      · obtain ⟨v, h1, h2⟩ := rel.val j d hi; exact ⟨v, h1, z⟩
      · obtain ⟨v, h1, h2⟩ := rel.own j d hi; exact ⟨_, h1, z⟩
      · obtain ⟨v, _, h1⟩ := rel.cll j hi; exact ⟨_, h1, z⟩
  obtain ⟨b, hb, z⟩ := this
  refine ⟨b, hb, he σ H _ ⟨g, e, c, rel, ?_⟩⟩
  refine AtS.bind z fun p e2 c2 vi g2 H2 _ rel2 x2 oki z => ?_
  have z' : At q W σ g2 H2 (mFin f [.s j, p] e2 c2) (fun g' H' e' b a => ResOk q g' H' σ e' b a) (fun w H3 => D.nx (σ.set j (some w)) H3) :=
    AtS.bind z fun sv e3 c3 v g3 H3 _ rel3 x3 ok z => z _ g3 H3 (rel3.store ok j) (Ext.refl _ _)
  obtain ⟨x, y, e1, h⟩ := fin_ok (vs := [b, vi]) hf rel2 (PVsOk.cons (p := .s j) hb (.cons oki .nil)) z'
  cases e1
  exact h

/-! ### methods of a list or dict of one's own -/
abbrev MF := D → List D → Option (D × D)
def isLst : D → Bool
  | .list _ => true
  | _ => false
def isDct : D → Bool
  | .dict _ => true
  | _ => false
def mOwn (j : Nat) (ty : D → Bool) : M Unit := fun e c => match e[j]? with
  | some (some (.own x)) => if ty x = true then .ok () e c else .bad
  | _ => .bad
def methF (j : Nat) (f : MF) (svs : List SV) : M SV := fun e c => match e[j]? with
  | some (some (.own x)) => match datas svs with
    | some ds => match f x ds with
      | some (x', d) => .ok (.val d) (e.set j (some (.own x'))) c
      | none => .bad
    | none => .bad
  | _ => .bad
def mMeth (j : Nat) (ty : D → Bool) (f : MF) (ms : List (M SV)) : M SV := mBind (mOwn j ty) fun _ => mBind (mArgs ms) (methF j f)
def MOk (K : PySem.W.Frag) (r : V → List V → Hp → VK → Prop) (f : MF) : Prop := ∀ (F : Addr → Prop) (H : Hp) (a : Addr) (x : D) (vs : List V) (ds : List D) (x' d : D) (Q : VK), ¬ F a → Cont K F H a x → RepL K F H vs ds → f x ds = some (x', d) →
  (∀ v o', Cont K F (upd H a o') a x' → Rep K F (upd H a o') v d → Q v (upd H a o')) → r (.ref a) vs H Q
def TyOk (K : PySem.W.Frag) (T : String) (ty : D → Bool) : Prop := ∀ F H a x, Cont K F H a x → ty x = true → tyV K T (.ref a) H
theorem tyOk_list {K : PySem.W.Frag} : TyOk K "list" isLst := fun F H a x c h => by
  cases x with
  | list ds => obtain ⟨xs, h1, _⟩ := c; exact .inl ⟨rfl, _, .inl (.inl h1)⟩
  | _ => cases h
theorem tyOk_dict {K : PySem.W.Frag} : TyOk K "dict" isDct := fun F H a x c h => by
  cases x with
  | dict ds =>
    rcases c with ⟨xs, h1, _⟩ | ⟨xs, h1, _⟩
    · exact .inr (.inr (.inl ⟨rfl, .inl ⟨_, h1⟩⟩))
    · exact .inr (.inr (.inl ⟨rfl, .inr ⟨_, h1⟩⟩))
  | _ => cases h
theorem own_at {j : Nat} {ty : D → Bool} {σ : L2.St} {g : Gh} {H : Hp} {e : Env} {c : Cel} {α β : Type} {k : Unit → M α} {Ok : Gh → Hp → Env → β → α → Prop} {Q : β → Hp → Prop} (rel : Rel q g H σ e c) (z : At q W σ g H (mBind (mOwn j ty) k e c) Ok Q) :
    ∃ a x, σ[j]? = some (some (.ref a)) ∧ Cont q.K g.fz H a x ∧ ty x = true ∧ At q W σ g H (k () e c) Ok Q := by
  unfold mBind mOwn at z
  cases he : e[j]? with
  | none => simp only [he] at z; exact z.elim
  | some s =>
    cases s with
    | none => simp only [he] at z; exact z.elim
    | some sv =>
      cases sv with
      | val d => simp only [he] at z; exact z.elim
      | cell => simp only [he] at z; exact z.elim
      | own d =>
        simp only [he] at z
        obtain ⟨a, h1, h2⟩ := rel.own j d he
        by_cases ht : ty d = true
        · simp only [ht, if_true] at z
          exact ⟨a, d, h1, h2.cont, ht, z⟩
        · simp only [ht] at z; exact z.elim
theorem meth_at {j : Nat} {f : MF} {r : V → List V → Hp → VK → Prop} (hf : MOk q.K r f) {σ : L2.St} {a : Addr} {vs : List V} {svs : List SV} {Q : VK} (rel : Rel q g H σ e c) (hj : σ[j]? = some (some (.ref a))) (ok : ArgsOk q.K g H vs svs)
    (z : At q W σ g H (methF j f svs e c) (fun g' H' e' b a => ResOk q g' H' σ e' b a) Q) : r (.ref a) vs H Q := by
  unfold methF at z
  cases he : e[j]? with
  | none => simp only [he] at z; exact z.elim
  | some s =>
  cases s with
  | none => simp only [he] at z; exact z.elim
  | some sv =>
  cases sv with
  | val d => simp only [he] at z; exact z.elim
  | cell => simp only [he] at z; exact z.elim
  | own x =>
  simp only [he] at z
  cases hd : datas svs with
  | none => simp only [hd] at z; exact z.elim
  | some ds =>
  simp only [hd] at z
  cases hx : f x ds with
  | none => simp only [hx] at z; exact z.elim
  | some p =>
  obtain ⟨x', d⟩ := p
  simp only [hx] at z
  obtain ⟨b, h1, h2⟩ := rel.own j x he
  rw [hj] at h1; cases h1
  refine hf g.fz H a x vs ds x' d Q h2.nfz h2.cont (datas_ok ok hd) hx fun v o' ct rp => ?_
  obtain ⟨r', x2⟩ := rel.write he hj ct
  exact z v g _ r' x2 rp
theorem se_meth {ex0 : Expr} {j : Nat} {ty : D → Bool} {f : MF} {r : V → List V → Hp → VK → Prop} {T : String} (hf : MOk q.K r f) (ht : TyOk q.K T ty) (h : PE X ex0 (tBM q.K T r (tVar j) (SemVs q W ms))) : PE X ex0 (SemE q W (mMeth j ty f ms)) := PE.imp h fun σ H Q ⟨g, e, c, rel, z⟩ => by
  obtain ⟨a, x, h1, h2, h3, z⟩ := own_at rel z
  refine ⟨_, h1, ht _ _ _ _ h2 h3, g, e, c, rel, ?_⟩
  refine At.bind z fun svs e1 c1 vs g1 H1 _ rel1 x1 ok z => ?_
  exact meth_at hf rel1 h1 ok z
theorem se_meth0 {ex0 : Expr} {j : Nat} {ty : D → Bool} {f : MF} {r : V → List V → Hp → VK → Prop} {T : String} (hf : MOk q.K r f) (ht : TyOk q.K T ty) (h : PE X ex0 (tBM0 q.K T r (tVar j))) : PE X ex0 (SemE q W (mMeth j ty f [])) := PE.imp h fun σ H Q ⟨g, e, c, rel, z⟩ => by
  obtain ⟨a, x, h1, h2, h3, z⟩ := own_at rel z
  refine ⟨_, h1, ht _ _ _ _ h2 h3, ?_⟩
  exact meth_at hf (vs := []) rel h1 .nil z
end
end Ev

/-! Operations by values. -/
namespace Ev
open PySem PySem.Spec PyProof.Rows L2

theorem OpR.or {X : Cx} {f : Value → Value → PySem.Sem Value} {r r' : R2} (h : OpR X f r) (h' : OpR X f r') : OpR X f (fun x y H Q => r x y H Q ∨ r' x y H Q) := fun pins s σ H x y v u Q I rx ry q => by
  rcases q with q | q
  · exact h pins s σ H x y v u Q I rx ry q
  · exact h' pins s σ H x y v u Q I rx ry q
theorem CallR.or {X : Cx} {f : Value} {r r' : List V → Hp → VK → Prop} (h : CallR X f r) (h' : CallR X f r') : CallR X f (fun x H Q => r x H Q ∨ r' x H Q) := fun pins s σ H x v Q I rx q => by
  rcases q with q | q
  · exact h pins s σ H x v Q I rx q
  · exact h' pins s σ H x v Q I rx q
section
variable {K : PySem.W.Frag} {F : Addr → Prop} {H : Hp}
theorem arg_int {v : V} {i : Int} (h : Arg K F H v (.int i)) : v = .int i := by cases h; rfl
theorem arg_str {v : V} {i : Str} (h : Arg K F H v (.str i)) : v = .str i := by cases h; rfl
theorem arg_bool {v : V} {i : Bool} (h : Arg K F H v (.bool i)) : v = .bl i := by cases h; rfl
theorem arg_none {v : V} (h : Arg K F H v .none) : v = .non := by cases h; rfl
theorem arg_tup {v : V} {ds : List D} (h : Arg K F H v (.tuple ds)) : ∃ a xs, v = .ref a ∧ SqT K H a xs ∧ RepL K F H xs ds := by cases h with | tup a b => exact ⟨_, _, rfl, a, b⟩
theorem arg_lst {v : V} {ds : List D} (h : Arg K F H v (.list ds)) : ∃ a xs, v = .ref a ∧ Rd H a (.lst xs) ∧ RepL K F H xs ds := h
theorem new_tup {xs : List V} {ds : List D} {p : Addr} (hp : H p = none) (r : RepL K F H xs ds) : New K F H (upd H p (.tup xs)) (.ref p) (.val (.tuple ds)) :=
  .tup (.inl (.inl upd_same)) (r.ext (fun a o h _ => same_upd hp a o h) fun _ h => h)
theorem new_lst {xs : List V} {ds : List D} {p : Addr} (hp : H p = none) (r : RepL K F H xs ds) : New K F H (upd H p (.lst xs)) (.ref p) (.own (.list ds)) :=
  ⟨p, rfl, hp, xs, upd_same, r.ext (fun a o h _ => same_upd hp a o h) fun _ h => h⟩
theorem repl_ints : ∀ {ns : List Int} {vs : List V}, RepL K F H vs (ns.map PyData.int) → vs = ns.map V.int
  | [], _, .nil => rfl
  | _ :: _, _, .cons a b => by cases a; rw [repl_ints b]; rfl
theorem ints_repl : ∀ (ns : List Int), RepL K F H (ns.map V.int) (ns.map PyData.int)
  | [] => .nil
  | _ :: ns => .cons (.int _) (ints_repl ns)
end
theorem intsOf_map : ∀ {ds : List D} {is : List Int}, intsOf ds = some is → ds = is.map PyData.int
  | [], _, h => by cases h; rfl
  | .int i :: r, is, h => by
    unfold intsOf at h
    cases h1 : intsOf r with
    | none => rw [h1] at h; cases h
    | some is => rw [h1] at h; cases h; rw [intsOf_map h1]; rfl
  | .none :: r, _, h => by simp [intsOf] at h
  | .bool _ :: r, _, h => by simp [intsOf] at h
  | .str _ :: r, _, h => by simp [intsOf] at h
  | .list _ :: r, _, h => by simp [intsOf] at h
  | .tuple _ :: r, _, h => by simp [intsOf] at h
  | .dict _ :: r, _, h => by simp [intsOf] at h

/-! ### + - * // % ** -/
section
variable {X : Cx}
def rCatR : R2 := fun x y H Q => ∃ l b xs zs, x = .ref l ∧ y = .ref b ∧ Rd H l (.lst xs) ∧ Rd H b (.lst zs) ∧ xs.length + zs.length ≤ sizeLine ∧ ∀ p, H p = none → Q (.ref p) (upd H p (.lst (xs ++ zs)))
theorem Inv.lstR {pins : List (Addr × Obj)} {σ : L2.St} {H : Hp} {s : Shared} {a : Addr} {xs : List V} (I : Inv X pins σ H s) (h : Rd H a (.lst xs)) : ∃ (its : List Value) (n : Nat), Vals xs its ∧ xs.length = its.length ∧ s.heap.get? a = some { cls := .type "list", data := .seq its.toArray n } := by
  obtain ⟨z, its, n, r, e⟩ := h.ok I.hok
  exact ⟨its, n, r, r.length, e⟩
theorem op_catR : OpR X (binaryOp .Add) rCatR := by
  intro pins s σ H x y v u Q I rx ry h
  obtain ⟨l, b, xs, zs, rfl, rfl, hH, hB, hz, q⟩ := h
  cases rx
  cases ry
  obtain ⟨its, n, r, hl, e⟩ := Inv.lstR I hH
  obtain ⟨its2, n2, r2, hl2, e2⟩ := Inv.lstR I hB
  refine PySem.P.add_list e e2 ?_ (by rw [List.size_toArray, List.size_toArray]; omega)
  have ea : its.toArray ++ its2.toArray = (its ++ its2).toArray := by simp
  rw [ea]
  exact ⟨.ref _, _, I.lnew (t' := s.toks) (r.append r2) (by rw [List.length_append]; omega), rfl, q _ I.fresh⟩
def fAdd : BF
  | [.int a, .int b] => some (.val (.int (a + b)))
  | [.str a, .str b] => if a.length + b.length ≤ 16777216 then some (.val (.str (a ++ b))) else none
  | [.list a, .list b] => if a.length + b.length ≤ 16777216 then some (.own (.list (a ++ b))) else none
  | [.tuple a, .tuple b] => if a.length + b.length ≤ 16777216 then some (.val (.tuple (a ++ b))) else none
  | _ => none
def rAdd4 (K : PySem.W.Frag) : R2 := fun x y H Q => rI0 (fun i j => .int (i + j)) x y H Q ∨ (∃ i j, x = .str i ∧ y = .str j ∧ i.length + j.length ≤ sizeLine ∧ Q (.str (i ++ j)) H) ∨ rCatR x y H Q ∨ rCatA K x y H Q
theorem op_add4 : OpR X (binaryOp .Add) (rAdd4 X.K) := OpR.or op_add (OpR.or op_add_str (OpR.or op_catR op_catA))
theorem b_add {K : PySem.W.Frag} : BOk K (r2 (rAdd4 K)) fAdd := fun F H vs ds sv Q ag h q => by
  unfold fAdd at h
  split at h
  · rename_i a b
    obtain ⟨v, v', rfl, h1, h2⟩ := argl2 ag
    cases arg_int h1; cases arg_int h2; cases h
    exact ⟨_, _, rfl, .inl ⟨a, b, rfl, rfl, q _ _ (Same.refl _) (.int _)⟩⟩
  · rename_i a b
    obtain ⟨v, v', rfl, h1, h2⟩ := argl2 ag
    cases arg_str h1; cases arg_str h2
    split at h
    · rename_i hl
      cases h
      exact ⟨_, _, rfl, .inr (.inl ⟨a, b, rfl, rfl, by rw [sizeLine_eq]; exact hl, q _ _ (Same.refl _) (.str _)⟩)⟩
    · cases h
  · rename_i a b
    obtain ⟨v, v', rfl, h1, h2⟩ := argl2 ag
    obtain ⟨p1, xs, rfl, s1, r1⟩ := arg_lst h1
    obtain ⟨p2, ys, rfl, s2, r2⟩ := arg_lst h2
    split at h
    · rename_i hl
      cases h
      refine ⟨_, _, rfl, .inr (.inr (.inl ⟨p1, p2, xs, ys, rfl, rfl, s1, s2, by rw [sizeLine_eq, r1.length, r2.length]; exact hl, fun p hp => q _ _ (same_upd hp) (new_lst hp (r1.append r2))⟩))⟩
    · cases h
  · rename_i a b
    obtain ⟨v, v', rfl, h1, h2⟩ := argl2 ag
    obtain ⟨p1, xs, rfl, s1, r1⟩ := arg_tup h1
    obtain ⟨p2, ys, rfl, s2, r2⟩ := arg_tup h2
    split at h
    · rename_i hl
      cases h
      refine ⟨_, _, rfl, .inr (.inr (.inr ⟨p1, p2, xs, ys, rfl, rfl, s1, s2, by rw [sizeLine_eq, r1.length, r2.length]; exact hl, fun e => ?_, fun _ e => ?_, fun _ _ p hp => q _ _ (same_upd hp) (new_tup hp (r1.append r2))⟩))⟩
      · subst e; cases r1; exact q _ _ (Same.refl _) (.tup s2 r2)
      · subst e; cases r2; exact q _ _ (Same.refl _) (.tup s1 (by rw [List.append_nil]; exact r1))
    · cases h
  · cases h
def fSub : BF
  | [.int a, .int b] => some (.val (.int (a - b)))
  | _ => none
theorem b_sub {K : PySem.W.Frag} : BOk K (r2 (rI0 fun i j => .int (i - j))) fSub := fun F H vs ds sv Q ag h q => by
  unfold fSub at h
  split at h
  · rename_i a b
    obtain ⟨v, v', rfl, h1, h2⟩ := argl2 ag
    cases arg_int h1; cases arg_int h2; cases h
    exact ⟨_, _, rfl, a, b, rfl, rfl, q _ _ (Same.refl _) (.int _)⟩
  · cases h
instance (i j : Int) : Decidable (CMul i j) := by unfold CMul; infer_instance
instance (i j : Int) : Decidable (CMulW i j) := by unfold CMulW; infer_instance
/-- tuple * 1 and the empty tuple: the same object; tuple * 0: a new empty one -/
theorem tuple_mulW1 (l : Addr) (items : Array Value) (n : Nat) (dd : Option Addr) (sl : Array (Option Value)) (x : Int) (u : Tok) (c0 : (decide (x < -(2 ^ 63)) || decide (x ≥ 2 ^ 63)) = false) (c1 : (items.isEmpty || x == 1) = true) :
    Meets (Builtin.«tuple.__mul__» ⟨[.ref l, .int x u], []⟩) (fun _ R s => s.heap.get? l = some { cls := .type "tuple", dict := dd, data := .seq items n, slots := sl } ∧ R (.ok (.ret (Value.ref l))) s) :=
  .of_wp fun prog w A R s h => by
    obtain ⟨hp, g, d, tk, os⟩ := s
    obtain ⟨hl, h⟩ := h
    have f1 := AutoSeq1.idx_int
    wp_walk using wpAny_loadPart' hl
    repeat (first
      | (refine wpAny_ite_false (decide_eq_false (by rw [c0]; exact Bool.false_ne_true)) ?_; wp_walk using wpAny_loadPart' hl)
      | (refine wpAny_ite_true (decide_eq_true (by rw [c1])) ?_; wp_walk using wpAny_loadPart' hl))
    exact ⟨_, rfl, h⟩
theorem tuple_mulW0 (l : Addr) (items : Array Value) (n : Nat) (dd : Option Addr) (sl : Array (Option Value)) (x : Int) (u : Tok) (c0 : (decide (x < -(2 ^ 63)) || decide (x ≥ 2 ^ 63)) = false) (c1 : (items.isEmpty || x == 1) = false) (c2 : (decide (x ≤ 0) || items.isEmpty) = true) :
    Meets (Builtin.«tuple.__mul__» ⟨[.ref l, .int x u], []⟩) (fun _ R s => s.heap.get? l = some { cls := .type "tuple", dict := dd, data := .seq items n, slots := sl } ∧
      R (.ok (.ret (Value.ref s.heap.objs.size))) { s with heap := s.heap.push { cls := Value.type "tuple", data := Data.seq #[] }, toks := s.toks }) :=
  .of_wp fun prog w A R s h => by
    obtain ⟨hp, g, d, tk, os⟩ := s
    obtain ⟨hl, h⟩ := h
    have f1 := AutoSeq1.idx_int
    wp_walk using wpAny_loadPart' hl
    repeat (first
      | (refine wpAny_ite_false (decide_eq_false (by rw [c0]; exact Bool.false_ne_true)) ?_; wp_walk using wpAny_loadPart' hl)
      | (refine wpAny_ite_false (decide_eq_false (by rw [c1]; exact Bool.false_ne_true)) ?_; wp_walk using wpAny_loadPart' hl)
      | (refine wpAny_ite_true (decide_eq_true (by rw [c2])) ?_; wp_walk using wpAny_loadPart' hl)
      | (refine wpAny_ite_false (decide_eq_false (by decide)) ?_; wp_walk using wpAny_loadPart' hl))
    exact ⟨_, rfl, h⟩
def rRepT1 (K : PySem.W.Frag) : R2 := fun x y H Q => ∃ l k xs, x = .ref l ∧ y = .int k ∧ SqT K H l xs ∧ (xs = [] ∨ k = 1) ∧ -1000 ≤ k ∧ k ≤ 1000 ∧ Q (.ref l) H
def rRepT0 (K : PySem.W.Frag) : R2 := fun x y H Q => ∃ l k xs, x = .ref l ∧ y = .int k ∧ SqT K H l xs ∧ xs ≠ [] ∧ -1000 ≤ k ∧ k ≤ 0 ∧ ∀ p, H p = none → Q (.ref p) (upd H p (.tup []))
theorem op_repT1 {X : Cx} : OpR X (binaryOp .Mult) (rRepT1 X.K) := by
  intro pins s σ H x y v u Q I rx ry h
  obtain ⟨l, k, xs, rfl, rfl, hT, hne, h0, h1, q⟩ := h
  cases rx
  obtain ⟨t, rfl⟩ := ry
  obtain ⟨its, r, ⟨⟨cls, dd, data, sl⟩, ho, hc, n, hd⟩, hs⟩ := I.tuple hT
  simp only at hc hd
  subst hc hd
  have c0 : (decide (k < -(2 ^ 63)) || decide (k ≥ 2 ^ 63)) = false := by
    rw [decide_eq_false (by omega), decide_eq_false (by omega)] <;> rfl
  have c1 : (its.toArray.isEmpty || k == 1) = true := by
    rcases hne with e | e
    · subst e; cases r; rfl
    · subst e; simp
  exact wpAny_binaryOp_repeat_ref (T := "tuple") (U := "int") (by decide) ⟨_, ho, rfl⟩ (fun s' => typeIs_int s' k t) noFill_tuple_mul F.fills_int_mul F.slot_int_rmul repeat_tuple F.slot_int_index.lookup
    (call_meets F.slot_int_rmul (typeIs_int s k t) F.entry_int_rmul (F.args_int_rmul_2 _ _) (int_rmul_tuple k t l its.toArray n dd sl)
      ⟨ho, rfl, ⟨_, ho, rfl⟩, call_meets F.slot_tuple_mul ⟨_, ho, rfl⟩ F.entry_tuple_mul (F.args_tuple_mul_2 _ _) (tuple_mulW1 l its.toArray n dd sl k t c0 c1) ⟨ho, ⟨.ref l, H, I, rfl, q⟩⟩⟩)
theorem op_repT0 {X : Cx} : OpR X (binaryOp .Mult) (rRepT0 X.K) := by
  intro pins s σ H x y v u Q I rx ry h
  obtain ⟨l, k, xs, rfl, rfl, hT, hne, h0, h1, q⟩ := h
  cases rx
  obtain ⟨t, rfl⟩ := ry
  obtain ⟨its, r, ⟨⟨cls, dd, data, sl⟩, ho, hc, n, hd⟩, hs⟩ := I.tuple hT
  simp only at hc hd
  subst hc hd
  have hi : its.toArray.isEmpty = false := by
    cases its with
    | nil => cases r; exact absurd rfl hne
    | cons a b => rfl
  have c0 : (decide (k < -(2 ^ 63)) || decide (k ≥ 2 ^ 63)) = false := by
    rw [decide_eq_false (by omega), decide_eq_false (by omega)] <;> rfl
  have c1 : (its.toArray.isEmpty || k == 1) = false := by
    rw [hi, Bool.false_or]
    exact beq_eq_false_iff_ne.mpr (by omega)
  have c2 : (decide (k ≤ 0) || its.toArray.isEmpty) = true := by
    rw [decide_eq_true h1]; rfl
  refine wpAny_binaryOp_repeat_ref (T := "tuple") (U := "int") (by decide) ⟨_, ho, rfl⟩ (fun s' => typeIs_int s' k t) noFill_tuple_mul F.fills_int_mul F.slot_int_rmul repeat_tuple F.slot_int_index.lookup
    (call_meets F.slot_int_rmul (typeIs_int s k t) F.entry_int_rmul (F.args_int_rmul_2 _ _) (int_rmul_tuple k t l its.toArray n dd sl)
      ⟨ho, rfl, ⟨_, ho, rfl⟩, call_meets F.slot_tuple_mul ⟨_, ho, rfl⟩ F.entry_tuple_mul (F.args_tuple_mul_2 _ _) (tuple_mulW0 l its.toArray n dd sl k t c0 c1 c2) ⟨ho, ?_⟩⟩)
  refine ⟨.ref s.heap.objs.size, _, I.laid (t' := s.toks) (o := .tup []) (fun b ob q => Heap.get?_push_of_some _ q) (Nat.le_refl _) ?_, rfl, q _ (I.hok.fresh (Nat.le_refl _))⟩
  exact ⟨Nat.zero_le _, [], .nil, IsTup.new _ _⟩
def fMul : BF
  | [.int a, .int b] => if CMul a b ∨ CMulW a b then some (.val (.int (a * b))) else none
  | [.tuple a, .int k] => if -1000 ≤ k ∧ k ≤ 1000 ∧ a.length ≤ 1000 then some (.val (.tuple (List.replicate k.toNat a).flatten)) else none
  | [.list a, .int k] => if -1000 ≤ k ∧ k ≤ 1000 ∧ a.length ≤ 1000 then some (.own (.list (List.replicate k.toNat a).flatten)) else none
  | _ => none
theorem RepL.flat {K : PySem.W.Frag} {F : Addr → Prop} {H : Hp} {xs : List V} {ds : List D} (r : RepL K F H xs ds) : ∀ n : Nat, RepL K F H (List.replicate n xs).flatten (List.replicate n ds).flatten
  | 0 => .nil
  | n + 1 => by
    rw [List.replicate_succ, List.replicate_succ, List.flatten_cons, List.flatten_cons]
    exact r.append (RepL.flat r n)
/-- a list that is read, times an int -/
def rRepRd : R2 := fun x y H Q => ∃ l k xs, x = .ref l ∧ y = .int k ∧ Rd H l (.lst xs) ∧ -1000 ≤ k ∧ k ≤ 1000 ∧ xs.length ≤ 1000 ∧ ∀ p, H p = none → Q (.ref p) (upd H p (.lst (List.replicate k.toNat xs).flatten))
theorem op_repRd {X : Cx} : OpR X (binaryOp .Mult) rRepRd := by
  intro pins s σ H x y v u Q I rx ry h
  obtain ⟨l, k, xs, rfl, rfl, hH, h1, h2, hz, q⟩ := h
  cases rx
  obtain ⟨t, rfl⟩ := ry
  obtain ⟨its, n, r, hl, e⟩ := Inv.lstR I hH
  have a1 : its.toArray.size * k.toNat ≤ 1000 * 1000 := by rw [List.size_toArray]; exact Nat.mul_le_mul (by omega) (by omega)
  have hlen : its.toArray.size * k.toNat ≤ sizeLine := by rw [sizeLine_eq]; omega
  have hcap : ¬ its.toArray.size * k.toNat > (2 ^ 63 - 1) / 8 := by omega
  have hfit : ¬ (!Builtin.List.listFitsIndex k) = true := by
    rw [fitsIndex_both (by omega) (by omega)]
    exact Bool.false_ne_true
  have hlong : ¬ Builtin.List.listTooLong (its.toArray.size * k.toNat) = true := by
    rw [notLongL hlen]
    exact Bool.false_ne_true
  have f0 : ∀ m : Nat, List.foldl (fun x1 x2 => x1 ++ x2) #[] (List.replicate m its.toArray) = (List.replicate m its).flatten.toArray := size_rep its
  have hnew : List.foldl (fun x1 x2 => x1 ++ x2) #[] (List.replicate (if its.toArray.isEmpty = true then 0 else k.toNat) its.toArray) = (List.replicate k.toNat its).flatten.toArray := by
    rw [f0]
    cases its with
    | nil => simp
    | cons a r' => rw [if_neg (by simp)]
  refine wpAny_binaryOp_repeat_ref (T := "list") (U := "int") (by decide) ⟨_, e, rfl⟩ (fun s' => typeIs_int s' k t) noFill_list_mul F.fills_int_mul F.slot_int_rmul repeat_list F.slot_int_index.lookup
    (call_meets F.slot_int_rmul (typeIs_int s k t) F.entry_int_rmul (F.args_int_rmul_2 _ _) (int___rmul___int_list k t l its.toArray n)
      ⟨e, rfl, ⟨_, e, rfl⟩, call_meets F.slot_list_mul ⟨_, e, rfl⟩ F.entry_list_mul (F.args_list_mul_2 _ _) (AutoListH.list___mul___list_int_3 l its.toArray n k t hfit hcap hlong) ⟨e, ?_⟩⟩)
  rw [hnew]
  have hz2 : (List.replicate k.toNat xs).flatten.length ≤ sizeLine := by
    rw [PyProof.Rows.lm_len_rep_flat, hl]
    rw [List.size_toArray] at hlen
    rw [Nat.mul_comm]; exact hlen
  exact ⟨.ref _, _, I.lnew (t' := s.toks) (r.rep k.toNat) hz2, rfl, q _ I.fresh⟩
def rMul4 (K : PySem.W.Frag) : R2 := fun x y H Q => rI CMul (fun i j => .int (i * j)) x y H Q ∨ rI CMulW (fun i j => .int (i * j)) x y H Q ∨ rRepT K x y H Q ∨ rRepT1 K x y H Q ∨ rRepT0 K x y H Q ∨ rRepRd x y H Q
theorem op_mul4 : OpR X (binaryOp .Mult) (rMul4 X.K) := OpR.or op_mul (OpR.or op_mulW (OpR.or op_repT (OpR.or op_repT1 (OpR.or op_repT0 op_repRd))))
theorem flat_nil (n : Nat) : (List.replicate n ([] : List D)).flatten = [] := by
  induction n with
  | zero => rfl
  | succ n ih => simp [List.replicate_succ, ih]
theorem b_mul {K : PySem.W.Frag} : BOk K (r2 (rMul4 K)) fMul := fun F H vs ds sv Q ag h q => by
  unfold fMul at h
  split at h
  · rename_i a b
    obtain ⟨v, v', rfl, h1, h2⟩ := argl2 ag
    cases arg_int h1; cases arg_int h2
    split at h
    · rename_i hc
      cases h
      refine ⟨_, _, rfl, ?_⟩
      rcases hc with hc | hc
      · exact .inl ⟨a, b, rfl, rfl, hc, q _ _ (Same.refl _) (.int _)⟩
      · exact .inr (.inl ⟨a, b, rfl, rfl, hc, q _ _ (Same.refl _) (.int _)⟩)
    · cases h
  · rename_i a k
    obtain ⟨v, v', rfl, h1, h2⟩ := argl2 ag
    obtain ⟨p1, xs, rfl, s1, r1⟩ := arg_tup h1
    have h1' := h1
    cases arg_int h2
    split at h
    · rename_i hc
      cases h
      by_cases z : a = [] ∨ k = 1
      · have e : (List.replicate k.toNat a).flatten = a := by
          rcases z with z | z
          · subst z; exact flat_nil _
          · subst z; simp [List.replicate_succ]
        rw [e] at q
        refine ⟨_, _, rfl, .inr (.inr (.inr (.inl ⟨p1, k, xs, rfl, rfl, s1, ?_, hc.1, hc.2.1, q _ _ (Same.refl _) (.tup s1 r1)⟩)))⟩
        rcases z with z | z
        · subst z; cases r1; exact .inl rfl
        · exact .inr z
      · have z1 : a ≠ [] := fun e => z (.inl e)
        have z2 : k ≠ 1 := fun e => z (.inr e)
        have z3 : xs ≠ [] := fun e => by subst e; cases r1; exact z1 rfl
        by_cases z4 : 2 ≤ k
        · exact ⟨_, _, rfl, .inr (.inr (.inl ⟨p1, k, xs, rfl, rfl, s1, z3, z4, hc.2.1, by rw [r1.length]; exact hc.2.2, fun p hp => q _ _ (same_upd hp) (new_tup hp (RepL.flat r1 _))⟩))⟩
        · refine ⟨_, _, rfl, .inr (.inr (.inr (.inr (.inl ⟨p1, k, xs, rfl, rfl, s1, z3, hc.1, by omega, fun p hp => q _ _ (same_upd hp) (new_tup hp ?_)⟩))))⟩
          rw [show k.toNat = 0 by omega]
          exact .nil
    · cases h
  · rename_i a k
    obtain ⟨v, v', rfl, h1, h2⟩ := argl2 ag
    obtain ⟨p1, xs, rfl, s1, r1⟩ := arg_lst h1
    cases arg_int h2
    split at h
    · rename_i hc
      cases h
      exact ⟨_, _, rfl, .inr (.inr (.inr (.inr (.inr ⟨p1, k, xs, rfl, rfl, s1, hc.1, hc.2.1, by rw [r1.length]; exact hc.2.2, fun p hp => q _ _ (same_upd hp) (new_lst hp (RepL.flat r1 _))⟩))))⟩
    · cases h
  · cases h
def fDiv : BF
  | [.int a, .int b] => if 0 < b ∧ b < 18446744073709551616 then some (.val (.int (a / b))) else none
  | _ => none
theorem b_div {K : PySem.W.Frag} : BOk K (r2 (rI CDivW fun i j => .int (i / j))) fDiv := fun F H vs ds sv Q ag h q => by
  unfold fDiv at h
  split at h
  · rename_i a b
    obtain ⟨v, v', rfl, h1, h2⟩ := argl2 ag
    cases arg_int h1; cases arg_int h2
    split at h
    · rename_i hc
      cases h
      exact ⟨_, _, rfl, a, b, rfl, rfl, wide_div (b := 64) hc.1 (by omega) (by decide) (by decide), q _ _ (Same.refl _) (.int _)⟩
    · cases h
  · cases h
def fMod : BF
  | [.int a, .int b] => if 0 < b then some (.val (.int (a % b))) else none
  | _ => none
theorem b_mod {K : PySem.W.Frag} : BOk K (r2 (rI (fun _ j => 0 < j) fun i j => .int (i % j))) fMod := fun F H vs ds sv Q ag h q => by
  unfold fMod at h
  split at h
  · rename_i a b
    obtain ⟨v, v', rfl, h1, h2⟩ := argl2 ag
    cases arg_int h1; cases arg_int h2
    split at h
    · rename_i hc
      cases h
      exact ⟨_, _, rfl, a, b, rfl, rfl, hc, q _ _ (Same.refl _) (.int _)⟩
    · cases h
  · cases h
def fPow : BF
  | [.int a, .int b] => if 0 ≤ b ∧ b ≤ 1000000 ∧ a.natAbs < 2 ^ 64 then some (.val (.int (a ^ b.toNat))) else none
  | _ => none
theorem b_pow {K : PySem.W.Frag} : BOk K (r2 (rI CPow fun i j => .int (i ^ j.toNat))) fPow := fun F H vs ds sv Q ag h q => by
  unfold fPow at h
  split at h
  · rename_i a b
    obtain ⟨v, v', rfl, h1, h2⟩ := argl2 ag
    cases arg_int h1; cases arg_int h2
    split at h
    · rename_i hc
      cases h
      exact ⟨_, _, rfl, a, b, rfl, rfl, hc, q _ _ (Same.refl _) (.int _)⟩
    · cases h
  · cases h
def fNeg : BF
  | [.int a] => some (.val (.int (-a)))
  | _ => none
theorem b_neg {K : PySem.W.Frag} : BOk K (r1 (rU fun i => .int (-i))) fNeg := fun F H vs ds sv Q ag h q => by
  unfold fNeg at h
  split at h
  · obtain ⟨v, rfl, h1⟩ := argl1 ag
    cases arg_int h1; cases h
    exact ⟨_, rfl, _, rfl, q _ _ (Same.refl _) (.int _)⟩
  · cases h
/-- which operator -/
def binF : Operator → Option BF
  | .Add => some fAdd
  | .Sub => some fSub
  | .Mult => some fMul
  | .FloorDiv => some fDiv
  | .Mod => some fMod
  | .Pow => some fPow
  | _ => none
theorem bin_ok {op : Operator} {f : BF} (h : binF op = some f) : ∃ r : R2, OpR X (binaryOp op) r ∧ BOk X.K (r2 r) f := by
  cases op <;> cases h
  · exact ⟨_, op_add4, b_add⟩
  · exact ⟨_, op_sub, b_sub⟩
  · exact ⟨_, op_mul4, b_mul⟩
  · exact ⟨_, op_mod, b_mod⟩
  · exact ⟨_, op_pow, b_pow⟩
  · exact ⟨_, op_fdivW, b_div⟩

/-! ### comparisons -/
def strLt (a b : Str) : Bool := decide (a.cps.toList < b.cps.toList)
def fLt : BF
  | [.int a, .int b] => some (.val (.bool (decide (a < b))))
  | [.str a, .str b] => some (.val (.bool (strLt a b)))
  | [.tuple a, .tuple b] => match intsOf a, intsOf b with
    | some p, some q => some (.val (.bool (HT.lexLt p q)))
    | _, _ => none
  | _ => none
def fLe : BF
  | [.int a, .int b] => some (.val (.bool (decide (a ≤ b))))
  | _ => none
def fGt : BF
  | [.int a, .int b] => some (.val (.bool (decide (b < a))))
  | _ => none
def fGe : BF
  | [.int a, .int b] => some (.val (.bool (decide (b ≤ a))))
  | _ => none
theorem b_lt {K : PySem.W.Frag} : BOk K (r2 fun x y H Q => (rI0 (fun i j => .bl (decide (i < j))) x y H Q ∨ (∃ i j, x = .str i ∧ y = .str j ∧ Q (.bl (decide (i.cps.toList < j.cps.toList))) H)) ∨ rLtT K x y H Q) fLt := fun F H vs ds sv Q ag h q => by
  unfold fLt at h
  split at h
  · rename_i a b
    obtain ⟨v, v', rfl, h1, h2⟩ := argl2 ag
    cases arg_int h1; cases arg_int h2; cases h
    exact ⟨_, _, rfl, .inl (.inl ⟨a, b, rfl, rfl, q _ _ (Same.refl _) (.bl _)⟩)⟩
  · rename_i a b
    obtain ⟨v, v', rfl, h1, h2⟩ := argl2 ag
    cases arg_str h1; cases arg_str h2; cases h
    exact ⟨_, _, rfl, .inl (.inr ⟨a, b, rfl, rfl, q _ _ (Same.refl _) (.bl _)⟩)⟩
  · rename_i a b
    obtain ⟨v, v', rfl, h1, h2⟩ := argl2 ag
    obtain ⟨p1, xs, rfl, s1, r1⟩ := arg_tup h1
    obtain ⟨p2, ys, rfl, s2, r2⟩ := arg_tup h2
    split at h
    · rename_i is js hi hj
      cases h
      rw [intsOf_map hi] at r1
      rw [intsOf_map hj] at r2
      have e1 := repl_ints r1
      have e2 := repl_ints r2
      subst e1 e2
      exact ⟨_, _, rfl, .inr ⟨p1, p2, is, js, rfl, rfl, s1, s2, q _ _ (Same.refl _) (.bl _)⟩⟩
    · cases h
  · cases h
theorem b_le {K : PySem.W.Frag} : BOk K (r2 (rI0 fun i j => .bl (decide (i ≤ j)))) fLe := fun F H vs ds sv Q ag h q => by
  unfold fLe at h
  split at h
  · rename_i a b
    obtain ⟨v, v', rfl, h1, h2⟩ := argl2 ag
    cases arg_int h1; cases arg_int h2; cases h
    exact ⟨_, _, rfl, a, b, rfl, rfl, q _ _ (Same.refl _) (.bl _)⟩
  · cases h
theorem b_gt {K : PySem.W.Frag} : BOk K (r2 (rI0 fun i j => .bl (decide (j < i)))) fGt := fun F H vs ds sv Q ag h q => by
  unfold fGt at h
  split at h
  · rename_i a b
    obtain ⟨v, v', rfl, h1, h2⟩ := argl2 ag
    cases arg_int h1; cases arg_int h2; cases h
    exact ⟨_, _, rfl, a, b, rfl, rfl, q _ _ (Same.refl _) (.bl _)⟩
  · cases h
theorem b_ge {K : PySem.W.Frag} : BOk K (r2 (rI0 fun i j => .bl (decide (j ≤ i)))) fGe := fun F H vs ds sv Q ag h q => by
  unfold fGe at h
  split at h
  · rename_i a b
    obtain ⟨v, v', rfl, h1, h2⟩ := argl2 ag
    cases arg_int h1; cases arg_int h2; cases h
    exact ⟨_, _, rfl, a, b, rfl, rfl, q _ _ (Same.refl _) (.bl _)⟩
  · cases h
/-! a value as data, for the library's == -/
mutual
theorem Rep.dp {K : PySem.W.Frag} {F : Addr → Prop} {H : Hp} : ∀ {v : V} {d : D}, Rep K F H v d → d.canLay0 = true → Dp K H v d
  | _, _, .non, _ => .non
  | _, _, .bl b, _ => .bl b
  | _, _, .int i, _ => .int i
  | _, _, .str x, _ => .str x
  | _, _, .lst h r, k => .lst h.seq (RepL.dp r (by simpa [PyData.canLay0] using k))
  | _, _, .tup h r, k => .tup h (RepL.dp r (by simpa [PyData.canLay0] using k))
  | _, _, .dK _ _ _, k => by simp [PyData.canLay0] at k
  | _, _, .dT _ _ _, k => by simp [PyData.canLay0] at k
theorem RepL.dp {K : PySem.W.Frag} {F : Addr → Prop} {H : Hp} : ∀ {v : List V} {d : List D}, RepL K F H v d → PyData.canLayAll0 d = true → DpAll K H v d
  | _, _, .nil, _ => .nil
  | _, _, .cons h r, k => .cons (Rep.dp h (by simp [PyData.canLayAll0] at k; exact k.1)) (RepL.dp r (by simp [PyData.canLayAll0] at k; exact k.2))
end
theorem Arg.dp {K : PySem.W.Frag} {F : Addr → Prop} {H : Hp} {v : V} {d : D} (h : Arg K F H v d) (k : d.canLay0 = true) : Dp K H v d := by
  cases d with
  | list ds => obtain ⟨a, xs, rfl, s, r⟩ := h; exact .lst (.inl s) (r.dp (by simpa [PyData.canLay0] using k))
  | dict ds => simp [PyData.canLay0] at k
  | none => exact Rep.dp h k
  | bool _ => exact Rep.dp h k
  | int _ => exact Rep.dp h k
  | str _ => exact Rep.dp h k
  | tuple _ => exact Rep.dp h k
def isStr : D → Bool
  | .str _ => true
  | _ => false
def eqOk (a b : D) : Bool := (isStr a && isStr b) || (SeqAt.shaped a && SeqAt.shaped b)
def fEq : BF
  | [a, b] => if eqOk a b = true then some (.val (.bool (PyData.eqv a b))) else none
  | _ => none
def fNe : BF
  | [a, b] => if eqOk a b = true then some (.val (.bool (!PyData.eqv a b))) else none
  | _ => none
theorem b_eq {K : PySem.W.Frag} : BOk K (r2 fun x y H Q => rEq x y H Q ∨ rEqD K x y H Q) fEq := fun F H vs ds sv Q ag h q => by
  unfold fEq at h
  split at h
  · rename_i a b
    obtain ⟨v, v', rfl, h1, h2⟩ := argl2 ag
    split at h
    · rename_i hc
      cases h
      refine ⟨_, _, rfl, ?_⟩
      rcases Bool.or_eq_true_iff.mp hc with hc | hc
      · obtain ⟨c1, c2⟩ := Bool.and_eq_true_iff.mp hc
        cases a <;> try cases c1
        cases b <;> try cases c2
        cases arg_str h1; cases arg_str h2
        refine .inl ⟨rfl, ?_⟩
        rw [dec_str]
        exact q _ _ (Same.refl _) (by simp only [PyData.eqv]; exact .bl _)
      · obtain ⟨c1, c2⟩ := Bool.and_eq_true_iff.mp hc
        exact .inr ⟨a, b, h1.dp (SeqAt.canLay_of_shaped c1), h2.dp (SeqAt.canLay_of_shaped c2), c1, c2, q _ _ (Same.refl _) (.bl _)⟩
    · cases h
  · cases h
theorem b_ne {K : PySem.W.Frag} : BOk K (r2 fun x y H Q => rNe x y H Q ∨ rNeD K x y H Q) fNe := fun F H vs ds sv Q ag h q => by
  unfold fNe at h
  split at h
  · rename_i a b
    obtain ⟨v, v', rfl, h1, h2⟩ := argl2 ag
    split at h
    · rename_i hc
      cases h
      refine ⟨_, _, rfl, ?_⟩
      rcases Bool.or_eq_true_iff.mp hc with hc | hc
      · obtain ⟨c1, c2⟩ := Bool.and_eq_true_iff.mp hc
        cases a <;> try cases c1
        cases b <;> try cases c2
        cases arg_str h1; cases arg_str h2
        refine .inl ⟨rfl, ?_⟩
        rw [dec_str]
        exact q _ _ (Same.refl _) (by simp only [PyData.eqv]; exact .bl _)
      · obtain ⟨c1, c2⟩ := Bool.and_eq_true_iff.mp hc
        exact .inr ⟨a, b, h1.dp (SeqAt.canLay_of_shaped c1), h2.dp (SeqAt.canLay_of_shaped c2), c1, c2, q _ _ (Same.refl _) (.bl _)⟩
    · cases h
  · cases h
def isNone : D → Bool
  | .none => true
  | _ => false
def fIs : BF
  | [d, .none] => some (.val (.bool (isNone d)))
  | [.bool a, .bool b] => some (.val (.bool (a == b)))
  | _ => none
def fIsNot : BF
  | [d, .none] => some (.val (.bool (!isNone d)))
  | [.bool a, .bool b] => some (.val (.bool (!(a == b))))
  | _ => none
theorem arg_isNone {K : PySem.W.Frag} {F : Addr → Prop} {H : Hp} {v : V} {d : D} (h : Arg K F H v d) : decide (v = .non) = isNone d := by
  cases d with
  | list ds => obtain ⟨a, xs, rfl, _⟩ := h; rfl
  | dict ds => obtain ⟨a, rfl, _⟩ := h; rfl
  | none => cases h; rfl
  | bool _ => cases h; rfl
  | int _ => cases h; rfl
  | str _ => cases h; rfl
  | tuple _ => cases h; rfl
theorem b_is {K : PySem.W.Frag} : BOk K (r2 fun x y H Q => (y = .non ∧ Q (.bl (decide (x = .non))) H) ∨ rIsB x y H Q) fIs := fun F H vs ds sv Q ag h q => by
  unfold fIs at h
  split at h
  · obtain ⟨v, v', rfl, h1, h2⟩ := argl2 ag
    cases arg_none h2; cases h
    exact ⟨_, _, rfl, .inl ⟨rfl, by rw [arg_isNone h1]; exact q _ _ (Same.refl _) (.bl _)⟩⟩
  · rename_i a b
    obtain ⟨v, v', rfl, h1, h2⟩ := argl2 ag
    cases arg_bool h1; cases arg_bool h2; cases h
    exact ⟨_, _, rfl, .inr ⟨a, b, rfl, rfl, by rw [show decide (a = b) = (a == b) from by cases a <;> cases b <;> rfl]; exact q _ _ (Same.refl _) (.bl _)⟩⟩
  · cases h
theorem b_isnot {K : PySem.W.Frag} : BOk K (r2 fun x y H Q => (y = .non ∧ Q (.bl (!decide (x = .non))) H) ∨ rNotB x y H Q) fIsNot := fun F H vs ds sv Q ag h q => by
  unfold fIsNot at h
  split at h
  · obtain ⟨v, v', rfl, h1, h2⟩ := argl2 ag
    cases arg_none h2; cases h
    exact ⟨_, _, rfl, .inl ⟨rfl, by rw [arg_isNone h1]; exact q _ _ (Same.refl _) (.bl _)⟩⟩
  · rename_i a b
    obtain ⟨v, v', rfl, h1, h2⟩ := argl2 ag
    cases arg_bool h1; cases arg_bool h2; cases h
    exact ⟨_, _, rfl, .inr ⟨a, b, rfl, rfl, by rw [show decide (a = b) = (a == b) from by cases a <;> cases b <;> rfl]; exact q _ _ (Same.refl _) (.bl _)⟩⟩
  · cases h
/-- in, not in: over flat items, over signs, over lists of data -/
def inD (x : D) (ys : List D) : Bool := ys.any fun y => PyData.eqv y x
def flatD : D → Bool
  | .none => true
  | .bool _ => true
  | .int _ => true
  | .str _ => true
  | _ => false
def fIn : BF
  | [.str a, .str b] => some (.val (.bool (!(Builtin.Str.occurrences b a 0 b.length 1).isEmpty)))
  | [x, .list ys] => if (flatD x && ys.all flatD) || (SeqAt.shaped x && SeqAt.shaped (.list ys)) then some (.val (.bool (inD x ys))) else none
  | [x, .tuple ys] => if flatD x && ys.all flatD then some (.val (.bool (inD x ys))) else none
  | _ => none
theorem flat_v {K : PySem.W.Frag} {F : Addr → Prop} {H : Hp} {v : V} {d : D} (h : Arg K F H v d) (f : flatD d = true) : flatV v = true ∧ ∀ {w : V} {e : D}, Arg K F H w e → flatD e = true → eqV w v = PyData.eqv e d := by
  cases d with
  | list ds => cases f
  | dict ds => cases f
  | tuple ds => cases f
  | none =>
    cases h
    refine ⟨rfl, fun {w e} hw fe => ?_⟩
    cases e with
    | none => cases hw; simp [eqV, PyData.eqv]
    | bool _ => cases hw; simp [eqV, PyData.eqv]
    | int _ => cases hw; simp [eqV, PyData.eqv]
    | str _ => cases hw; simp [eqV, PyData.eqv]
    | _ => cases fe
  | bool b =>
    cases h
    refine ⟨rfl, fun {w e} hw fe => ?_⟩
    cases e with
    | none => cases hw; simp [eqV, PyData.eqv]
    | bool _ => cases hw; simp [eqV, PyData.eqv]
    | int _ => cases hw; simp [eqV, PyData.eqv]
    | str _ => cases hw; simp [eqV, PyData.eqv]
    | _ => cases fe
  | int b =>
    cases h
    refine ⟨rfl, fun {w e} hw fe => ?_⟩
    cases e with
    | none => cases hw; simp [eqV, PyData.eqv]
    | bool _ => cases hw; simp [eqV, PyData.eqv]
    | int _ => cases hw; simp [eqV, PyData.eqv]
    | str _ => cases hw; simp [eqV, PyData.eqv]
    | _ => cases fe
  | str b =>
    cases h
    refine ⟨rfl, fun {w e} hw fe => ?_⟩
    cases e with
    | none => cases hw; simp [eqV, PyData.eqv]
    | bool _ => cases hw; simp [eqV, PyData.eqv]
    | int _ => cases hw; simp [eqV, PyData.eqv]
    | str _ => cases hw; simp [eqV, PyData.eqv]
    | _ => cases fe
theorem in_flat {K : PySem.W.Frag} {F : Addr → Prop} {H : Hp} {v : V} {d : D} (h : Arg K F H v d) (f : flatD d = true) : ∀ {ys : List V} {es : List D}, RepL K F H ys es → es.all flatD = true → ys.all flatV = true ∧ inV v ys = inD d es
  | _, _, .nil, _ => ⟨rfl, rfl⟩
  | _, _, .cons a b, g => by
    simp only [List.all_cons, Bool.and_eq_true] at g ⊢
    obtain ⟨h1, h2⟩ := in_flat h f b g.2
    refine ⟨⟨(flat_v a.arg g.1).1, h1⟩, ?_⟩
    unfold inV inD at h2 ⊢
    simp only [List.any_cons, h2, (flat_v h f).2 a.arg g.1]
theorem b_in {K : PySem.W.Frag} : BOk K (r2 fun x y H Q => (∃ i j, x = .str i ∧ y = .str j ∧ Q (.bl (!(Builtin.Str.occurrences j i 0 j.length 1).isEmpty)) H) ∨ rIn K false x y H Q ∨ rInD K x y H Q) fIn := fun F H vs ds sv Q ag h q => by
  unfold fIn at h
  split at h
  · rename_i a b
    obtain ⟨v, v', rfl, h1, h2⟩ := argl2 ag
    cases arg_str h1; cases arg_str h2; cases h
    exact ⟨_, _, rfl, .inl ⟨a, b, rfl, rfl, q _ _ (Same.refl _) (.bl _)⟩⟩
  · rename_i x ys
    obtain ⟨v, v', rfl, h1, h2⟩ := argl2 ag
    obtain ⟨p1, xs, rfl, s1, r1⟩ := arg_lst h2
    split at h
    · rename_i hc
      cases h
      refine ⟨_, _, rfl, .inr ?_⟩
      rcases Bool.or_eq_true_iff.mp hc with hc | hc
      · obtain ⟨c1, c2⟩ := Bool.and_eq_true_iff.mp hc
        obtain ⟨f1, f2⟩ := in_flat h1 c1 r1 c2
        refine .inl ⟨p1, xs, rfl, .inl (.inl s1), (flat_v h1 c1).1, f1, ?_⟩
        rw [if_neg Bool.false_ne_true, f2]
        exact q _ _ (Same.refl _) (.bl _)
      · obtain ⟨c1, c2⟩ := Bool.and_eq_true_iff.mp hc
        exact .inr ⟨x, ys, h1.dp (SeqAt.canLay_of_shaped c1), h2.dp (SeqAt.canLay_of_shaped c2), c1, c2, q _ _ (Same.refl _) (.bl _)⟩
    · cases h
  · rename_i x ys
    obtain ⟨v, v', rfl, h1, h2⟩ := argl2 ag
    obtain ⟨p1, xs, rfl, s1, r1⟩ := arg_tup h2
    split at h
    · rename_i hc
      cases h
      obtain ⟨c1, c2⟩ := Bool.and_eq_true_iff.mp hc
      obtain ⟨f1, f2⟩ := in_flat h1 c1 r1 c2
      refine ⟨_, _, rfl, .inr (.inl ⟨p1, xs, rfl, .inr s1, (flat_v h1 c1).1, f1, ?_⟩)⟩
      rw [if_neg Bool.false_ne_true, f2]
      exact q _ _ (Same.refl _) (.bl _)
    · cases h
  · cases h
def fNot (f : BF) : BF := fun ds => match f ds with
  | some (.val (.bool b)) => some (.val (.bool (!b)))
  | _ => none
theorem b_notin {K : PySem.W.Frag} : BOk K (r2 fun x y H Q => (∃ i j, x = .str i ∧ y = .str j ∧ Q (.bl (!(!(Builtin.Str.occurrences j i 0 j.length 1).isEmpty))) H) ∨ rIn K true x y H Q ∨ rNotInD K x y H Q) (fNot fIn) := fun F H vs ds sv Q ag h q => by
  unfold fNot at h
  split at h
  case h_2 => cases h
  rename_i b0 hb
  cases h
  unfold fIn at hb
  split at hb
  · rename_i a b
    obtain ⟨v, v', rfl, h1, h2⟩ := argl2 ag
    cases arg_str h1; cases arg_str h2; cases hb
    exact ⟨_, _, rfl, .inl ⟨a, b, rfl, rfl, q _ _ (Same.refl _) (.bl _)⟩⟩
  · rename_i x ys
    obtain ⟨v, v', rfl, h1, h2⟩ := argl2 ag
    obtain ⟨p1, xs, rfl, s1, r1⟩ := arg_lst h2
    split at hb
    · rename_i hc
      cases hb
      refine ⟨_, _, rfl, .inr ?_⟩
      rcases Bool.or_eq_true_iff.mp hc with hc | hc
      · obtain ⟨c1, c2⟩ := Bool.and_eq_true_iff.mp hc
        obtain ⟨f1, f2⟩ := in_flat h1 c1 r1 c2
        refine .inl ⟨p1, xs, rfl, .inl (.inl s1), (flat_v h1 c1).1, f1, ?_⟩
        rw [if_pos rfl, f2]
        exact q _ _ (Same.refl _) (.bl _)
      · obtain ⟨c1, c2⟩ := Bool.and_eq_true_iff.mp hc
        exact .inr ⟨x, ys, h1.dp (SeqAt.canLay_of_shaped c1), h2.dp (SeqAt.canLay_of_shaped c2), c1, c2, q _ _ (Same.refl _) (.bl _)⟩
    · cases hb
  · rename_i x ys
    obtain ⟨v, v', rfl, h1, h2⟩ := argl2 ag
    obtain ⟨p1, xs, rfl, s1, r1⟩ := arg_tup h2
    split at hb
    · rename_i hc
      cases hb
      obtain ⟨c1, c2⟩ := Bool.and_eq_true_iff.mp hc
      obtain ⟨f1, f2⟩ := in_flat h1 c1 r1 c2
      refine ⟨_, _, rfl, .inr (.inl ⟨p1, xs, rfl, .inr s1, (flat_v h1 c1).1, f1, ?_⟩)⟩
      rw [if_pos rfl, f2]
      exact q _ _ (Same.refl _) (.bl _)
    · cases hb
  · cases hb
end
end Ev

/-! Subscripts, slices, built-in functions by values. -/
namespace Ev
open PySem PySem.Spec PyProof.Rows L2

section
variable {K : PySem.W.Frag} {F : Addr → Prop} {H : Hp}
theorem RepL.atI {xs : List V} {ds : List D} (r : RepL K F H xs ds) {i : Int} {d : D} (h : L2.atI ds i = some d) : ∃ v, L2.atI xs i = some v ∧ Rep K F H v d := by
  unfold L2.atI at h ⊢
  rw [r.length]
  cases hj : ixN ds.length i with
  | none => rw [hj] at h; cases h
  | some j =>
    rw [hj] at h
    exact r.get' h
end
def fIx : BF
  | [.list ds, .int i] => match atI ds i with
    | some d => some (.val d)
    | none => none
  | [.tuple ds, .int i] => match atI ds i with
    | some d => some (.val d)
    | none => none
  | [.str z, .int i] => if z.length ≤ 16777216 then (match atI z.cps.toList i with
    | some c => some (.val (.str ⟨#[c]⟩))
    | none => none) else none
  | _ => none
theorem b_ix {K : PySem.W.Frag} : BOk K (r2 (rIx K)) fIx := fun F H vs ds sv Q ag h q => by
  unfold fIx at h
  split at h
  · rename_i ds i
    obtain ⟨v, v', rfl, h1, h2⟩ := argl2 ag
    obtain ⟨p, xs, rfl, s, r⟩ := arg_lst h1
    cases arg_int h2
    split at h
    · rename_i d hd
      cases h
      obtain ⟨v, hv, rv⟩ := r.atI hd
      exact ⟨_, _, rfl, .inl ⟨p, xs, i, v, rfl, rfl, .inl s, hv, q _ _ (Same.refl _) rv⟩⟩
    · cases h
  · rename_i ds i
    obtain ⟨v, v', rfl, h1, h2⟩ := argl2 ag
    obtain ⟨p, xs, rfl, s, r⟩ := arg_tup h1
    cases arg_int h2
    split at h
    · rename_i d hd
      cases h
      obtain ⟨v, hv, rv⟩ := r.atI hd
      exact ⟨_, _, rfl, .inr (.inl ⟨p, xs, i, v, rfl, rfl, s, hv, q _ _ (Same.refl _) rv⟩)⟩
    · cases h
  · rename_i z i
    obtain ⟨v, v', rfl, h1, h2⟩ := argl2 ag
    cases arg_str h1; cases arg_int h2
    split at h
    · rename_i hz
      split at h
      · rename_i c hc
        cases h
        exact ⟨_, _, rfl, .inr (.inr ⟨z, i, c, rfl, rfl, by rw [sizeLine_eq]; exact hz, hc, q _ _ (Same.refl _) (.str _)⟩)⟩
      · cases h
    · cases h
  · cases h
def cutD (ds : List D) (lo hi : Option Int) : List D := (ds.drop (HT.sIx ds.length 0 lo)).take (HT.sIx ds.length ds.length hi - HT.sIx ds.length 0 lo)
def fSl : SF := fun d lo hi => match d with
  | .list ds => some (.own (.list (cutD ds lo hi)))
  | .tuple ds => some (.val (.tuple (cutD ds lo hi)))
  | .str z => if z.length ≤ 16777216 then some (.val (.str (cutS z lo hi))) else none
  | _ => none
theorem RepL.cut {K : PySem.W.Frag} {F : Addr → Prop} {H : Hp} {xs : List V} {ds : List D} (r : RepL K F H xs ds) (lo hi : Option Int) : RepL K F H (cutV xs lo hi) (cutD ds lo hi) := by
  unfold cutV cutD
  rw [r.length]
  exact (r.drop _).take _
theorem s_sl {K : PySem.W.Frag} : SOk K (fun x lo hi H Q => rSlL K x lo hi H Q ∨ rSlA K x lo hi H Q ∨ rSlS x lo hi H Q) fSl := fun F H v d lo hi sv Q ag h q => by
  unfold fSl at h
  split at h
  · rename_i ds
    obtain ⟨p, xs, rfl, s, r⟩ := arg_lst ag
    cases h
    exact .inl ⟨p, xs, rfl, .inl s, fun l hl => q _ _ (same_upd hl) (new_lst hl (r.cut lo hi))⟩
  · rename_i ds
    obtain ⟨p, xs, rfl, s, r⟩ := arg_tup ag
    cases h
    refine .inr (.inl ⟨p, xs, rfl, s, fun e => ?_, fun _ l hl => q _ _ (same_upd hl) (new_tup hl (r.cut lo hi))⟩)
    have : cutD ds lo hi = ds := by
      unfold cutD
      rw [← r.length, e.1, e.2, List.drop_zero, Nat.sub_zero, r.length, List.take_length]
    rw [this] at q
    exact q _ _ (Same.refl _) (.tup s r)
  · rename_i z
    cases arg_str ag
    split at h
    · rename_i hz
      cases h
      exact .inr (.inr ⟨z, rfl, by rw [sizeLine_eq]; exact hz, q _ _ (Same.refl _) (.str _)⟩)
    · cases h
  · cases h
/-! ### built-in functions -/
def fLen : BF
  | [.list ds] => some (.val (.int ds.length))
  | [.tuple ds] => some (.val (.int ds.length))
  | [.str z] => if z.length ≤ 16777216 then some (.val (.int z.length)) else none
  | _ => none
theorem b_len {K : PySem.W.Frag} : BOk K (fun xs H Q => ∃ x n, xs = [x] ∧ LenV K x H n ∧ Q (.int n) H) fLen := fun F H vs ds sv Q ag h q => by
  unfold fLen at h
  split at h
  · rename_i ds
    obtain ⟨v, rfl, h1⟩ := argl1 ag
    obtain ⟨p, xs, rfl, s, r⟩ := arg_lst h1
    cases h
    exact ⟨_, ds.length, rfl, .inl ⟨xs, .inl s, r.length.symm⟩, q _ _ (Same.refl _) (.int _)⟩
  · rename_i ds
    obtain ⟨v, rfl, h1⟩ := argl1 ag
    obtain ⟨p, xs, rfl, s, r⟩ := arg_tup h1
    cases h
    exact ⟨_, ds.length, rfl, .inr ⟨xs, s, r.length.symm⟩, q _ _ (Same.refl _) (.int _)⟩
  · rename_i z
    obtain ⟨v, rfl, h1⟩ := argl1 ag
    cases arg_str h1
    split at h
    · rename_i hz
      cases h
      exact ⟨_, z.length, rfl, ⟨by rw [sizeLine_eq]; exact hz, rfl⟩, q _ _ (Same.refl _) (.int _)⟩
    · cases h
  · cases h
def fAbs : BF
  | [.int i] => some (.val (.int (if i < 0 then -i else i)))
  | _ => none
theorem b_abs {K : PySem.W.Frag} : BOk K (fun xs H Q => ∃ i, xs = [.int i] ∧ Q (.int (if i < 0 then -i else i)) H) fAbs := fun F H vs ds sv Q ag h q => by
  unfold fAbs at h
  split at h
  · obtain ⟨v, rfl, h1⟩ := argl1 ag
    cases arg_int h1; cases h
    exact ⟨_, rfl, q _ _ (Same.refl _) (.int _)⟩
  · cases h
def fInt : BF
  | [.int i] => some (.val (.int i))
  | [.bool b] => some (.val (.int (if b = true then 1 else 0)))
  | _ => none
theorem b_int {K : PySem.W.Frag} : BOk K (fun xs H Q => (∃ i, xs = [.int i] ∧ Q (.int i) H) ∨ ∃ k, xs = [.bl k] ∧ Q (.int (if k then 1 else 0)) H) fInt := fun F H vs ds sv Q ag h q => by
  unfold fInt at h
  split at h
  · obtain ⟨v, rfl, h1⟩ := argl1 ag
    cases arg_int h1; cases h
    exact .inl ⟨_, rfl, q _ _ (Same.refl _) (.int _)⟩
  · obtain ⟨v, rfl, h1⟩ := argl1 ag
    cases arg_bool h1; cases h
    exact .inr ⟨_, rfl, q _ _ (Same.refl _) (.int _)⟩
  · cases h
def fStr : BF
  | [.str x] => some (.val (.str x))
  | [.int i] => if i.natAbs.log2 < 1920 then some (.val (.str (Str.ofString (toString i)))) else none
  | _ => none
def fList : BF
  | [.list ds] => some (.own (.list ds))
  | [.tuple ds] => some (.own (.list ds))
  | _ => none
theorem b_list {K : PySem.W.Frag} : BOk K (fun xs H Q => ∃ p ys, xs = [.ref p] ∧ (SqL K H p ys ∨ SqT K H p ys) ∧ ∀ l, H l = none → Q (.ref l) (upd H l (.lst ys))) fList := fun F H vs ds sv Q ag h q => by
  unfold fList at h
  split at h
  · obtain ⟨v, rfl, h1⟩ := argl1 ag
    obtain ⟨p, xs, rfl, s, r⟩ := arg_lst h1
    cases h
    exact ⟨p, xs, rfl, .inl (.inl s), fun l hl => q _ _ (same_upd hl) (new_lst hl r)⟩
  · obtain ⟨v, rfl, h1⟩ := argl1 ag
    obtain ⟨p, xs, rfl, s, r⟩ := arg_tup h1
    cases h
    exact ⟨p, xs, rfl, .inr s, fun l hl => q _ _ (same_upd hl) (new_lst hl r)⟩
  · cases h
def fTuple : BF
  | [.list ds] => some (.val (.tuple ds))
  | [.tuple ds] => some (.val (.tuple ds))
  | _ => none
theorem b_tuple {K : PySem.W.Frag} : BOk K (fun xs H Q => ∃ p ys, xs = [.ref p] ∧ ((SqL K H p ys ∧ ∀ l, H l = none → Q (.ref l) (upd H l (.tup ys))) ∨ (SqT K H p ys ∧ Q (.ref p) H))) fTuple := fun F H vs ds sv Q ag h q => by
  unfold fTuple at h
  split at h
  · obtain ⟨v, rfl, h1⟩ := argl1 ag
    obtain ⟨p, xs, rfl, s, r⟩ := arg_lst h1
    cases h
    exact ⟨p, xs, rfl, .inl ⟨.inl s, fun l hl => q _ _ (same_upd hl) (new_tup hl r)⟩⟩
  · obtain ⟨v, rfl, h1⟩ := argl1 ag
    obtain ⟨p, xs, rfl, s, r⟩ := arg_tup h1
    cases h
    exact ⟨p, xs, rfl, .inr ⟨s, q _ _ (Same.refl _) (.tup s r)⟩⟩
  · cases h
def listMax : Int → List Int → Int
  | a, [] => a
  | a, b :: r => listMax (if b > a then b else a) r
def listMin : Int → List Int → Int
  | a, [] => a
  | a, b :: r => listMin (if b < a then b else a) r
theorem listMax_mem : ∀ (a : Int) (r : List Int), listMax a r ∈ a :: r ∧ ∀ y ∈ a :: r, y ≤ listMax a r
  | a, [] => ⟨by simp [listMax], fun y hy => by simp at hy; subst hy; exact Int.le_refl _⟩
  | a, b :: r => by
    unfold listMax
    obtain ⟨h1, h2⟩ := listMax_mem (if b > a then b else a) r
    refine ⟨?_, fun y hy => ?_⟩
    · rcases List.mem_cons.mp h1 with h | h
      · rw [h]; split <;> simp
      · simp [h]
    · have h3 := h2 _ List.mem_cons_self
      have h4 : a ≤ (if b > a then b else a) := by split <;> omega
      have h5 : b ≤ (if b > a then b else a) := by split <;> omega
      rcases List.mem_cons.mp hy with rfl | hy
      · exact Int.le_trans h4 h3
      · rcases List.mem_cons.mp hy with rfl | hy
        · exact Int.le_trans h5 h3
        · exact h2 y (List.mem_cons_of_mem _ hy)
theorem listMin_mem : ∀ (a : Int) (r : List Int), listMin a r ∈ a :: r ∧ ∀ y ∈ a :: r, listMin a r ≤ y
  | a, [] => ⟨by simp [listMin], fun y hy => by simp at hy; subst hy; exact Int.le_refl _⟩
  | a, b :: r => by
    unfold listMin
    obtain ⟨h1, h2⟩ := listMin_mem (if b < a then b else a) r
    refine ⟨?_, fun y hy => ?_⟩
    · rcases List.mem_cons.mp h1 with h | h
      · rw [h]; split <;> simp
      · simp [h]
    · have h3 := h2 _ List.mem_cons_self
      have h4 : (if b < a then b else a) ≤ a := by split <;> omega
      have h5 : (if b < a then b else a) ≤ b := by split <;> omega
      rcases List.mem_cons.mp hy with rfl | hy
      · exact Int.le_trans h3 h4
      · rcases List.mem_cons.mp hy with rfl | hy
        · exact Int.le_trans h3 h5
        · exact h2 y (List.mem_cons_of_mem _ hy)
/-! sum, max, min, sorted of a tuple of whole numbers -/
section
variable {prog : Program} {w : World} {A : Around} {E : Value → Shared → Prop} {s : Shared} {l : Addr}
theorem tup_iter {items : Array Value} {Q : Value → Shared → Prop} (hl : s.heap.IsTuple l items)
    (h : ∀ z : Shared, z = { s with heap := s.heap.push { cls := .type "tuple_iterator", data := .fields #[.ref l, .int 0 0] } } →
      (z.heap.IsTupleIter s.heap.objs.size l 0 ∧ z.heap.IsTuple l items) → (∀ b ∈ [s.heap.objs.size, l], b < z.heap.objs.size) → l ≠ s.heap.objs.size → Q (.ref s.heap.objs.size) z) :
    wpAny (model prog w) A (pyIter (.ref l)) Q E s := by
  have ll : l < s.heap.objs.size := by obtain ⟨_, e, _⟩ := hl; exact Heap.lt_size e
  have sz : (s.heap.push { cls := .type "tuple_iterator", data := .fields #[.ref l, .int 0 0] }).objs.size = s.heap.objs.size + 1 := Heap.size_push ..
  refine wpAny_pyIter_tuple hl (h _ rfl ⟨⟨_, Heap.get?_push_size _ rfl, rfl, rfl⟩, hl.push _⟩ (fun b q => ?_) (Nat.ne_of_lt ll))
  show b < (s.heap.push _).objs.size
  rw [sz]
  rcases List.mem_cons.mp q with q | q
  · rw [q]; exact Nat.lt_succ_self _
  · rw [List.mem_singleton.mp q]; exact Nat.lt_succ_of_lt ll
theorem tup_kept {h' : Heap} (hk : ∀ b o, b ∉ [s.heap.objs.size] → (s.heap.push { cls := .type "tuple_iterator", data := .fields #[.ref l, .int 0 0] }).get? b = some o → h'.get? b = some o) :
    ∀ b o, s.heap.get? b = some o → h'.get? b = some o := fun b o e => by
  refine hk b o (fun q => ?_) (Heap.get?_push_of_some _ e)
  have := Heap.lt_size e
  rw [List.mem_singleton.mp q] at this
  exact Nat.lt_irrefl _ this
theorem sumT_raw {its : List Value} {ns : List Int} {Q : Value → Shared → Prop} (hh : A.handled = none) (hl : s.heap.IsTuple l its.toArray) (hi : IntsAre its ns)
    (h : ∀ h' tk t', (∀ b o, s.heap.get? b = some o → h'.get? b = some o) → Q (.int ns.sum t') { s with heap := h', toks := tk }) : wpAny (model prog w) A (call (.builtin "sum") [.ref l]) Q E s := by
  obtain ⟨xs, e⟩ := hi.allInts.items
  have hn : numsOf (intItems xs).toList = ns := by rw [← e]; exact hi.numsOf
  rw [nums_intItems] at hn
  rw [e] at hl
  refine call_sum_walkG (tup_iter hl fun z e st hfp hlI => ?_)
  subst e
  refine ⟨_, _, _, _, _, _, numAt xs, rfl, Walks.tuple (A := A.in1) hh _ l hlI (intItems xs), st, hfp, (fun _ _ => intItems_at), fun h' tk t' hk => ?_⟩
  have := h h' tk t' (tup_kept hk)
  rw [show (intItems xs).size = xs.size by simp [intItems], preSum_eq, List.take_of_length_le (by simp), hn]
  exact this
theorem maxT_raw {its : List Value} {ns : List Int} {Q : Value → Shared → Prop} (hh : A.handled = none) (hl : s.heap.IsTuple l its.toArray) (hi : IntsAre its ns) (hne : 0 < ns.length)
    (h : ∀ h' tk m t', (∀ b o, s.heap.get? b = some o → h'.get? b = some o) → m ∈ ns → (∀ a, a ∈ ns → a ≤ m) → Q (.int m t') { s with heap := h', toks := tk }) : wpAny (model prog w) A (call (.builtin "max") [.ref l]) Q E s := by
  obtain ⟨xs, e⟩ := hi.allInts.items
  have hn : numsOf (intItems xs).toList = ns := by rw [← e]; exact hi.numsOf
  rw [nums_intItems] at hn
  subst hn
  rw [e] at hl
  have hsz : 0 < xs.size := by simpa using hne
  have es : (intItems xs).size = xs.size := by simp [intItems]
  refine call_max_walk (tup_iter hl fun z e st hfp hlI => ?_)
  subst e
  refine ⟨_, _, _, _, _, _, _, rfl, Walks.tuple (A := A.in1) hh _ l hlI (intItems xs), st, hfp, by rw [es]; exact hsz, CmpOf.ints_gt (numAt xs) (fun _ _ => intItems_at), fun v h' tk hP hk => ?_⟩
  rw [es] at hP
  obtain ⟨t, rfl⟩ := intItems_at hP
  obtain ⟨h1, h2⟩ := argBest_gt (numAt xs) (xs.size - 1)
  refine h h' tk _ t (tup_kept hk) ?_ fun a ha => ?_
  · rw [numAt_eq]; exact PySem.getD_mem (by rw [List.length_map, Array.length_toList]; omega)
  · obtain ⟨j, hj, rfl⟩ := mem_getD ha
    rw [List.length_map, Array.length_toList] at hj
    rw [← numAt_eq]; exact h2 j (by omega)
theorem minT_raw {its : List Value} {ns : List Int} {Q : Value → Shared → Prop} (hh : A.handled = none) (hl : s.heap.IsTuple l its.toArray) (hi : IntsAre its ns) (hne : 0 < ns.length)
    (h : ∀ h' tk m t', (∀ b o, s.heap.get? b = some o → h'.get? b = some o) → m ∈ ns → (∀ a, a ∈ ns → m ≤ a) → Q (.int m t') { s with heap := h', toks := tk }) : wpAny (model prog w) A (call (.builtin "min") [.ref l]) Q E s := by
  obtain ⟨xs, e⟩ := hi.allInts.items
  have hn : numsOf (intItems xs).toList = ns := by rw [← e]; exact hi.numsOf
  rw [nums_intItems] at hn
  subst hn
  rw [e] at hl
  have hsz : 0 < xs.size := by simpa using hne
  have es : (intItems xs).size = xs.size := by simp [intItems]
  refine call_min_walk (tup_iter hl fun z e st hfp hlI => ?_)
  subst e
  refine ⟨_, _, _, _, _, _, _, rfl, Walks.tuple (A := A.in1) hh _ l hlI (intItems xs), st, hfp, by rw [es]; exact hsz, CmpOf.ints_lt (numAt xs) (fun _ _ => intItems_at), fun v h' tk hP hk => ?_⟩
  rw [es] at hP
  obtain ⟨t, rfl⟩ := intItems_at hP
  obtain ⟨h1, h2⟩ := argBest_lt (numAt xs) (xs.size - 1)
  refine h h' tk _ t (tup_kept hk) ?_ fun a ha => ?_
  · rw [numAt_eq]; exact PySem.getD_mem (by rw [List.length_map, Array.length_toList]; omega)
  · obtain ⟨j, hj, rfl⟩ := mem_getD ha
    rw [List.length_map, Array.length_toList] at hj
    rw [← numAt_eq]; exact h2 j (by omega)
end
section
variable {X : Cx}
def rSumT (K : PySem.W.Frag) : List V → Hp → VK → Prop := fun vs H Q => ∃ (a : Addr) (ns : List Int), vs = [V.ref a] ∧ SqT K H a (ns.map V.int) ∧ Q (.int ns.sum) H
def rMaxU (K : PySem.W.Frag) : List V → Hp → VK → Prop := fun vs H Q => ∃ (a : Addr) (ns : List Int), vs = [V.ref a] ∧ SqT K H a (ns.map V.int) ∧ 0 < ns.length ∧ ∀ m, m ∈ ns → (∀ y, y ∈ ns → y ≤ m) → Q (.int m) H
def rMinU (K : PySem.W.Frag) : List V → Hp → VK → Prop := fun vs H Q => ∃ (a : Addr) (ns : List Int), vs = [V.ref a] ∧ SqT K H a (ns.map V.int) ∧ 0 < ns.length ∧ ∀ m, m ∈ ns → (∀ y, y ∈ ns → m ≤ y) → Q (.int m) H
theorem tupIs {h : Heap} {a : Addr} {its : List Value} (t : IsTup h a its.toArray) : h.IsTuple a its.toArray := t
theorem cr_sumT (hc : X.calm = true) : CallR X (.builtin "sum") (rSumT X.K) := by
  intro pins s σ H vs us Q I r h
  obtain ⟨a, ns, rfl, hs, q⟩ := h
  obtain ⟨its, rv, hl, _⟩ := I.tuple hs
  rw [Vals.ref1 r]
  exact sumT_raw (I.ok.hd hc) (tupIs hl) rv.ints fun h' tk t' hk => ⟨.int _, H, I.kept hk, ⟨_, rfl⟩, q⟩
theorem cr_maxU (hc : X.calm = true) : CallR X (.builtin "max") (rMaxU X.K) := by
  intro pins s σ H vs us Q I r h
  obtain ⟨a, ns, rfl, hs, hne, q⟩ := h
  obtain ⟨its, rv, hl, _⟩ := I.tuple hs
  rw [Vals.ref1 r]
  exact maxT_raw (I.ok.hd hc) (tupIs hl) rv.ints hne fun h' tk m t' hk h1 h2 => ⟨.int _, H, I.kept hk, ⟨_, rfl⟩, q m h1 h2⟩
theorem cr_minU (hc : X.calm = true) : CallR X (.builtin "min") (rMinU X.K) := by
  intro pins s σ H vs us Q I r h
  obtain ⟨a, ns, rfl, hs, hne, q⟩ := h
  obtain ⟨its, rv, hl, _⟩ := I.tuple hs
  rw [Vals.ref1 r]
  exact minT_raw (I.ok.hd hc) (tupIs hl) rv.ints hne fun h' tk m t' hk h1 h2 => ⟨.int _, H, I.kept hk, ⟨_, rfl⟩, q m h1 h2⟩
end
section
variable {prog : Program} {w : World} {A : Around} {E : Value → Shared → Prop} {s : Shared} {l : Addr}
theorem collect_tup {vs : List Value} {Q : List Value → Shared → Prop} (hl : s.heap.IsTuple l vs.toArray) (hz : vs.length ≤ sizeLine)
    (h : Q vs { s with heap := (s.heap.push (seqObj "list" #[] 0)).update s.heap.objs.size (Obj.mapSeq (· ++ vs.toArray)) }) :
    wpAny (model prog w) A (collect (.ref l)) Q E s := by
  obtain ⟨o, ho, hc, n, hd⟩ := id hl
  unfold collect
  refine wpAny_bind (wpAny_runValue (codeAny_builtin entry_proto_collect' ?_))
  show wpAny _ _ (do again (.builtin "list.__iadd__" ⟨[← newList [], .ref l], []⟩)) _ _ s
  refine wpAny_bind (wpAny_newList (wpAny_pure ⟨Code.quiet_builtin _ (by decide +kernel), codeAny_builtin entry_list_iadd' ?_⟩))
  show wpAny _ _ (Builtin.List.listExtendWith (.ref s.heap.objs.size) (.ref l) (.ref s.heap.objs.size)) _ _ { s with heap := s.heap.push (seqObj "list" #[] 0) }
  unfold Builtin.List.listExtendWith
  have ho' : (s.heap.push (seqObj "list" #[] 0)).get? l = some o := Heap.get?_push_of_some _ ho
  refine wpAny_bind (wpAny_typeOf (T := "tuple") ⟨o, ho', hc⟩ ?_)
  have ht : (Value.type "tuple" == Value.type "tuple") = true := by rfl
  rw [if_pos (by rw [ht]; simp)]
  refine wpAny_bind (listItems_at ho' hd ?_)
  refine wpAny_bind (listItems_at (xs := #[]) (n := 0) (Heap.get?_push_size _ rfl) rfl ?_)
  rw [if_neg (by simp)]
  refine wpAny_bind (listUpdate_at (xs := #[]) (n := 0) (Heap.get?_push_size _ rfl) rfl ?_ (Nat.zero_le _) (by show (#[] ++ vs.toArray).size ≤ sizeLine + 1; simp only [Array.size_append, List.size_toArray, List.length_nil]; omega))
  refine wpAny_pure ?_
  show wpAny (model prog w) A (load s.heap.objs.size >>= _) Q E { s with heap := (s.heap.push (seqObj "list" #[] 0)).update s.heap.objs.size (Obj.mapSeq (· ++ vs.toArray)) }
  refine wpAny_bind (wpAny_load (get?_update_seq (Heap.get?_push_size _ rfl) _) ?_)
  show wpAny _ _ (pure ((#[] : Array Value) ++ vs.toArray).toList) Q E _
  rw [show ((#[] : Array Value) ++ vs.toArray).toList = vs by simp]
  exact wpAny_pure h
theorem sortedT_ints {vs : List Value} {ns : List Int} {Q : Value → Shared → Prop} (hl : s.heap.IsTuple l vs.toArray) (hz : vs.length ≤ sizeLine) (hi : IntsAre vs ns)
    (h : ∀ (out : List Value) (ns' : List Int), IntsAre out ns' → ns'.Perm ns → ns'.Pairwise (· ≤ ·) → Q (.ref (s.heap.objs.size + 1)) { s with heap := sortedAll s.heap vs out.toArray }) :
    wpAny (model prog w) A (call (.builtin "sorted") [.ref l]) Q E s := by
  refine Calls.call_function_entry kind_sorted plain_sorted entry_sorted (args_sorted1 _) ?_
  unfold Builtin.«sorted»
  refine wpAny_bind (m := checkCount "sorted" 1 1 _) (wpAny_pure ?_)
  refine wpAny_bind (collect_tup hl hz ?_)
  refine wpAny_bind (wpAny_newList ?_ hz)
  have sz : ((s.heap.push (seqObj "list" #[] 0)).update s.heap.objs.size (Obj.mapSeq (· ++ vs.toArray))).objs.size = s.heap.objs.size + 1 := by
    rw [Heap.size_update, size_push']
  have hoL : (((s.heap.push (seqObj "list" #[] 0)).update s.heap.objs.size (Obj.mapSeq (· ++ vs.toArray))).push (seqObj "list" vs.toArray 0)).get? (s.heap.objs.size + 1) = some (seqObj "list" vs.toArray 0) := by
    rw [← sz]; exact Heap.get?_push_size _ rfl
  show wpAny _ _ _ _ _ { s with heap := ((s.heap.push (seqObj "list" #[] 0)).update s.heap.objs.size (Obj.mapSeq (· ++ vs.toArray))).push (seqObj "list" vs.toArray 0) }
  rw [sz]
  refine wpAny_bind (wpAny_holding (wpAny_call_entry slot_list_sort ⟨_, hoL, rfl⟩ entry_list_sort (SrtO.list_sort_ord SrtO.swo_int hoL hz (fun h2 => SrtO.ints_sortable hi h2) fun out h1 h2 => ⟨_, rfl, ?_⟩) (args_list_sort _)))
  obtain ⟨k1, k2, k3⟩ := SrtO.ints_out hi h1 h2
  exact wpAny_pure ⟨_, rfl, h out _ k1 k2 k3⟩
end
def rSortedT (K : PySem.W.Frag) : List V → Hp → VK → Prop := fun vs H Q => ∃ (a : Addr) (ns : List Int), vs = [V.ref a] ∧ SqT K H a (ns.map V.int) ∧
  ∀ (ns' : List Int) (p : Addr), ns'.Perm ns → ns'.Pairwise (· ≤ ·) → H p = none → Q (.ref p) (upd H p (.lst (ns'.map V.int)))
theorem cr_sortedT {X : Cx} : CallR X (.builtin "sorted") (rSortedT X.K) := by
  intro pins s σ H vs us Q I r h
  obtain ⟨a, ns, rfl, hs, q⟩ := h
  obtain ⟨its, rv, hl, hz⟩ := I.tuple hs
  rw [Vals.ref1 r]
  refine sortedT_ints (tupIs hl) (by rw [← rv.length]; exact hz) rv.ints fun out ns' k1 k2 k3 => ?_
  obtain ⟨ep, he'⟩ := PyProof.Rows.sortedAll_at s.heap its out.toArray
  have hlen : (ns'.map V.int).length ≤ sizeLine := by
    rw [List.length_map, k2.length_eq]
    rw [List.length_map] at hz
    exact hz
  exact ⟨.ref _, upd H (s.heap.objs.size + 1) (.lst (ns'.map V.int)), I.laid (t' := s.toks) (fun _ _ => PyProof.Rows.sortedAll_old) (Nat.le_succ _) ⟨hlen, out, ep, vals_of_ints k1, he'⟩, rfl, q _ _ k2 k3 (I.hok.fresh (Nat.le_succ _))⟩
def fMax : BF
  | [.int i, .int j] => some (.val (.int (if j > i then j else i)))
  | [.list ds] => match intsOf ds with
    | some (a :: r) => some (.val (.int (listMax a r)))
    | _ => none
  | [.tuple ds] => match intsOf ds with
    | some (a :: r) => some (.val (.int (listMax a r)))
    | _ => none
  | _ => none
/-! min of a list of tuples of whole numbers: the loop, with what stands in the heap -/
section
variable {prog : Program} {w : World} {A : Around} {R : Result → Shared → Prop} {I : Addr} {fp wr : List Addr} {n : Nat} {P : Nat → Value → Prop} {St : Nat → Heap → Prop}
def LtIn (prog : Program) (w : World) (A : Around) (Fi : Heap → Prop) (P : Nat → Value → Prop) (bt : Nat → Nat → Bool) : Prop :=
  ∀ i j x y (z : Shared) (Qc : Value → Shared → Prop) (Ec : Value → Shared → Prop), Fi z.heap → P i x → P j y → Qc (.bool (bt i j)) z → wpAny (model prog w) A (richCompare .Lt x y) Qc Ec z
def Held (wr : List Addr) (S : Addr) (Fi : Heap → Prop) : Prop := ∀ h h' : Heap, Fi h → (∀ b o, b ∉ wr → b ≠ S → h.get? b = some o → h'.get? b = some o) → Fi h'
theorem minT_loop (Wk : Walks prog w A.in1 I fp wr n P St) (bt : Nat → Nat → Bool) (Fi : Heap → Prop) (lt : LtIn prog w A.in1 Fi P bt) (S : Addr) (nS : S ∉ fp) (held : Held wr S Fi) :
    ∀ (k j : Nat) (z : Shared) (best : Value) (m : Nat), n - (j + 1) = k → j + 1 ≤ n → St (j + 1) z.heap → Fi z.heap → P (argBest bt j) best →
    z.heap.get? S = some { cls := .type "list", dict := none, data := .seq #[best, best] m, slots := #[] } →
    (∀ v h' tk, P (argBest bt (n - 1)) v → (∀ b o, b ∉ wr → b ≠ S → z.heap.get? b = some o → h'.get? b = some o) → R (.ok (.ret v)) { z with heap := h', toks := tk }) →
    codeAny (model prog w) A (.builtin "min.loop" ⟨[.ref I, .none, .ref S], []⟩) R z := by
  have wS : S ∉ wr := fun q => nS (Wk.sub _ q)
  have nm : (toString "min" ++ toString ".loop" : String) = "min.loop" := by decide
  intro k
  induction k with
  | zero =>
    intro j z best m ek jn st fi pb gS fin
    have all : j + 1 = n := by omega
    refine codeAny_builtin F.entry_min_loop ?_
    rw [Around.under_plainId F.plain_min_loop _]
    show wpAny _ A.in1 (seqItems? (.ref S) >>= _) _ _ z
    refine wpAny_bind (wpAny_seqItems gS rfl ?_)
    show wpAny _ A.in1 (tryCatch (pyNext (.ref I)) _ >>= _) _ _ z
    refine wpAny_bind (wpAny_tryCatch (Wk.done z _ _ (all ▸ st) fun h' tk kp => ?_))
    have gS' := kp S _ wS gS
    show wpAny _ A.in1 (updateSeq S (fun _ => #[]) >>= _) _ _ _
    refine wpAny_bind ?_
    refine wpAny_updateSeq gS' rfl (wpAny_bind (wpAny_letGo (wpAny_pure ?_)))
    exact fin best _ tk (by rw [← all]; exact pb) fun b o bw bS e => (Heap.get?_update_other _ _ (Ne.symm bS)).trans (kp b o bw e)
  | succ k ih =>
    intro j z best m ek jn st fi pb gS fin
    have jl : j + 1 < n := by omega
    refine codeAny_builtin F.entry_min_loop ?_
    rw [Around.under_plainId F.plain_min_loop _]
    show wpAny _ A.in1 (seqItems? (.ref S) >>= _) _ _ z
    refine wpAny_bind (wpAny_seqItems gS rfl ?_)
    show wpAny _ A.in1 (tryCatch (pyNext (.ref I)) _ >>= _) _ _ z
    refine wpAny_bind (wpAny_tryCatch (Wk.item (j + 1) z _ _ jl st fun v h' tk pv st' kp => ?_))
    have gS' := kp S _ wS gS
    have fi' : Fi h' := held _ _ fi fun b o bw _ e => kp b o bw e
    show wpAny _ A.in1 (tryCatch (holding [v, v] (richCompare .Lt v best >>= _)) _ >>= _) _ _ _
    refine wpAny_bind (wpAny_tryCatch (wpAny_holding (wpAny_bind (lt (j + 1) (argBest bt j) v best _ _ _ fi' pv pb ?_))))
    refine wpAny_bind (wpAny_holding (wpAny_truthy_bool ?_))
    refine wpAny_bind (wpAny_letGo (wpAny_pure ?_))
    cases hb : bt (j + 1) (argBest bt j) with
    | true =>
      simp only [if_true]
      refine wpAny_bind ?_
      refine wpAny_updateSeq gS' rfl (wpAny_bind (wpAny_letGo ?_))
      rw [nm]
      have same : ∀ (f : Obj → Obj) b o, b ≠ S → h'.get? b = some o → (h'.update S f).get? b = some o := fun f b o bS e => (Heap.get?_update_other _ _ (Ne.symm bS)).trans e
      refine wpAny_pure ⟨plainId_quiet F.plain_min_loop _, ih (j + 1) _ v _ (by omega) jl (Wk.frame _ _ _ st' fun b bf o e => same _ b o (fun q => nS (by rw [← q]; exact bf)) e) (held _ _ fi' fun b o _ bS e => same _ b o bS e) (by simp only [argBest, hb, if_true]; exact pv) (Heap.get?_update_self _ gS' rfl)
        fun v' h2 tk2 pv' kp2 => ?_⟩
      exact fin v' h2 tk2 pv' fun b o bw bS e => kp2 b o bw bS (same _ b o bS (kp b o bw e))
    | false =>
      simp only [Bool.false_eq_true, if_false]
      refine wpAny_bind (wpAny_letGo ?_)
      rw [nm]
      refine wpAny_pure ⟨plainId_quiet F.plain_min_loop _, ih (j + 1) _ best m (by omega) jl st' fi' (by simp only [argBest, hb, Bool.false_eq_true, if_false]; exact pb) gS' fun v' h2 tk2 pv' kp2 => ?_⟩
      exact fin v' h2 tk2 pv' fun b o bw bS e => kp2 b o bw bS (kp b o bw e)
theorem minT_first (Wk : Walks prog w A.in1 I fp wr n P St) (bt : Nat → Nat → Bool) (Fi : Heap → Prop) (lt : LtIn prog w A.in1 Fi P bt) (S : Addr) (nS : S ∉ fp) (held : Held wr S Fi) (n0 : 0 < n) {z : Shared} {m : Nat} (st : St 0 z.heap) (fi : Fi z.heap)
    (gS : z.heap.get? S = some { cls := .type "list", dict := none, data := .seq #[] m, slots := #[] })
    (fin : ∀ v h' tk, P (argBest bt (n - 1)) v → (∀ b o, b ∉ wr → b ≠ S → z.heap.get? b = some o → h'.get? b = some o) → R (.ok (.ret v)) { z with heap := h', toks := tk }) :
    codeAny (model prog w) A (.builtin "min.loop" ⟨[.ref I, .none, .ref S], []⟩) R z := by
  have wS : S ∉ wr := fun q => nS (Wk.sub _ q)
  have nm : (toString "min" ++ toString ".loop" : String) = "min.loop" := by decide
  refine codeAny_builtin F.entry_min_loop ?_
  rw [Around.under_plainId F.plain_min_loop _]
  show wpAny _ A.in1 (seqItems? (.ref S) >>= _) _ _ z
  refine wpAny_bind (wpAny_seqItems gS rfl ?_)
  show wpAny _ A.in1 (tryCatch (pyNext (.ref I)) _ >>= _) _ _ z
  refine wpAny_bind (wpAny_tryCatch (Wk.item 0 z _ _ n0 st fun v h' tk pv st' kp => ?_))
  have gS' := kp S _ wS gS
  have fi' : Fi h' := held _ _ fi fun b o bw _ e => kp b o bw e
  show wpAny _ A.in1 (updateSeq S (fun _ => #[v, v]) >>= _) _ _ _
  refine wpAny_bind ?_
  refine wpAny_updateSeq gS' rfl ?_
  rw [nm]
  have same : ∀ (f : Obj → Obj) b o, b ≠ S → h'.get? b = some o → (h'.update S f).get? b = some o := fun f b o bS e => (Heap.get?_update_other _ _ (Ne.symm bS)).trans e
  refine wpAny_pure ⟨plainId_quiet F.plain_min_loop _, minT_loop Wk bt Fi lt S nS held _ 0 _ v _ rfl n0 (Wk.frame _ _ _ st' fun b bf o e => same _ b o (fun q => nS (by rw [← q]; exact bf)) e) (held _ _ fi' fun b o _ bS e => same _ b o bS e) pv (Heap.get?_update_self _ gS' rfl) fun v' h2 tk2 pv' kp2 => ?_⟩
  exact fin v' h2 tk2 pv' fun b o bw bS e => kp2 b o bw bS (same _ b o bS (kp b o bw e))
end
section
variable {prog : Program} {w : World} {A : Around} {E : Value → Shared → Prop} {s : Shared}
/-- min(xs): the comparison may look at whatever stood in the heap before -/
theorem minT_call {l : Addr} {its : Array Value} {bt : Nat → Nat → Bool} {Q : Value → Shared → Prop} (hh : A.handled = none) (hl : s.heap.IsList l its) (n0 : 0 < its.size)
    (lt : LtIn prog w A.in1 (fun h => ∀ b o, s.heap.get? b = some o → h.get? b = some o) (fun i v => its[i]? = some v) bt)
    (fin : ∀ v h' tk, its[argBest bt (its.size - 1)]? = some v → (∀ b o, s.heap.get? b = some o → h'.get? b = some o) → Q v { s with heap := h', toks := tk }) :
    wpAny (model prog w) A (call (.builtin "min") [.ref l]) Q E s := by
  have nm : (toString "min" ++ toString ".loop" : String) = "min.loop" := by decide
  have ll : l < s.heap.objs.size := by obtain ⟨_, e, _⟩ := hl; exact Heap.lt_size e
  refine call_function_tree F.kind_min F.plain_min F.entry_min (F.args_min1 _) ?_
  show wpAny _ A.in1 (Builtin.Builtins.bindParams "min" ["key", "default"] 0 ⟨[], []⟩ >>= _) _ _ s
  refine wpAny_bind (wpAny_of_eq (show Builtin.Builtins.bindParams "min" ["key", "default"] 0 ⟨[], []⟩ = pure [none, none] from rfl) ?_)
  refine wpAny_bind (wpAny_pure ?_)
  refine wpAny_bind (wpAny_pyIter_list hl ?_)
  refine wpAny_bind (wpAny_newObj_type ?_)
  rw [nm]
  have Wk := Walks.list (prog := prog) (w := w) (A := A.in1) hh s.heap.objs.size l (Nat.ne_of_lt ll) its
  have nS : s.heap.objs.size + 1 ∉ [s.heap.objs.size, l] := by
    intro q
    rcases List.mem_cons.mp q with q | q
    · exact absurd q (Nat.succ_ne_self _)
    · have q2 : s.heap.objs.size + 1 = l := List.mem_singleton.mp q
      rw [← q2] at ll
      exact absurd ll (Nat.not_lt.mpr (Nat.le_succ _))
  have sz : (s.heap.push { cls := .type "list_iterator", data := .fields #[.ref l, .int 0 0] }).objs.size = s.heap.objs.size + 1 := Heap.size_push ..
  rw [sz]
  show wpAny _ A.in1 (again (.builtin "min.loop" ⟨[.ref s.heap.objs.size, .none, .ref (s.heap.objs.size + 1)], []⟩)) _ _ _
  refine wpAny_pure ⟨plainId_quiet F.plain_min_loop _, minT_first (m := 0) Wk bt (fun h => ∀ b o, s.heap.get? b = some o → h.get? b = some o) lt (s.heap.objs.size + 1) nS ?_ n0 ?_ ?_ ?_ ?_⟩
  · intro h h' fi kp b o e
    have := Heap.lt_size e
    exact kp b o (fun q => Nat.lt_irrefl _ (List.mem_singleton.mp q ▸ this)) (fun q => Nat.lt_irrefl _ (Nat.lt_trans (Nat.lt_succ_self _) (q ▸ this))) (fi b o e)
  · exact ⟨⟨_, Heap.get?_push_of_some _ (Heap.get?_push_size _ rfl), rfl, rfl⟩, (hl.push _).push _⟩
  · exact fun b o e => Heap.get?_push_of_some _ (Heap.get?_push_of_some _ e)
  · rw [← sz]; exact Heap.get?_push_size _ rfl
  · intro v h' tk pv kp
    refine fin v h' tk pv fun b o e => ?_
    have := Heap.lt_size e
    exact kp b o (fun q => Nat.lt_irrefl _ (List.mem_singleton.mp q ▸ this)) (fun q => Nat.lt_irrefl _ (Nat.lt_trans (Nat.lt_succ_self _) (q ▸ this))) (Heap.get?_push_of_some _ (Heap.get?_push_of_some _ e))
end
/-! min of a list of tuples of whole numbers, as the evaluator says it -/
def tupOf : D → Option (List Int)
  | .tuple ds => intsOf ds
  | _ => none
def tupsOf : List D → Option (List (List Int))
  | [] => some []
  | d :: ds => match tupOf d, tupsOf ds with
    | some n, some r => some (n :: r)
    | _, _ => none
def lexMin (t : List Int) (ts : List (List Int)) : List Int := ts.foldl (fun a y => if HT.lexLt y a then y else a) t
theorem best_fold (t : List Int) (ts : List (List Int)) : ∀ k, k ≤ ts.length →
    argBest (fun i j => HT.lexLt ((t :: ts).getD i []) ((t :: ts).getD j [])) k ≤ k ∧ (t :: ts)[argBest (fun i j => HT.lexLt ((t :: ts).getD i []) ((t :: ts).getD j [])) k]? = some (lexMin t (ts.take k)) := by
  intro k
  induction k with
  | zero => intro _; exact ⟨Nat.le_refl _, rfl⟩
  | succ k ih =>
    intro hk
    obtain ⟨i1, i2⟩ := ih (Nat.le_of_succ_le hk)
    have hx : ts[k]? = some ts[k] := List.getElem?_eq_getElem hk
    have e0 : (t :: ts)[k + 1]? = some ts[k] := by rw [List.getElem?_cons_succ]; exact hx
    have e1 : (t :: ts).getD (k + 1) [] = ts[k] := by rw [List.getD_eq_getElem?_getD, e0]; rfl
    have e2 : lexMin t (ts.take (k + 1)) = if HT.lexLt ts[k] (lexMin t (ts.take k)) then ts[k] else lexMin t (ts.take k) := by
      rw [List.take_add_one, hx]
      unfold lexMin
      rw [Option.toList_some, List.foldl_append, List.foldl_cons, List.foldl_nil]
    have e3 : (t :: ts).getD (argBest (fun i j => HT.lexLt ((t :: ts).getD i []) ((t :: ts).getD j [])) k) [] = lexMin t (ts.take k) := by rw [List.getD_eq_getElem?_getD, i2]; rfl
    have st : argBest (fun i j => HT.lexLt ((t :: ts).getD i []) ((t :: ts).getD j [])) (k + 1) = if HT.lexLt ts[k] (lexMin t (ts.take k)) then k + 1 else argBest (fun i j => HT.lexLt ((t :: ts).getD i []) ((t :: ts).getD j [])) k := by
      rw [← e1, ← e3]; rfl
    rw [st, e2]
    by_cases hb : HT.lexLt ts[k] (lexMin t (ts.take k)) = true
    · rw [if_pos hb, if_pos hb]
      exact ⟨Nat.le_refl _, e0⟩
    · rw [if_neg hb, if_neg hb]
      exact ⟨Nat.le_succ_of_le i1, i2⟩
def TupsAt (K : PySem.W.Frag) (H : Hp) (xs : List V) (nss : List (List Int)) : Prop :=
  xs.length = nss.length ∧ ∀ (i : Nat) (ns : List Int), nss[i]? = some ns → ∃ b : Addr, xs[i]? = some (V.ref b) ∧ SqT K H b (ns.map V.int)
def rMinT (K : PySem.W.Frag) : List V → Hp → VK → Prop := fun vs H Q => ∃ (a : Addr) (xs : List V) (t : List Int) (ts : List (List Int)), vs = [V.ref a] ∧ SqL K H a xs ∧ TupsAt K H xs (t :: ts) ∧
  ∀ (i : Nat) (v : V), xs[i]? = some v → (t :: ts)[i]? = some (lexMin t ts) → Q v H
theorem cr_minT {X : Cx} (hc : X.calm = true) (hu : X.A.units + 1 < cLine) : CallR X (.builtin "min") (rMinT X.K) := by
  intro pins s σ H vs us Q I r h
  obtain ⟨a, xs, t, ts, rfl, hs, ⟨hlen, het⟩, q⟩ := h
  obtain ⟨its, rv, hl, _⟩ := I.list hs
  rw [Vals.ref1 r]
  have il : its.length = ts.length + 1 := by rw [← rv.length, hlen]; rfl
  have at' : ∀ {i : Nat} {u : Value}, its.toArray[i]? = some u → ∃ v ns, xs[i]? = some v ∧ RelV v u ∧ (t :: ts)[i]? = some ns := by
    intro i u e
    rw [List.getElem?_toArray] at e
    have hi : i < its.length := (List.getElem?_eq_some_iff.mp e).1
    have hi2 : i < xs.length := by rw [rv.length]; exact hi
    have hi3 : i < (t :: ts).length := by rw [← hlen]; exact hi2
    obtain ⟨u', e', rr⟩ := rv.get (List.getElem?_eq_getElem hi2)
    rw [e] at e'
    cases e'
    exact ⟨_, _, List.getElem?_eq_getElem hi2, rr, List.getElem?_eq_getElem hi3⟩
  refine minT_call (bt := fun i j => HT.lexLt ((t :: ts).getD i []) ((t :: ts).getD j [])) (I.ok.hd hc) hl.isList (by rw [List.size_toArray, il]; exact Nat.succ_pos _) ?_ ?_
  · intro i j x y z Qc Ec fi px py qq
    obtain ⟨v1, n1, e1, r1, m1⟩ := at' px
    obtain ⟨v2, n2, e2, r2, m2⟩ := at' py
    obtain ⟨b1, f1, s1⟩ := het i n1 m1
    obtain ⟨b2, f2, s2⟩ := het j n2 m2
    rw [e1] at f1; cases f1
    rw [e2] at f2; cases f2
    cases r1; cases r2
    obtain ⟨k1, rr1, p1, _⟩ := I.tuple s1
    obtain ⟨k2, rr2, p2, _⟩ := I.tuple s2
    have g1 : (t :: ts).getD i [] = n1 := by rw [List.getD_eq_getElem?_getD, m1]; rfl
    have g2 : (t :: ts).getD j [] = n2 := by rw [List.getD_eq_getElem?_getD, m2]; rfl
    have qq' : Qc (.bool (HT.lexLt ((t :: ts).getD i []) ((t :: ts).getD j []))) z := qq
    rw [g1, g2] at qq'
    have c1 : IntsAre k1.toArray.toList n1 := intsAre_of rr1
    have c2 : IntsAre k2.toArray.toList n2 := intsAre_of rr2
    show wpAny _ _ (compareOp .Lt _ _) _ _ _
    exact HT.lt_tupInts (p1.keeps fi) (p2.keeps fi) c1 c2 hu qq'
  · intro v h' tk px kp
    obtain ⟨v1, n1, e1, r1, m1⟩ := at' px
    obtain ⟨i1, i2⟩ := best_fold t ts ts.length (Nat.le_refl _)
    have sz : its.toArray.size - 1 = ts.length := by rw [List.size_toArray, il]; rfl
    rw [sz] at e1
    rw [List.take_length] at i2
    exact ⟨v1, H, I.kept kp, r1, q _ v1 e1 i2⟩
def fMin : BF
  | [.int i, .int j] => some (.val (.int (if j < i then j else i)))
  | [.list ds] => match intsOf ds with
    | some (a :: r) => some (.val (.int (listMin a r)))
    | _ => match tupsOf ds with
      | some (t :: ts) => some (.val (.tuple ((lexMin t ts).map PyData.int)))
      | _ => none
  | [.tuple ds] => match intsOf ds with
    | some (a :: r) => some (.val (.int (listMin a r)))
    | _ => none
  | _ => none
theorem tupsOf_map : ∀ {ds : List D} {nss : List (List Int)}, tupsOf ds = some nss → ds = nss.map fun ns => PyData.tuple (ns.map PyData.int)
  | [], _, h => by cases h; rfl
  | d :: ds, _, h => by
    unfold tupsOf at h
    split at h
    · rename_i n r e1 e2
      cases h
      rw [tupsOf_map e2]
      unfold tupOf at e1
      split at e1
      · rw [intsOf_map e1]; rfl
      · cases e1
    · cases h
theorem tups_at {K : PySem.W.Frag} {F : Addr → Prop} {H : Hp} : ∀ {nss : List (List Int)} {vs : List V}, RepL K F H vs (nss.map fun ns => PyData.tuple (ns.map PyData.int)) → TupsAt K H vs nss
  | [], _, .nil => ⟨rfl, fun i ns e => by simp at e⟩
  | n :: nss, _, .cons (v := v) a b => by
    obtain ⟨l, g⟩ := tups_at b
    refine ⟨by rw [List.length_cons, List.length_cons, l], fun i ns e => ?_⟩
    cases i with
    | zero =>
      rw [List.getElem?_cons_zero] at e
      cases e
      cases a with
      | tup h1 h2 =>
        have e := repl_ints h2
        subst e
        exact ⟨_, rfl, h1⟩
    | succ i =>
      rw [List.getElem?_cons_succ] at e
      obtain ⟨b', e', s'⟩ := g i ns e
      exact ⟨b', by rw [List.getElem?_cons_succ]; exact e', s'⟩
theorem lexMin_mem (t : List Int) (ts : List (List Int)) : lexMin t ts ∈ t :: ts := by
  obtain ⟨_, i2⟩ := best_fold t ts ts.length (Nat.le_refl _)
  rw [List.take_length] at i2
  exact List.mem_of_getElem? i2
theorem b_max {K : PySem.W.Frag} : BOk K (fun xs H Q => ((∃ i j, xs = [.int i, .int j] ∧ Q (.int (if j > i then j else i)) H) ∨ rMax K xs H Q) ∨ rMaxU K xs H Q) fMax := fun F H vs ds sv Q ag h q => by
  unfold fMax at h
  split at h
  · obtain ⟨v, v', rfl, h1, h2⟩ := argl2 ag
    cases arg_int h1; cases arg_int h2; cases h
    exact .inl (.inl ⟨_, _, rfl, q _ _ (Same.refl _) (.int _)⟩)
  · obtain ⟨v, rfl, h1⟩ := argl1 ag
    obtain ⟨p, xs, rfl, s, r⟩ := arg_lst h1
    split at h
    · rename_i a rr hi
      cases h
      rw [intsOf_map hi] at r
      have e := repl_ints r
      subst e
      obtain ⟨m1, m2⟩ := listMax_mem a rr
      refine .inl (.inr ⟨p, a :: rr, rfl, .inl s, by simp, fun m hm hle => ?_⟩)
      have : m = listMax a rr := Int.le_antisymm (m2 m hm) (hle _ m1)
      subst this
      exact q _ _ (Same.refl _) (.int _)
    · cases h
  · obtain ⟨v, rfl, h1⟩ := argl1 ag
    obtain ⟨p, xs, rfl, s, r⟩ := arg_tup h1
    split at h
    · rename_i a rr hi
      cases h
      rw [intsOf_map hi] at r
      have e := repl_ints r
      subst e
      obtain ⟨m1, m2⟩ := listMax_mem a rr
      refine .inr ⟨p, a :: rr, rfl, s, by simp, fun m hm hle => ?_⟩
      have : m = listMax a rr := Int.le_antisymm (m2 m hm) (hle _ m1)
      subst this
      exact q _ _ (Same.refl _) (.int _)
    · cases h
  · cases h
theorem b_min {K : PySem.W.Frag} : BOk K (fun xs H Q => (((∃ i j, xs = [.int i, .int j] ∧ Q (.int (if j < i then j else i)) H) ∨ rMin K xs H Q) ∨ rMinT K xs H Q) ∨ rMinU K xs H Q) fMin := fun F H vs ds sv Q ag h q => by
  unfold fMin at h
  split at h
  · obtain ⟨v, v', rfl, h1, h2⟩ := argl2 ag
    cases arg_int h1; cases arg_int h2; cases h
    exact .inl (.inl (.inl ⟨_, _, rfl, q _ _ (Same.refl _) (.int _)⟩))
  · obtain ⟨v, rfl, h1⟩ := argl1 ag
    obtain ⟨p, xs, rfl, s, r⟩ := arg_lst h1
    split at h
    · rename_i a rr hi
      cases h
      rw [intsOf_map hi] at r
      have e := repl_ints r
      subst e
      obtain ⟨m1, m2⟩ := listMin_mem a rr
      refine .inl (.inl (.inr ⟨p, a :: rr, rfl, .inl s, by simp, fun m hm hle => ?_⟩))
      have : m = listMin a rr := Int.le_antisymm (hle _ m1) (m2 m hm)
      subst this
      exact q _ _ (Same.refl _) (.int _)
    · split at h
      · rename_i t ts hi
        cases h
        rw [tupsOf_map hi] at r
        refine .inl (.inr ⟨p, xs, t, ts, rfl, .inl s, tups_at r, fun i v e1 e2 => q _ _ (Same.refl _) ?_⟩)
        obtain ⟨v', e3, rp⟩ := r.get' (i := i) (d := PyData.tuple ((lexMin t ts).map PyData.int)) (by rw [List.getElem?_map, e2]; rfl)
        rw [e1] at e3
        cases e3
        exact rp
      · cases h
  · obtain ⟨v, rfl, h1⟩ := argl1 ag
    obtain ⟨p, xs, rfl, s, r⟩ := arg_tup h1
    split at h
    · rename_i a rr hi
      cases h
      rw [intsOf_map hi] at r
      have e := repl_ints r
      subst e
      obtain ⟨m1, m2⟩ := listMin_mem a rr
      refine .inr ⟨p, a :: rr, rfl, s, by simp, fun m hm hle => ?_⟩
      have : m = listMin a rr := Int.le_antisymm (hle _ m1) (m2 m hm)
      subst this
      exact q _ _ (Same.refl _) (.int _)
    · cases h
  · cases h
def fSum : BF
  | [.list ds] => match intsOf ds with
    | some is => some (.val (.int is.sum))
    | none => none
  | [.tuple ds] => match intsOf ds with
    | some is => some (.val (.int is.sum))
    | none => none
  | _ => none
theorem b_sum {K : PySem.W.Frag} : BOk K (fun xs H Q => rSum K xs H Q ∨ rSumT K xs H Q) fSum := fun F H vs ds sv Q ag h q => by
  unfold fSum at h
  split at h
  · obtain ⟨v, rfl, h1⟩ := argl1 ag
    obtain ⟨p, xs, rfl, s, r⟩ := arg_lst h1
    split at h
    · rename_i is hi
      cases h
      rw [intsOf_map hi] at r
      have e := repl_ints r
      subst e
      exact .inl ⟨p, is, rfl, .inl s, q _ _ (Same.refl _) (.int _)⟩
    · cases h
  · obtain ⟨v, rfl, h1⟩ := argl1 ag
    obtain ⟨p, xs, rfl, s, r⟩ := arg_tup h1
    split at h
    · rename_i is hi
      cases h
      rw [intsOf_map hi] at r
      have e := repl_ints r
      subst e
      exact .inr ⟨p, is, rfl, s, q _ _ (Same.refl _) (.int _)⟩
    · cases h
  · cases h
/-- sorted(xs), whole numbers -/
def sortI (is : List Int) : List Int := is.mergeSort fun a b => decide (a ≤ b)
theorem sortI_uniq {is js : List Int} (p : js.Perm is) (h : js.Pairwise (· ≤ ·)) : js = sortI is := by
  have h2 : (sortI is).Pairwise (· ≤ ·) := by
    have := List.pairwise_mergeSort (le := fun (a b : Int) => decide (a ≤ b)) (by intro a b c; simp; omega) (by intro a b; simp; omega) is
    exact this.imp (by simp)
  exact List.Perm.eq_of_pairwise (fun a b _ _ h1 h2 => by omega) h h2 (p.trans (List.mergeSort_perm is _).symm)
def fSorted : BF
  | [.list ds] => match intsOf ds with
    | some is => some (.own (.list ((sortI is).map .int)))
    | none => none
  | [.tuple ds] => match intsOf ds with
    | some is => some (.own (.list ((sortI is).map .int)))
    | none => none
  | [.dict kvs] => match intsOf (kvs.map (·.1)) with
    | some is => if is.length < 64 then some (.own (.list ((sortI is).map .int))) else none
    | none => none
  | _ => none
theorem keys_ints {K : PySem.W.Frag} {F : Addr → Prop} {H : Hp} : ∀ {xs : List (Key × V)} {ds : List (D × D)} {is : List Int}, RepK K F H xs ds → ds.map (·.1) = is.map PyData.int → xs.map (·.1) = is.map Sum.inl
  | _, _, [], .nil, _ => rfl
  | _, _, _ :: _, .nil, h => by cases h
  | _, _, [], .cons _ _, h => by cases h
  | _, _, i :: is, .cons (k := k) a r, h => by
    rw [List.map_cons, List.map_cons, List.cons.injEq] at h
    rw [List.map_cons, List.map_cons, keys_ints r h.2]
    cases k with
    | inl j => cases h.1; rfl
    | inr j => cases h.1
def rSortedDI : List V → Hp → VK → Prop := fun xs H Q => ∃ (a : Addr) (kvs : List (Key × V)) (ks : List Int), xs = [.ref a] ∧ Rd H a (.dK kvs) ∧ kvs.map (·.1) = ks.map Sum.inl ∧ ks.length < 64 ∧
    ∀ (ys : List Int) (p : Addr), ys.Perm ks → ys.Pairwise (· ≤ ·) → H p = none → Q (.ref p) (upd H p (.lst (ys.map V.int)))
theorem b_sorted {K : PySem.W.Frag} : BOk K (fun xs H Q => (rSortedI K xs H Q ∨ rSortedT K xs H Q) ∨ rSortedDI xs H Q) fSorted := fun F H vs ds sv Q ag h q => by
  unfold fSorted at h
  split at h
  · obtain ⟨v, rfl, h1⟩ := argl1 ag
    obtain ⟨p, xs, rfl, s, r⟩ := arg_lst h1
    split at h
    · rename_i is hi
      cases h
      rw [intsOf_map hi] at r
      have e := repl_ints r
      subst e
      refine .inl (.inl ⟨p, is, rfl, .inl s, fun ns' l hp hw hl => ?_⟩)
      rw [sortI_uniq hp hw]
      exact q _ _ (same_upd hl) (new_lst hl (ints_repl _))
    · cases h
  · obtain ⟨v, rfl, h1⟩ := argl1 ag
    obtain ⟨p, xs, rfl, s, r⟩ := arg_tup h1
    split at h
    · rename_i is hi
      cases h
      rw [intsOf_map hi] at r
      have e := repl_ints r
      subst e
      refine .inl (.inr ⟨p, is, rfl, s, fun ns' l hp hw hl => ?_⟩)
      rw [sortI_uniq hp hw]
      exact q _ _ (same_upd hl) (new_lst hl (ints_repl _))
    · cases h
  · obtain ⟨v, rfl, h1⟩ := argl1 ag
    obtain ⟨p, rfl, ⟨xs, s, r⟩ | ⟨xs, s, r⟩⟩ := h1
    · split at h
      · rename_i is hi
        split at h
        · rename_i hl64
          cases h
          refine .inr ⟨p, xs, is, rfl, .inl s, keys_ints r (intsOf_map hi), hl64, fun ns' l hp hw hl => ?_⟩
          rw [sortI_uniq hp hw]
          exact q _ _ (same_upd hl) (new_lst hl (ints_repl _))
        · cases h
      · cases h
    · exact r.no.elim
  · cases h
/-! e[::-1] of a list, of a tuple -/
section
variable {prog : Program} {w : World} {A : Around} {E : Value → Shared → Prop} {s : Shared}
theorem sliceApplied_rev {sl : Addr} {vs : Value} {n : Nat} {Q : Int × Int × Nat → Shared → Prop} (hs : s.heap.IsSliceOf sl .none .none vs) (ps : IsPart vs (some (-1)))
    (h : Q ((n : Int) - 1, -1, n) s) : wpAny (model prog w) A (Builtin.Slice.sliceApplied (.ref sl) (pure (n : Int))) Q E s := by
  obtain ⟨os, hos, hcs, hds⟩ := id hs
  unfold Builtin.Slice.sliceApplied Builtin.Slice.sliceFields
  refine wpAny_bind (wpAny_bind (wpAny_field hos hds (x := .none) rfl (wpAny_bind (wpAny_field hos hds (x := .none) rfl (wpAny_bind (wpAny_field hos hds (x := vs) rfl (wpAny_pure ?_)))))))
  refine wpAny_bind (HT.slicePart_ ps ?_)
  show wpAny _ _ (if ((-1 : Int) == 0) = true then _ else _) _ _ s
  rw [if_neg (by decide)]
  refine wpAny_bind (HT.slicePart_ .none (wpAny_bind (HT.slicePart_ .none (wpAny_bind (wpAny_pure ?_)))))
  show wpAny _ _ (pure ((n : Int) - 1, (-1 : Int), Builtin.Slice.slicePlaces ((n : Int) - 1) (-1) (-1))) _ _ s
  have e : Builtin.Slice.slicePlaces ((n : Int) - 1) (-1) (-1) = n := by
    unfold Builtin.Slice.slicePlaces
    rw [if_neg (by decide)]
    rw [show (- -1 : Int) = 1 by decide, Int.ediv_one]
    split <;> omega
  rw [e]
  exact wpAny_pure h
theorem pick_rev (xs : Array Value) : ((List.range xs.size).filterMap fun (k : Nat) => xs[((xs.size : Int) - 1 + (k : Int) * -1).toNat]?).toArray = xs.toList.reverse.toArray := by
  have e : ((List.range xs.size).filterMap fun (k : Nat) => xs[((xs.size : Int) - 1 + (k : Int) * -1).toNat]?) = ((List.range xs.size).map fun k => xs.size - 1 - k).filterMap (xs[·]?) := by
    rw [List.filterMap_map]
    congr 1
    funext k
    show _ = xs[xs.size - 1 - k]?
    congr 1
    omega
  rw [e, PySem.W.krv_range, List.filterMap_reverse, PySem.W.krv_all]
theorem getItem_tuple_rev {t sl : Addr} {items : Array Value} {vs : Value} {Q : Value → Shared → Prop} (ht : IsTup s.heap t items) (hs : s.heap.IsSliceOf sl .none .none vs) (ps : IsPart vs (some (-1)))
    (h : Q (.ref s.heap.objs.size) { s with heap := s.heap.push { cls := .type "tuple", data := .seq items.toList.reverse.toArray } })
    (hsz : items.size ≤ sizeLine) : wpAny (model prog w) A (getItem (.ref t) (.ref sl)) Q E s := by
  have htake : sizeOk (.seq items.toList.reverse.toArray) := by
    show items.toList.reverse.toArray.size ≤ sizeLine
    rw [List.size_toArray, List.length_reverse, Array.length_toList]
    omega
  obtain ⟨os, hos, hcs, hds⟩ := id hs
  have hTs : s.TypeIs (.ref sl) "slice" := ⟨os, hos, hcs⟩
  unfold getItem
  try with_reducible refine wpAny_holding ?_
  first | refine wpAny_bind (wpAny_pure ?_) | skip
  refine wpAny_bind (wpAny_sequenceKey ht.typeIs (by decide) ?_)
  refine wpAny_bind (wpAny_callSpecial?_slot (name := Str.ofString "__getitem__") ht.typeIs PyProof.Rows.slot_tuple_getitem
    (wpAny_call_entry PyProof.Rows.slot_tuple_getitem ht.typeIs PyProof.Rows.entry_tuple_getitem ?_ (PyProof.Rows.args_tuple_getitem _ _)))
  show wpAny _ _ (Builtin.Tuple.tupleItemsOf (.ref t) >>= _) _ _ s
  refine wpAny_bind (tupleItemsOf_ ht ?_)
  refine wpAny_bind (wpAny_typeOf hTs ?_)
  rw [if_pos (by decide)]
  refine wpAny_bind (sliceApplied_rev hs ps ?_)
  have hno : ¬ ((((items.size : Int) - 1) == 0 && (-1 : Int) == 1 && items.size == items.size) = true) := by
    intro q
    rw [Bool.and_eq_true, Bool.and_eq_true] at q
    exact absurd q.1.2 (by decide)
  show wpAny _ _ (if (((items.size : Int) - 1) == 0 && (-1 : Int) == 1 && items.size == items.size) = true then _ else _) _ _ s
  rw [if_neg hno, pick_rev]
  first
    | exact wpAny_bind (m := Builtin.Tuple.tupleExact _) (wpAny_newObj_type (wpAny_pure ⟨_, rfl, wpAny_pure h⟩) htake)
    | exact wpAny_bind (m := Builtin.Tuple.tupleExact _) (wpAny_newObj_type (wpAny_bind (wpAny_pure (wpAny_pure ⟨_, rfl, wpAny_pure h⟩))) htake)
    | exact wpAny_bind (wpAny_bind (m := Builtin.Tuple.tupleExact _) (wpAny_newObj_type (wpAny_pure (wpAny_pure ⟨_, rfl, wpAny_pure h⟩)) htake))
    | exact wpAny_bind (wpAny_bind (m := Builtin.Tuple.tupleExact _) (wpAny_newObj_type (wpAny_pure ⟨_, rfl, wpAny_pure h⟩) htake))
end
def rRevL (K : PySem.W.Frag) : V → Hp → VK → Prop := fun x H1 Q => ∃ a xs, x = .ref a ∧ ((SqL K H1 a xs ∧ ∀ p, H1 p = none → Q (.ref p) (upd H1 p (.lst xs.reverse))) ∨ (SqT K H1 a xs ∧ ∀ p, H1 p = none → Q (.ref p) (upd H1 p (.tup xs.reverse))))
theorem pe_rev {X : Cx} {e : Expr} {te : TE} {k : Nat} {p1 p2 p3 pos : Pos} (he : PE X e te) : PE X (.Subscript e (.Slice none none (some (.UnaryOp .USub (.Constant (.int 1) k p1) p2)) p3) pos) (fun σ H Q => te σ H fun x H1 => rRevL X.K x H1 Q) := by
  refine ⟨fun pins s σ H Q I h => ?_⟩
  refine Subscript_ (thn (he.run pins s σ H _ I h) fun v s1 ⟨x, H1, I1, r1, q1⟩ => ?_)
  obtain ⟨a, xs, ex, q⟩ := q1
  subst ex
  cases r1
  have hst : PO X (some (.UnaryOp .USub (.Constant (.int 1) k p1) p2)) (tPart (tUn (rU fun i => .int (-i)) (tC (.int 1)))) := po_some (pe_un un_neg pe_int)
  refine wpAny_Slice (thn (po_none.run pins s1 σ H1 (fun o H2 => o = none ∧ H2 = H1) I1 ⟨rfl, rfl⟩) fun vl s2 ⟨l, H2, I2, pl, el, e2⟩ => ?_)
  subst el e2
  refine thn (po_none.run pins s2 σ H2 (fun o H3 => o = none ∧ H3 = H2) I2 ⟨rfl, rfl⟩) fun vu s3 ⟨u, H3, I3, pu, eu, e3⟩ => ?_
  subst eu e3
  refine thn (hst.run pins s3 σ H3 (fun o H4 => o = some (-1) ∧ H4 = H3) I3 ⟨1, rfl, -1, rfl, rfl, rfl⟩) fun vs s4 ⟨o, H4, I4, ps, eo, e4⟩ => ?_
  subst eo e4
  have I5 : Inv X pins σ H4 { s4 with heap := s4.heap.push { cls := .type "slice", data := .fields #[vl, vu, vs] } } := I4.kept (t' := s4.toks) fun b ob q => Heap.get?_push_of_some _ q
  show wpAny (model X.prog X.w) X.A (subscriptTail e (.Slice none none (some (.UnaryOp .USub (.Constant (.int 1) k p1) p2)) p3) (.ref a) (.ref s4.heap.objs.size)) (EP X pins σ Q) X.xe { s4 with heap := s4.heap.push { cls := .type "slice", data := .fields #[vl, vu, vs] } }
  rcases q with ⟨hx, q⟩ | ⟨hx, q⟩
  · obtain ⟨its, r, ht, hz⟩ := I5.list hx
    have hlen := r.length
    refine tail_any (ops := [.ref a, .ref s4.heap.objs.size]) ht.isList.typeIs (PySem.slot_list_getitem.lookup) ?_ (by with_unfolding_all rfl)
    refine wpAny_getItem_list_slice ht.isList (Heap.IsSliceOf.new _ vl vu vs) pl pu ps (by decide) ?_ (by rw [List.size_toArray]; omega)
    rw [PySem.W.krv_pick]
    refine ⟨.ref _, _, I5.laid (t' := s4.toks) (o := .lst xs.reverse) (fun b ob q => Heap.get?_push_of_some _ q) (Nat.le_refl _) ?_, rfl, q _ (I5.hok.fresh (Nat.le_refl _))⟩
    exact ⟨by rw [List.length_reverse]; exact hz, _, 0, r.reverse, Heap.get?_push_size _ rfl⟩
  · obtain ⟨its, r, ht, hz⟩ := I5.tuple hx
    have hlen : its.toArray.size = xs.length := by rw [List.size_toArray]; exact r.length.symm
    refine tail_any (ops := [.ref a, .ref s4.heap.objs.size]) ht.typeIs (PyProof.Rows.slot_tuple_getitem.lookup) ?_ (by with_unfolding_all rfl)
    cases pl
    cases pu
    refine getItem_tuple_rev ht (Heap.IsSliceOf.new _ .none .none vs) ps ?_ (by rw [hlen]; exact hz)
    refine ⟨.ref _, _, I5.laid (t' := s4.toks) (o := .tup xs.reverse) (fun b ob q => Heap.get?_push_of_some _ q) (Nat.le_refl _) ?_, rfl, q _ (I5.hok.fresh (Nat.le_refl _))⟩
    exact ⟨by rw [List.length_reverse]; exact hz, _, r.reverse, IsTup.new _ _⟩
def fRev : BF
  | [.list ds] => some (.own (.list ds.reverse))
  | [.tuple ds] => some (.val (.tuple ds.reverse))
  | _ => none
theorem RepL.turned {K : PySem.W.Frag} {F : Addr → Prop} {H : Hp} : ∀ {xs : List V} {ds : List D}, RepL K F H xs ds → RepL K F H xs.reverse ds.reverse
  | _, _, .nil => .nil
  | _, _, .cons a r => by
    rw [List.reverse_cons, List.reverse_cons]
    exact r.turned.append (.cons a .nil)
theorem b_rev {K : PySem.W.Frag} : BOk K (r1 (rRevL K)) fRev := fun F H vs ds sv Q ag h q => by
  unfold fRev at h
  split at h
  · obtain ⟨v, rfl, h1⟩ := argl1 ag
    obtain ⟨p, xs, rfl, s, r⟩ := arg_lst h1
    cases h
    exact ⟨_, rfl, p, xs, rfl, .inl ⟨.inl s, fun l hl => q _ _ (same_upd hl) (new_lst hl r.turned)⟩⟩
  · obtain ⟨v, rfl, h1⟩ := argl1 ag
    obtain ⟨p, xs, rfl, s, r⟩ := arg_tup h1
    cases h
    exact ⟨_, rfl, p, xs, rfl, .inr ⟨s, fun l hl => q _ _ (same_upd hl) (new_tup hl r.turned)⟩⟩
  · cases h
/-! list(range(..)), tuple(range(..)) -/
abbrev okRg (i j : Int) : Prop := -(2 ^ 62) ≤ i ∧ i < 2 ^ 62 ∧ -(2 ^ 62) ≤ j ∧ j < 2 ^ 62 ∧ (j - i).toNat ≤ 2 ^ 24
def seqSV (tu : Bool) (ds : List D) : SV := match tu with
  | true => .val (.tuple ds)
  | false => .own (.list ds)
def mRgv1 (tu : Bool) (o : Opnd) : M SV := mBind (mO o) fun p => fun e c => match rd e c p with
  | some (.int j) => if okRg 0 j then .ok (seqSV tu (rngD 0 (j - 0).toNat)) e c else .bad
  | _ => .bad
def mRgv2 (tu : Bool) (o1 o2 : Opnd) : M SV := mBind (mO o1) fun p1 => mBind (mO o2) fun p2 => fun e c => match rd e c p1, rd e c p2 with
  | some (.int i), some (.int j) => if okRg i j then .ok (seqSV tu (rngD i (j - i).toNat)) e c else .bad
  | _, _ => .bad
theorem rg_rep {K : PySem.W.Frag} {F : Addr → Prop} {H : Hp} {a b : Int} : RepL K F H (rgV a b) (rngD a (b - a).toNat) := by
  unfold rgV rngD
  induction List.range (b - a).toNat with
  | nil => exact .nil
  | cons k r ih => exact .cons (.int _) ih
section
variable {X : Cx} {q : Par} {W : WX} {o o1 o2 : Opnd} {ea eb : Expr} {p p2 pos pos2 : Pos}
theorem rgv1_imp {Q : VK} {σ : L2.St} {H : Hp} {tu : Bool} (h : SemE q W (mRgv1 tu o) σ H Q) : tRg1 (SemO q W o) σ H fun a b H1 => RgOk a b ∧ ∀ l, H1 l = none → Q (.ref l) (upd H1 l (match tu with | true => .tup (rgV a b) | false => .lst (rgV a b))) := by
  obtain ⟨g, e, c, rel, z⟩ := h
  refine ⟨g, e, c, rel, ?_⟩
  refine At.bind z fun p e1 c1 v g1 H1 _ rel1 x1 ok z => ?_
  cases hd : rd e1 c1 p with
  | none => simp only [hd] at z; exact z.elim
  | some d =>
    simp only [hd] at z
    have ag := rd_ok rel1 ok hd
    cases d with
    | int j =>
      cases ag
      dsimp only at z
      split at z
      · rename_i hj
        refine ⟨j, rfl, hj, fun l hl => ?_⟩
        cases tu with
        | true => exact z (.ref l) g1 _ (rel1.same (same_upd hl)) (Ext.same (same_upd hl)) ((new_tup hl rg_rep).res rel1)
        | false => exact z (.ref l) g1 _ (rel1.same (same_upd hl)) (Ext.same (same_upd hl)) ((new_lst hl rg_rep).res rel1)
      · exact z.elim
    | _ => exact z.elim
theorem rgv2_imp {Q : VK} {σ : L2.St} {H : Hp} {tu : Bool} (h : SemE q W (mRgv2 tu o1 o2) σ H Q) : tRg2 (SemO q W o1) (SemO q W o2) σ H fun a b H1 => RgOk a b ∧ ∀ l, H1 l = none → Q (.ref l) (upd H1 l (match tu with | true => .tup (rgV a b) | false => .lst (rgV a b))) := by
  obtain ⟨g, e, c, rel, z⟩ := h
  refine ⟨g, e, c, rel, ?_⟩
  refine At.bind z fun p1 e1 c1 v1 g1 H1 _ rel1 x1 ok1 z => ?_
  refine ⟨g1, e1, c1, rel1, ?_⟩
  refine At.bind z fun p2 e2 c2 v2 g2 H2 _ rel2 x2 ok2 z => ?_
  cases hd : rd e2 c2 p1 with
  | none => simp only [hd] at z; exact z.elim
  | some d =>
    cases hd2 : rd e2 c2 p2 with
    | none => simp only [hd, hd2] at z; cases d <;> exact z.elim
    | some d2 =>
      simp only [hd, hd2] at z
      have ag := rd_ok rel2 (ok1.ext x2) hd
      have ag2 := rd_ok rel2 ok2 hd2
      cases d with
      | int i =>
        cases d2 with
        | int j =>
          cases ag
          cases ag2
          dsimp only at z
          split at z
          · rename_i hj
            refine ⟨i, j, rfl, rfl, hj, fun l hl => ?_⟩
            cases tu with
            | true => exact z (.ref l) g2 _ (rel2.same (same_upd hl)) (Ext.same (same_upd hl)) ((new_tup hl rg_rep).res rel2)
            | false => exact z (.ref l) g2 _ (rel2.same (same_upd hl)) (Ext.same (same_upd hl)) ((new_lst hl rg_rep).res rel2)
          · exact z.elim
        | _ => exact z.elim
      | _ => exact z.elim
theorem se_rgl1 (hc : X.calm = true) (hl : Gl X "list") (ml : X.mg "list" = none) (hr : Gl X "range") (mr : X.mg "range" = none) (ha : PE X ea (SemO q W o)) (na : starEach [ea] X.env = (false, eval ea X.env) :: starEach [] X.env) :
    PE X (.Call (.Name "list" p) [.Call (.Name "range" p2) [ea] [] pos2] [] pos) (SemE q W (mRgv1 false o)) := PE.imp (pe_listRg hc hl ml (prg_1 hr mr ha na)) fun _ _ _ h => rgv1_imp h
theorem se_rgt1 (hc : X.calm = true) (hl : Gl X "tuple") (ml : X.mg "tuple" = none) (hr : Gl X "range") (mr : X.mg "range" = none) (ha : PE X ea (SemO q W o)) (na : starEach [ea] X.env = (false, eval ea X.env) :: starEach [] X.env) :
    PE X (.Call (.Name "tuple" p) [.Call (.Name "range" p2) [ea] [] pos2] [] pos) (SemE q W (mRgv1 true o)) := PE.imp (pe_tupRg hc hl ml (prg_1 hr mr ha na)) fun _ _ _ h => rgv1_imp h
theorem se_rgl2 (hc : X.calm = true) (hl : Gl X "list") (ml : X.mg "list" = none) (hr : Gl X "range") (mr : X.mg "range" = none) (ha : PE X ea (SemO q W o1)) (hb : PE X eb (SemO q W o2)) (na : starEach [ea, eb] X.env = (false, eval ea X.env) :: starEach [eb] X.env) (nb : starEach [eb] X.env = (false, eval eb X.env) :: starEach [] X.env) (hp : (backTo pos2 (starEach [eb] X.env)).any (·.1) = false) :
    PE X (.Call (.Name "list" p) [.Call (.Name "range" p2) [ea, eb] [] pos2] [] pos) (SemE q W (mRgv2 false o1 o2)) := PE.imp (pe_listRg hc hl ml (prg_2 hr mr ha hb na nb hp)) fun _ _ _ h => rgv2_imp h
theorem se_rgt2 (hc : X.calm = true) (hl : Gl X "tuple") (ml : X.mg "tuple" = none) (hr : Gl X "range") (mr : X.mg "range" = none) (ha : PE X ea (SemO q W o1)) (hb : PE X eb (SemO q W o2)) (na : starEach [ea, eb] X.env = (false, eval ea X.env) :: starEach [eb] X.env) (nb : starEach [eb] X.env = (false, eval eb X.env) :: starEach [] X.env) (hp : (backTo pos2 (starEach [eb] X.env)).any (·.1) = false) :
    PE X (.Call (.Name "tuple" p) [.Call (.Name "range" p2) [ea, eb] [] pos2] [] pos) (SemE q W (mRgv2 true o1 o2)) := PE.imp (pe_tupRg hc hl ml (prg_2 hr mr ha hb na nb hp)) fun _ _ _ h => rgv2_imp h
end
def boolsOf : List D → Option (List Bool)
  | [] => some []
  | .bool i :: r => match boolsOf r with
    | some is => some (i :: is)
    | none => none
  | _ :: _ => none
theorem boolsOf_ok {K : PySem.W.Frag} {F : Addr → Prop} {H : Hp} : ∀ {ds : List D} {vs : List V} {is : List Bool}, RepL K F H vs ds → boolsOf ds = some is → vs = is.map V.bl
  | [], _, _, .nil, h => by cases h; rfl
  | .bool i :: r, _, _, .cons a b, h => by
    unfold boolsOf at h
    cases h1 : boolsOf r with
    | none => rw [h1] at h; cases h
    | some is => rw [h1] at h; cases h; cases a; rw [boolsOf_ok b h1]; rfl
  | .none :: r, _, _, _, h => by simp [boolsOf] at h
  | .int _ :: r, _, _, _, h => by simp [boolsOf] at h
  | .str _ :: r, _, _, _, h => by simp [boolsOf] at h
  | .list _ :: r, _, _, _, h => by simp [boolsOf] at h
  | .tuple _ :: r, _, _, _, h => by simp [boolsOf] at h
  | .dict _ :: r, _, _, _, h => by simp [boolsOf] at h
def fAll : BF
  | [.list ds] => match boolsOf ds with
    | some bs => some (.val (.bool (bs.all id)))
    | none => none
  | _ => none
def fAny : BF
  | [.list ds] => match boolsOf ds with
    | some bs => some (.val (.bool (bs.any id)))
    | none => none
  | _ => none
theorem b_all {K : PySem.W.Frag} : BOk K (rAll K) fAll := fun F H vs ds sv Q ag h q => by
  unfold fAll at h
  split at h
  · obtain ⟨v, rfl, h1⟩ := argl1 ag
    obtain ⟨p, xs, rfl, s, r⟩ := arg_lst h1
    split at h
    · rename_i is hi
      cases h
      have e := boolsOf_ok r hi
      subst e
      exact ⟨p, is, rfl, .inl s, q _ _ (Same.refl _) (.bl _)⟩
    · cases h
  · cases h
theorem b_any {K : PySem.W.Frag} : BOk K (rAny K) fAny := fun F H vs ds sv Q ag h q => by
  unfold fAny at h
  split at h
  · obtain ⟨v, rfl, h1⟩ := argl1 ag
    obtain ⟨p, xs, rfl, s, r⟩ := arg_lst h1
    split at h
    · rename_i is hi
      cases h
      have e := boolsOf_ok r hi
      subst e
      exact ⟨p, is, rfl, .inl s, q _ _ (Same.refl _) (.bl _)⟩
    · cases h
  · cases h
theorem b_str {K : PySem.W.Frag} : BOk K (fun xs H Q => (∃ a, xs = [.str a] ∧ Q (.str a) H) ∨ (∃ i, xs = [.int i] ∧ i.natAbs.log2 < 1920 ∧ Q (.str (toString i)) H)) fStr := fun F H vs ds sv Q ag h q => by
  unfold fStr at h
  split at h
  · obtain ⟨v, rfl, h1⟩ := argl1 ag
    cases arg_str h1; cases h
    exact .inl ⟨_, rfl, q _ _ (Same.refl _) (.str _)⟩
  · obtain ⟨v, rfl, h1⟩ := argl1 ag
    cases arg_int h1
    split at h
    · rename_i hl
      cases h
      exact .inr ⟨_, rfl, hl, q _ _ (Same.refl _) (.str _)⟩
    · cases h
  · cases h
/-- the table of built-ins by name; true: a type -/
def bltF0 (x : Str) : Option (BF × Bool × String) :=
  if x = "len" then some (fLen, false, "len") else if x = "abs" then some (fAbs, false, "abs") else if x = "int" then some (fInt, true, "int") else if x = "str" then some (fStr, true, "str")
  else if x = "list" then some (fList, true, "list") else if x = "tuple" then some (fTuple, true, "tuple") else if x = "max" then some (fMax, false, "max") else if x = "min" then some (fMin, false, "min")
  else if x = "sum" then some (fSum, false, "sum") else if x = "all" then some (fAll, false, "all") else if x = "any" then some (fAny, false, "any") else none
def idV (ty : Bool) (id : String) : Value := if ty = true then .type id else .builtin id
theorem blt_ok0 {X : Cx} (hc : X.calm = true) (hu : X.A.units + 1 < cLine) {x : Str} {f : BF} {ty : Bool} {id : String} (h : bltF0 x = some (f, ty, id)) :
    bootBuiltins x = some (idV ty id) ∧ x ≠ "__name__" ∧ (x == ("__debug__" : Str)) = false ∧ ∃ r, CallR X (idV ty id) r ∧ BOk X.K r f := by
  unfold bltF0 at h
  split at h
  · rename_i e; cases h; subst e; exact ⟨by decide +kernel, by decide, by decide, _, call_len, b_len⟩
  split at h
  · rename_i e; cases h; subst e; exact ⟨by decide +kernel, by decide, by decide, _, call_abs, b_abs⟩
  split at h
  · rename_i e; cases h; subst e; exact ⟨by decide +kernel, by decide, by decide, _, call_int1, b_int⟩
  split at h
  · rename_i e; cases h; subst e; exact ⟨by decide +kernel, by decide, by decide, _, CallR.or SkE.call_str_str call_str_int, b_str⟩
  split at h
  · rename_i e; cases h; subst e; exact ⟨by decide +kernel, by decide, by decide, _, call_list_of, b_list⟩
  split at h
  · rename_i e; cases h; subst e; exact ⟨by decide +kernel, by decide, by decide, _, call_tuple_of, b_tuple⟩
  split at h
  · rename_i e; cases h; subst e; exact ⟨by decide +kernel, by decide, by decide, _, CallR.or (CallR.or (call_max2 hc) (cr_max hc)) (cr_maxU hc), b_max⟩
  split at h
  · rename_i e; cases h; subst e; exact ⟨by decide +kernel, by decide, by decide, _, CallR.or (CallR.or (CallR.or (call_min2 hc) (cr_min hc)) (cr_minT hc hu)) (cr_minU hc), b_min⟩
  split at h
  · rename_i e; cases h; subst e; exact ⟨by decide +kernel, by decide, by decide, _, CallR.or (cr_sum hc) (cr_sumT hc), b_sum⟩
  split at h
  · rename_i e; cases h; subst e; exact ⟨by decide +kernel, by decide, by decide, _, cr_all hc, b_all⟩
  split at h
  · rename_i e; cases h; subst e; exact ⟨by decide +kernel, by decide, by decide, _, cr_any hc, b_any⟩
  cases h
def bltF (x : Str) : Option (BF × Bool × String) := if x = "sorted" then some (fSorted, false, "sorted") else bltF0 x
theorem blt_ok {X : Cx} (hc : X.calm = true) (hu : X.A.units + 1 < cLine) {x : Str} {f : BF} {ty : Bool} {id : String} (h : bltF x = some (f, ty, id)) :
    bootBuiltins x = some (idV ty id) ∧ x ≠ "__name__" ∧ (x == ("__debug__" : Str)) = false ∧ ∃ r, CallR X (idV ty id) r ∧ BOk X.K r f := by
  unfold bltF at h
  split at h
  · rename_i e; cases h; subst e; exact ⟨by decide +kernel, by decide, by decide, _, CallR.or (CallR.or cr_sortedI cr_sortedT) (call_sortedDI hc), b_sorted⟩
  · exact blt_ok0 hc hu h

/-! ### methods of a list of one's own -/
def mAppend : MF
  | .list ds, [d] => if ds.length < 16777216 then some (.list (ds ++ [d]), .none) else none
  | _, _ => none
def mPop : MF
  | .list ds, [] => match ds[ds.length - 1]? with
    | some d => some (.list ds.dropLast, d)
    | none => none
  | _, _ => none
theorem upd_im {F : Addr → Prop} {H : Hp} {a : Addr} {o u : HO} (hx : H a = some o) (ni : ¬ Imm o) (nf : ¬ F a) : ∀ d w, H d = some w → (Imm w ∨ F d) → upd H a u d = some w := fun d w h z => by
  rw [upd_ne]
  · exact h
  · rintro rfl
    rw [hx] at h; cases h
    exact z.elim ni nf
theorem m_append {K : PySem.W.Frag} : MOk K rAppend mAppend := fun F H a x vs ds x' d Q nf ct ra h q => by
  unfold mAppend at h
  split at h
  · rename_i es e
    obtain ⟨xs, hx, rx⟩ := ct
    cases ra with | cons r1 r2 => cases r2 with | nil =>
    split at h
    · rename_i hl
      cases h
      refine ⟨a, xs, _, rfl, rfl, hx, by rw [sizeLine_eq, rx.length]; exact hl, q _ _ ⟨_, upd_same, ?_⟩ .non⟩
      exact (rx.append (.cons r1 .nil)).ext (upd_im hx (fun z => z) nf) fun _ z => z
    · cases h
  · cases h
theorem RepL.dropLast {K : PySem.W.Frag} {F : Addr → Prop} {H : Hp} {xs : List V} {ds : List D} (r : RepL K F H xs ds) : RepL K F H xs.dropLast ds.dropLast := by
  rw [List.dropLast_eq_take, List.dropLast_eq_take, r.length]
  exact r.take _
theorem m_pop {K : PySem.W.Frag} : MOk K rPop mPop := fun F H a x vs ds x' d Q nf ct ra h q => by
  unfold mPop at h
  split at h
  · rename_i es
    obtain ⟨xs, hx, rx⟩ := ct
    cases ra
    split at h
    · rename_i e he
      cases h
      obtain ⟨v, hv, rv⟩ := rx.get' he
      refine ⟨a, xs, v, rfl, rfl, hx, by rw [rx.length]; exact hv, q _ _ ⟨_, upd_same, ?_⟩ ?_⟩
      · exact rx.dropLast.ext (upd_im hx (fun z => z) nf) fun _ z => z
      · exact rv.ext (upd_im hx (fun z => z) nf) fun _ z => z
    · cases h
  · cases h
/-- x.index(i) of whole numbers -/
def mIndex : MF
  | .list ds, [.int y] => match intsOf ds with
    | some is => match is.findIdx? (fun z => decide (z = y)) with
      | some j => some (.list ds, .int j)
      | none => none
    | none => none
  | _, _ => none
theorem flat_ints (is : List Int) : (is.map V.int).all flatV = true := by
  rw [List.all_eq_true]
  intro v hv
  obtain ⟨i, _, rfl⟩ := List.mem_map.mp hv
  rfl
theorem upd_id {H : Hp} {a : Addr} {o : HO} (h : H a = some o) : upd H a o = H := by
  funext b
  by_cases hb : b = a
  · subst hb; rw [upd_same, h]
  · rw [upd_ne hb]
theorem m_index {K : PySem.W.Frag} : MOk K (rIndex K) mIndex := fun F H a x vs ds x' d Q nf ct ra h q => by
  unfold mIndex at h
  split at h
  · rename_i es y
    obtain ⟨xs, hx, rx⟩ := ct
    cases ra with | cons r1 r2 => cases r2 with | nil =>
    cases r1
    split at h
    · rename_i is hi
      split at h
      · rename_i j hj
        cases h
        have r0 := rx
        rw [intsOf_map hi] at rx
        have e := repl_ints rx
        subst e
        rw [List.findIdx?_eq_some_iff_getElem] at hj
        obtain ⟨hl, h1, h2⟩ := hj
        refine ⟨a, _, _, j, .int is[j], rfl, rfl, .inl (.inl hx), rfl, flat_ints is, by rw [List.getElem?_map, List.getElem?_eq_getElem hl]; rfl, ?_, ?_, ?_⟩
        · simpa [eqV] using h1
        · intro m z' hm hz
          have hm' := h2 m hm
          rw [List.getElem?_map, List.getElem?_eq_getElem (by omega)] at hz
          cases hz
          simpa [eqV] using hm'
        · have := q (.int (j : Nat)) (.lst (is.map V.int))
          rw [upd_id hx] at this
          exact this ⟨_, hx, r0⟩ (.int _)
      · cases h
    · cases h
  · cases h
/-- by name, and whether arguments are given -/
def methT (m : Str) (some? : Bool) : Option (MF × (D → Bool)) := if some? = true then (if m = "append" then some (mAppend, isLst) else if m = "index" then some (mIndex, isLst) else none) else (if m = "pop" then some (mPop, isLst) else none)
theorem meth_ok {X : Cx} {m : Str} {b : Bool} {f : MF} {ty : D → Bool} (h : methT m b = some (f, ty)) :
    ∃ T id r, PlainAttrs T ∧ Slot T m id ∧ typeOf (.builtin id) = pure (.type "method_descriptor") ∧ MtR X id r ∧ MOk X.K r f ∧ TyOk X.K T ty := by
  unfold methT at h
  split at h
  · split at h
    · rename_i e; cases h; subst e
      exact ⟨_, _, _, PySem.F.plainAttrs_list, PySem.F.slot_list_append, PySem.F.type_list_append, mt_append, m_append, tyOk_list⟩
    · split at h
      · rename_i e; cases h; subst e
        exact ⟨_, _, _, PySem.F.plainAttrs_list, PySem.F.slot_list_index, PySem.F.type_list_index, mt_index, m_index, tyOk_list⟩
      · cases h
  · split at h
    · rename_i e; cases h; subst e
      exact ⟨_, _, _, PySem.F.plainAttrs_list, PySem.F.slot_list_pop, PySem.F.type_list_pop, mt_pop, m_pop, tyOk_list⟩
    · cases h

/-! ### isinstance -/
def tyNm : D → String
  | .none => "NoneType"
  | .bool _ => "bool"
  | .int _ => "int"
  | .str _ => "str"
  | .list _ => "list"
  | .tuple _ => "tuple"
  | .dict _ => "dict"
/-- T one of these -/
def isiT (x : Str) : Option String := if x = "int" then some "int" else if x = "bool" then some "bool" else if x = "tuple" then some "tuple" else if x = "str" then some "str" else if x = "list" then some "list" else none
def isSub (a b : String) : Bool := a == b || (a == "bool" && b == "int")
def fIsi (T : String) : BF
  | [d] => some (.val (.bool (isSub (tyNm d) T)))
  | _ => none
theorem Arg.ty {K : PySem.W.Frag} {F : Addr → Prop} {H : Hp} {v : V} {d : D} (h : Arg K F H v d) : TyX K H v (.type (tyNm d)) := by
  cases d with
  | none => cases h; exact .base .non
  | bool b => cases h; exact .base (.bl b)
  | int i => cases h; exact .base (.int i)
  | str x => cases h; exact .base (.str x)
  | list ds =>
    obtain ⟨a, xs, rfl, s | ⟨o, s⟩, r⟩ := h
    · exact .base (.lst s)
    · exact .base (.frz s)
  | tuple ds =>
    obtain ⟨a, xs, rfl, s, r⟩ := arg_tup h
    rcases s with (s | ⟨o, s⟩) | ⟨o, its, n, h1, h2, _⟩
    · exact .base (.tup s)
    · exact .fTuple s
    · exact .kTuple h1 h2
  | dict ds =>
    obtain ⟨a, rfl, ⟨xs, s, _⟩ | ⟨xs, s, _⟩⟩ := h
    · exact .base (.dK s)
    · exact .base (.dT s)
theorem kit_tab : (["NoneType", "bool", "int", "str", "list", "tuple", "dict"].all fun n => ["int", "bool", "tuple", "str", "list"].all fun T => kitB n T == some (isSub n T)) = true := by decide +kernel
theorem kit_all (d : D) {x : Str} {T : String} (h : isiT x = some T) : kitB (tyNm d) T = some (isSub (tyNm d) T) := by
  have hT : T ∈ ["int", "bool", "tuple", "str", "list"] := by
    unfold isiT at h
    split at h
    · cases h; decide
    split at h
    · cases h; decide
    split at h
    · cases h; decide
    split at h
    · cases h; decide
    split at h
    · cases h; decide
    cases h
  have hn : tyNm d ∈ ["NoneType", "bool", "int", "str", "list", "tuple", "dict"] := by cases d <;> simp [tyNm]
  have := List.all_eq_true.mp (List.all_eq_true.mp kit_tab _ hn) _ hT
  simpa using this
theorem isiT_boot {x : Str} {T : String} (h : isiT x = some T) : bootBuiltins x = some (.type T) ∧ x ≠ "__name__" ∧ (x == ("__debug__" : Str)) = false := by
  unfold isiT at h
  split at h
  · rename_i e; cases h; subst e; exact ⟨by decide +kernel, by decide, by decide⟩
  split at h
  · rename_i e; cases h; subst e; exact ⟨by decide +kernel, by decide, by decide⟩
  split at h
  · rename_i e; cases h; subst e; exact ⟨by decide +kernel, by decide, by decide⟩
  split at h
  · rename_i e; cases h; subst e; exact ⟨by decide +kernel, by decide, by decide⟩
  split at h
  · rename_i e; cases h; subst e; exact ⟨by decide +kernel, by decide, by decide⟩
  cases h
section
variable {X : Cx} {q : Par} {W : WX} {a b ex : Expr} {o : Opnd} {p pos p2 : Pos} {x : Str} {T : String}
theorem se_isi (hK : X.K = q.K) (hg : Gl X "isinstance") (hm : X.mg "isinstance" = none) (hT : isiT x = some T) (hg2 : Gl X x) (hm2 : X.mg x = none) (ha : PE X a (SemO q W o)) (hs : starEach [a, .Name x p2] X.env = (false, eval a X.env) :: starEach [.Name x p2] X.env)
    (hpl : (backTo pos (starEach [.Name x p2] X.env)).any (·.1) = false) : PE X (.Call (.Name "isinstance" p) [a, .Name x p2] [] pos) (SemE q W (mOps (fIsi T) [o])) := by
  obtain ⟨hb, hn, hd⟩ := isiT_boot hT
  refine PE.imp (pe_callB call_isi hg hm (by decide +kernel) (pa_cons ha (pa_cons (pe_bltn hg2 hm2 hb (v := .ty T) rfl hn hd) pa_nil) hs) (by decide) (by decide) hs hpl) fun σ H Q h => ?_
  have hbk : BOk q.K (fun vs H Q => ∃ v, vs = [v] ∧ rIsi X.K [v, .ty T] H Q) (fIsi T) := fun F H vs ds sv Q ag h q => by
    unfold fIsi at h
    split at h
    · obtain ⟨v, rfl, h1⟩ := argl1 ag
      cases h
      rw [hK]
      exact ⟨v, rfl, v, .ty T, _, _, _, rfl, .ty T, h1.ty, kit_ty (kit_all _ hT), q _ _ (Same.refl _) (.bl _)⟩
    · cases h
  -- one operand
  obtain ⟨g, e, c, rel, z⟩ := h
  refine ⟨g, e, c, rel, ?_⟩
  have z : At q W σ g H (mBind (mO o) (fun p => mFin (fIsi T) [p]) e c) (fun g' H' e' b a => ResOk q g' H' σ e' b a) Q := by
    unfold mOps mOs at z
    rw [mBind_assoc] at z
    exact z
  refine At.bind (Ok1 := fun g' H' e' b a => PVOk q g' H' σ e' b a) z fun p e1 c1 v g1 H1 _ rel1 x1 ok z => ?_
  obtain ⟨w, e1, h⟩ := fin_ok (vs := [v]) hbk rel1 (.cons ok .nil) z
  cases e1
  exact h
end
end Ev

/-! A new dict; sorted(set(t)), len(set(t)) of a tuple of whole numbers. -/
namespace Ev
open PySem PySem.Spec PyProof.Rows L2

def fNewD : BF
  | [] => some (.own (.dict []))
  | _ => none
theorem b_newD {K : PySem.W.Frag} : BOk K (fun vs H Q => ∀ p, H p = none → Q (.ref p) (upd H p (.dK []))) fNewD := fun F H vs ds sv Q ag h q => by
  unfold fNewD at h
  split at h
  · cases h
    exact fun p hp => q _ _ (same_upd hp) ⟨p, rfl, hp, .inl ⟨[], upd_same, .nil⟩⟩
  · cases h
theorem se_newD {X : Cx} {q : Par} {W : WX} {pos : Pos} : PE X (.Dict [] [] pos) (SemE q W (mOps fNewD [])) := PE.imp pe_dnewK fun σ H Q ⟨g, e, c, rel, z⟩ => by
  have z : At q W σ g H (mFin fNewD [] e c) (fun g' H' e' b a => ResOk q g' H' σ e' b a) Q := z
  exact fin_ok (vs := []) b_newD rel .nil z

/-! ### sets -/
/-- each number once -/
def ddI : List Int → List Int
  | [] => []
  | a :: r => if a ∈ r then ddI r else a :: ddI r
theorem ddI_mem {z : Int} : ∀ {is : List Int}, z ∈ ddI is ↔ z ∈ is
  | [] => Iff.rfl
  | a :: r => by
    unfold ddI
    split
    · rename_i h
      rw [ddI_mem, List.mem_cons]
      constructor
      · exact .inr
      · rintro (rfl | h2)
        · exact h
        · exact h2
    · rw [List.mem_cons, List.mem_cons, ddI_mem]
theorem ddI_nodup : ∀ {is : List Int}, (ddI is).Nodup
  | [] => .nil
  | a :: r => by
    unfold ddI
    split
    · exact ddI_nodup
    · rename_i h
      exact List.nodup_cons.mpr ⟨fun h2 => h (ddI_mem.mp h2), ddI_nodup⟩
theorem ddI_le : ∀ {is : List Int}, (ddI is).length ≤ is.length
  | [] => Nat.le_refl _
  | a :: r => by
    unfold ddI
    have := ddI_le (is := r)
    split
    · simp; omega
    · simp; omega
theorem ddI_perm {is ns : List Int} (h : ns.Nodup) (m : ∀ k, k ∈ ns ↔ k ∈ is) : ns.Perm (ddI is) :=
  (List.perm_ext_iff_of_nodup h ddI_nodup).mpr fun k => by rw [m, ddI_mem]
section
variable {X : Cx}
theorem setR_count {w : World} {h : Heap} {a : Addr} {is : List Int} {c : Nat} (R : SetR w h a (fun j => decide (j ∈ is)) c) : c = (ddI is).length := by
  obtain ⟨o, es, ep, t, _, _, _, _, h1, h2, _, _, h3, _⟩ := R
  have hp := ddI_perm (is := is) (ns := es.toList.map keyOf) h1 fun k => by
    have := h2 k
    simp only [decide_eq_true_eq] at this
    exact this.symm
  have := hp.length_eq
  rw [List.length_map, Array.length_toList, h3] at this
  exact this
/-- set(t) of a tuple of whole numbers -/
def rSetTI (w : World) (K : PySem.W.Frag) : List V → Hp → VK → Prop := fun xs H Q => ∃ (l : Addr) (ns : List Int), xs = [V.ref l] ∧ SqT K H l (ns.map V.int) ∧ ns.length < 62 ∧
  ∀ p, H p = none → Q (.ref p) (upd H p (SetO w p (fun j => decide (j ∈ ns)) (ddI ns).length))
theorem cr_setTI (hc : X.calm = true) : CallR X (.type "set") (rSetTI X.w X.K) := by
  intro pins s σ H vs us Q I r h
  obtain ⟨l, ns, rfl, hs, hl6, q⟩ := h
  obtain ⟨its, rv, hl, hz⟩ := I.tuple hs
  rw [Vals.ref1 r]
  have hn : H s.heap.objs.size = none := I.hok.fresh (Nat.le_refl _)
  refine call_set_tupI (P := X.prog) (w := X.w) ns (I.ok.hd hc) (tupIs hl) (by simpa using rv.ints) (by unfold scanBound; omega) fun h' tk c R hcn hk => ?_
  have e := setR_count R
  subst e
  exact ⟨.ref s.heap.objs.size, upd H s.heap.objs.size (SetO X.w s.heap.objs.size (fun j => decide (j ∈ ns)) (ddI ns).length), I.laid (t' := tk) hk (Nat.le_refl _) (setO_new R), rfl, q _ hn⟩
def rLenSet (w : World) : List V → Hp → VK → Prop := fun vs H Q => ∃ (a : Addr) (S : Int → Bool) (n : Nat), vs = [V.ref a] ∧ H a = some (SetO w a S n) ∧ n < 62 ∧ Q (.int n) H
theorem cr_lenSet : CallR X (.builtin "len") (rLenSet X.w) := by
  intro pins s σ H vs us Q I r h
  obtain ⟨a, S, n, rfl, ha, hn, q⟩ := h
  rw [Vals.ref1 r]
  obtain ⟨o, es, ep, t, ho, hex, hd, _, _, _, _, hf, hsz, _⟩ := setO_get I ha
  refine call_len_set ho hex hd hf (by rw [hsz]; omega) ⟨.int n, H, I.tok _, ⟨_, by rw [hsz]⟩, q⟩
def fSortSet : BF
  | [.tuple ds] => match intsOf ds with
    | some is => if is.length < 62 then some (.own (.list ((sortI (ddI is)).map .int))) else none
    | none => none
  | _ => none
def fLenSet : BF
  | [.tuple ds] => match intsOf ds with
    | some is => if is.length < 62 then some (.val (.int (ddI is).length)) else none
    | none => none
  | _ => none
/-- the two calls as one, by values -/
def rSS (w : World) (K : PySem.W.Frag) : V → Hp → VK → Prop := fun x H Q => rSetTI w K [x] H fun v H1 => rSortedSet w [v] H1 Q
def rLS (w : World) (K : PySem.W.Frag) : V → Hp → VK → Prop := fun x H Q => rSetTI w K [x] H fun v H1 => rLenSet w [v] H1 Q
theorem b_sortSet {w : World} {K : PySem.W.Frag} : BOk K (r1 (rSS w K)) fSortSet := fun F H vs ds sv Q ag h q => by
  unfold fSortSet at h
  split at h
  · rename_i es
    obtain ⟨v, rfl, h1⟩ := argl1 ag
    obtain ⟨p, xs, rfl, s, r⟩ := arg_tup h1
    split at h
    · rename_i is hi
      split at h
      · rename_i hl
        cases h
        rw [intsOf_map hi] at r
        have e := repl_ints r
        subst e
        have hd := ddI_le (is := is)
        refine ⟨_, rfl, p, is, rfl, s, hl, fun a ha => ⟨a, _, _, rfl, upd_same, by omega, fun ns l hw hm hlen hln => ?_⟩⟩
        have hns : ns = sortI (ddI is) := sortI_uniq (ddI_perm (hw.imp fun {a b} h => by omega) fun k => by rw [hm]; simp) (hw.imp fun {a b} h => by omega)
        subst hns
        have sm : Same H (upd (upd H a (SetO w a (fun j => decide (j ∈ is)) (ddI is).length)) l (.lst ((sortI (ddI is)).map V.int))) := fun b o ho => same_upd hln b o (same_upd ha b o ho)
        refine q _ _ sm ⟨l, rfl, ?_, _, upd_same, ints_repl _⟩
        by_cases hal : a = l
        · subst hal; exact ha
        · rw [upd_ne (fun z => hal z.symm)] at hln
          exact hln
      · cases h
    · cases h
  · cases h
theorem b_lenSet {w : World} {K : PySem.W.Frag} : BOk K (r1 (rLS w K)) fLenSet := fun F H vs ds sv Q ag h q => by
  unfold fLenSet at h
  split at h
  · rename_i es
    obtain ⟨v, rfl, h1⟩ := argl1 ag
    obtain ⟨p, xs, rfl, s, r⟩ := arg_tup h1
    split at h
    · rename_i is hi
      split at h
      · rename_i hl
        cases h
        rw [intsOf_map hi] at r
        have e := repl_ints r
        subst e
        have hd := ddI_le (is := is)
        exact ⟨_, rfl, p, is, rfl, s, hl, fun a ha => ⟨a, _, _, rfl, upd_same, by omega, q _ _ (same_upd ha) (.int _)⟩⟩
      · cases h
    · cases h
  · cases h
section
variable {q : Par} {W : WX} {ea : Expr} {o : Opnd} {p p2 pos pos2 : Pos}
theorem pe_two {T : String} {x y : Str} {f : Value} {te : TE} {r : V → Hp → VK → Prop} {r2 : List V → Hp → VK → Prop} (h1 : PE X (.Call (.Name y p2) [ea] [] pos2) te)
    (hc : CallR X (.builtin T) r2) (hg : Gl X x) (hm : X.mg x = none) (hb : bootBuiltins x = some (.builtin T)) (hn : x ≠ "__name__") (hd : (x == ("__debug__" : Str)) = false) :
    PE X (.Call (.Name x p) [.Call (.Name y p2) [ea] [] pos2] [] pos) (fun σ H Q => te σ H fun v H1 => r2 [v] H1 Q) :=
  PE.imp (pe_callB hc hg hm hb (pa_cons h1 pa_nil rfl) hn hd rfl rfl) fun σ H Q h => h
theorem se_sortSet (hK : X.K = q.K) (hc : X.calm = true) (hg : Gl X "sorted") (hm : X.mg "sorted" = none) (hg2 : Gl X "set") (hm2 : X.mg "set" = none) (ha : PE X ea (SemO q W o)) (na : starEach [ea] X.env = (false, eval ea X.env) :: starEach [] X.env) :
    PE X (.Call (.Name "sorted" p) [.Call (.Name "set" p2) [ea] [] pos2] [] pos) (SemE q W (mOps fSortSet [o])) := by
  refine se_un (r := rSS X.w q.K) b_sortSet ?_
  have h1 : PE X (.Call (.Name "set" p2) [ea] [] pos2) (fun σ H Q => SemO q W o σ H fun x H1 => rSetTI X.w X.K [x] H1 Q) :=
    PE.imp (pe_callTy (cr_setTI hc) hg2 hm2 (by decide +kernel) (pa_cons ha pa_nil na) (by decide) (by decide) na rfl) fun σ H Q h => h
  exact PE.imp (pe_two (f := .none) (r := fun _ _ _ => True) h1 (cr_sortedSet hc) hg hm (by decide +kernel) (by decide) (by decide)) fun σ H Q h => by rw [hK]; exact h
theorem se_lenSet (hK : X.K = q.K) (hc : X.calm = true) (hg : Gl X "len") (hm : X.mg "len" = none) (hg2 : Gl X "set") (hm2 : X.mg "set" = none) (ha : PE X ea (SemO q W o)) (na : starEach [ea] X.env = (false, eval ea X.env) :: starEach [] X.env) :
    PE X (.Call (.Name "len" p) [.Call (.Name "set" p2) [ea] [] pos2] [] pos) (SemE q W (mOps fLenSet [o])) := by
  refine se_un (r := rLS X.w q.K) b_lenSet ?_
  have h1 : PE X (.Call (.Name "set" p2) [ea] [] pos2) (fun σ H Q => SemO q W o σ H fun x H1 => rSetTI X.w X.K [x] H1 Q) :=
    PE.imp (pe_callTy (cr_setTI hc) hg2 hm2 (by decide +kernel) (pa_cons ha pa_nil na) (by decide) (by decide) na rfl) fun σ H Q h => h
  exact PE.imp (pe_two (f := .none) (r := fun _ _ _ => True) h1 cr_lenSet hg hm (by decide +kernel) (by decide) (by decide)) fun σ H Q h => by rw [hK]; exact h
end
end
end Ev

/-! enumerate of a list, of a tuple. -/
namespace PySem
open Sem (wp)
open AutoSeq1 (wpAny_loadPart')
theorem ev_enum_newT (l : Addr) (items : Array Value) (n : Nat) (dct : Option Addr) (sl : Array (Option Value)) :
    Meets (Builtin.«enumerate.__new__» ⟨[.type "enumerate", .ref l], []⟩) (fun _ R s => s.heap.get? l = some { cls := .type "tuple", dict := dct, data := .seq items n, slots := sl } ∧
      R (.ok (.ret (.ref (s.heap.push { cls := .type "tuple_iterator", data := .fields #[.ref l, .int 0 0] }).objs.size)))
        { s with heap := (s.heap.push { cls := .type "tuple_iterator", data := .fields #[.ref l, .int 0 0] }).push { cls := .type "enumerate", data := .fields #[.none, .bool false, .ref s.heap.objs.size, rawInt 0, .none, .none] } }) :=
  .of_wp fun prog w A R s h => by
    obtain ⟨hp, g, d, tk, os⟩ := s
    obtain ⟨hl, h⟩ := h
    have hsub := sub_enumerate
    have hL : Heap.IsTuple (Shared.heap ⟨hp, g, d, tk, os⟩) l items := ⟨_, hl, rfl, n, rfl⟩
    wp_walk using wpAny_loadPart' hl
    refine wpAny_stack_any fun st => wpAny_pure ?_
    split
    · rename_i c _ _ _ _ _
      cases (c == Value.type "enumerate")
      · wp_walk using wpAny_loadPart' hl, wpAny_pyIter_tuple hL
        exact ⟨_, rfl, h⟩
      · wp_walk using wpAny_loadPart' hl, wpAny_pyIter_tuple hL
        exact ⟨_, rfl, h⟩
    · wp_walk using wpAny_loadPart' hl, wpAny_pyIter_tuple hL
      exact ⟨_, rfl, h⟩
section
variable {prog : Program} {w : World} {A : Around} {E : Value → Shared → Prop} {s : Shared}
theorem ev_enum_tuple {l : Addr} {items : Array Value} {Q : Value → Shared → Prop} (hL : s.heap.IsTuple l items)
    (h : ∀ h', IsEnum h' (s.heap.objs.size + 1) s.heap.objs.size 0 .none → h'.IsTupleIter s.heap.objs.size l 0 → h'.objs.size = s.heap.objs.size + 2 →
      (∀ b o, s.heap.get? b = some o → h'.get? b = some o) → Q (.ref (s.heap.objs.size + 1)) { s with heap := h' }) :
    wpAny (model prog w) A (call (.type "enumerate") [.ref l]) Q E s := by
  obtain ⟨⟨c, dct, dt, sl⟩, hl, hc, n, hd⟩ := hL
  replace hc : c = .type "tuple" := hc
  replace hd : dt = .seq items n := hd
  subst hc hd
  refine callType_new F.called_enumerate (by decide) (F.typeCall_enumerate_1 _) (F.newCall_enumerate_1 _) (fun obj => F.args_object_init_2 obj _) F.entry_enumerate_new
    (ev_enum_newT l items n dct sl) ⟨hl, ?_⟩
  have hz : (s.heap.push { cls := .type "tuple_iterator", data := .fields #[.ref l, .int 0 0] }).objs.size = s.heap.objs.size + 1 := Heap.size_push ..
  show _ ∧ _
  rw [hz]
  have he : IsEnum ((s.heap.push { cls := .type "tuple_iterator", data := .fields #[.ref l, .int 0 0] }).push
      { cls := .type "enumerate", data := .fields #[.none, .bool false, .ref s.heap.objs.size, rawInt 0, .none, .none] }) (s.heap.objs.size + 1) s.heap.objs.size 0 .none := by
    have := Heap.get?_push_size (s.heap.push { cls := .type "tuple_iterator", data := .fields #[.ref l, .int 0 0] })
      (o := { cls := .type "enumerate", data := .fields #[.none, .bool false, .ref s.heap.objs.size, rawInt 0, .none, .none] }) rfl
    rw [hz] at this; exact this
  refine ⟨⟨_, he, rfl⟩, h _ he ⟨_, Heap.get?_push_of_some _ (Heap.get?_push_size _ rfl), rfl, rfl⟩ (by rw [Heap.size_push, hz]) fun b o x => Heap.get?_push_of_some _ (Heap.get?_push_of_some _ x)⟩
theorem ev_enum_end {e it l : Addr} {i : Nat} {items : Array Value} {old : Value} {Q : Option Value → Shared → Prop} (hh : A.handled = none)
    (he : IsEnum s.heap e it i old) (hit : s.heap.IsTupleIter it l i) (hl : s.heap.IsTuple l items) (hx : items[i]? = none)
    (hQ : ∀ h', Heap.ExtBut it s.heap h' → Q none { s with heap := h' }) : wpAny (model prog w) A (pyNext (.ref e)) Q E s := by
  have hT : s.TypeIs (.ref e) "enumerate" := ⟨_, he, rfl⟩
  unfold pyNext
  refine wpAny_bind (wpAny_attempt (wpAny_callSpecial?_slot (name := Str.ofString "__next__") hT F.slot_enumerate_next
    (wpAny_call_entry F.slot_enumerate_next hT F.entry_enumerate_next ?_ (F.args_enumerate_next_1 _))))
  show wpAny _ _ (field (.ref e) 2 >>= _) _ _ _
  refine wpAny_bind (wpAny_field he rfl (x := .ref it) rfl ?_)
  refine wpAny_bind (wpAny_nextOf_tuple_end hh hit hl hx fun h' x he' hx' => ?_)
  obtain ⟨o, ho, hc⟩ := hx'
  refine wpAny_bind (wpAny_isInstance (T := "StopIteration") (b := true) ⟨o, ho, hc⟩ isSubtype_stop ?_)
  exact wpAny_pure (hQ _ he')
end
end PySem
namespace Ev
open PySem PySem.Spec PyProof.Rows L2
/-- the tuple at a as it stands at each turn, each item in a new pair -/
def IteT (K : PySem.W.Frag) (a : Addr) : It :=
  ⟨fun i H => ∃ (xs : List V) (x : V), SqT K H a xs ∧ xs[i]? = some x, fun i H v H' => ∃ T x, v = .ref T ∧ H T = none ∧ H' = upd H T (.tup [.int (i : Nat), x]) ∧ ∀ xs, SqT K H a xs → xs[i]? = some x, fun i H => ∃ xs : List V, SqT K H a xs ∧ xs.length ≤ i⟩
theorem turn_enumT {P : Program} {w : World} {K : PySem.W.Frag} {elts : List Expr} {kk : Nat} {tpos : Pos} (a e it : Addr) :
    Turn P w K (.Tuple elts kk tpos) (IteT K a) [e, it] e (fun i h => (∃ old, IsEnum h e it ((i : Nat) : Int) old) ∧ h.IsTupleIter it a i ∧ e ≠ it ∧ a ≠ it ∧ e ≠ a) where
  mem := by simp
  obj := fun i h st b hb => by
    obtain ⟨⟨old, he⟩, ⟨o, ho, hc, hd⟩, _⟩ := st
    have e' : b = e ∨ b = it := by simpa using hb
    rcases e' with z | z
    · rw [z]; exact ⟨_, he, fun v q => nomatch q⟩
    · rw [z]; exact ⟨o, ho, fun v q => by rw [hd] at q; cases q⟩
  keep := fun i h h' st k => let ⟨⟨old, he⟩, hi, hne⟩ := st; ⟨⟨old, k e (by simp) _ he⟩, hi.at fun o q => k it (by simp) o q, hne⟩
  item := by
    intro X hP hw hK hc i pins s σ H E I hf st hg
    subst hP hw hK
    obtain ⟨⟨old, he⟩, hit, hne, hai, hea⟩ := st
    obtain ⟨xs, x, hq, hx⟩ := hg
    obtain ⟨its, rv, p, hz⟩ := I.tuple hq
    obtain ⟨u, hu, ru⟩ := rv.get hx
    have hel : e < s.heap.objs.size := Heap.lt_size he
    have hil : it < s.heap.objs.size := by obtain ⟨_, q, _⟩ := hit; exact Heap.lt_size q
    have hlt : i < its.toArray.size := by
      have := (List.getElem?_eq_some_iff.mp hu).1
      simpa using this
    refine wpAny_pyNext_enum_itemD (Draws.tuple (A := X.A.in1) (I.ok.hd hc) it a hai its.toArray) he ⟨hit, tupIs p⟩ hlt hne (by simp [hne, hea]) fun y h' tk hy ho st' hT hsz hk => ?_
    have hyu : y = u := by
      have : its.toArray[i]? = some u := by simpa using hu
      rw [this] at hy
      exact (Option.some.inj hy).symm
    subst hyu
    refine ⟨_, rfl, wpAny_letOwnedTupleGo_enum (s := { s with heap := h', toks := tk + 1 }) ho fun h'' he' sb => ?_⟩
    have hT2 : h''.get? s.heap.objs.size = some { cls := .type "tuple", data := .seq #[.int i tk, y] } := (sb.2 _ (Nat.ne_of_gt hel)).trans hT
    have new : ObjOk X.prog X.w (upd H s.heap.objs.size (.tup [.int (i : Nat), x])) h'' s.heap.objs.size (.tup [.int (i : Nat), x]) :=
      ⟨by show 2 ≤ sizeLine; decide, [.int i tk, y], .cons ⟨_, rfl⟩ (.cons ru .nil), ⟨_, hT2, rfl, _, rfl⟩⟩
    have I1 : Inv X pins σ (upd H s.heap.objs.size (.tup [.int (i : Nat), x])) { s with heap := h'', toks := tk + 1 } :=
      I.turnedNew (ch := [e, it]) (fun b ob hb q => (sb.2 b (fun z => hb (by simp [z]))).trans (hk b ob (fun z => hb (by simp [z])) (fun z => hb (by simp [z])) q)) hf (Nat.le_refl _) new
    refine ⟨.ref s.heap.objs.size, _, I1, rfl, ⟨_, x, rfl, I.hok.fresh (Nat.le_refl _), rfl, fun ys hy => by rw [I.tuple_inj hy hq]; exact hx⟩, ⟨⟨y, ?_⟩, st'.1.at fun o q => (sb.2 it (Ne.symm hne)).trans q, hne, hai, hea⟩, fun b hb => ?_⟩
    · have e1 : ((i + 1 : Nat) : Int) = (i : Int) + 1 := by omega
      rw [e1]; exact he'
    · have hb' : b < s.heap.objs.size := by
        have e' : b = e ∨ b = it := by simpa using hb
        rcases e' with z | z
        · rw [z]; exact hel
        · rw [z]; exact hil
      rw [upd_ne (Nat.ne_of_lt hb')]
      exact (hf b hb).1
  done := by
    intro X hP hw hK hc i pins s σ H E I hf st hg
    subst hP hw hK
    obtain ⟨⟨old, he⟩, hit, hne, hai, hea⟩ := st
    obtain ⟨xs, hq, hx⟩ := hg
    obtain ⟨its, rv, p, hz⟩ := I.tuple hq
    obtain ⟨f0, f1, f2, f3, f4, f5⟩ := hf it (by simp)
    have hl := rv.length
    exact ev_enum_end (I.ok.hd hc) he hit (tupIs p) (by simp; omega) fun h' eb => ⟨rfl, I.turned (t' := s.toks) (fun b o hb q => eb b o hb q) f0 f1 f3 f4 f5⟩
  self := fun A i s Q E st h => let ⟨⟨_, he⟩, _⟩ := st; wpAny_pyIter_enum he h
def iEnumA (K : PySem.W.Frag) (ta : TA) : TI := fun σ H R => ta σ H fun vs H1 => ∃ a, vs = [.ref a] ∧ ((∃ xs, SqL K H1 a xs ∧ R (Ite K a) H1) ∨ (∃ xs, SqT K H1 a xs ∧ R (IteT K a) H1))
theorem pi_enumA {X : Cx} {e : Expr} {ta : TA} {p pos tpos : Pos} {elts : List Expr} {kk : Nat} (hg : Gl X "enumerate") (hm : X.mg "enumerate" = none) (ha : PA X [e] ta) (hs : starEach [e] X.env = (false, eval e X.env) :: starEach [] X.env) :
    PI X (.Tuple elts kk tpos) (.Call (.Name "enumerate" p) [e] [] pos) (iEnumA X.K ta) := by
  refine ⟨fun pins s σ H R I h => ?_⟩
  refine Call_ (ld_blt I hg hm boot_enumerate (PyProof.Rows.callWith_type1 (thn (ha.run pos pins s σ H _ I h) fun us s1 ⟨vs, H1, I1, r1, q1⟩ => ?_) hs rfl))
  obtain ⟨a, ex, q⟩ := q1
  subst ex
  cases r1 with
  | cons r rr =>
    cases rr
    cases r
    have fin : ∀ b, b = s1.heap.objs.size + 1 ∨ b = s1.heap.objs.size → s1.heap.objs.size ≤ b := fun b e' => by
      rcases e' with z | z
      · rw [z]; exact Nat.le_add_right _ _
      · rw [z]; exact Nat.le_refl _
    rcases q with ⟨xs, hq, q⟩ | ⟨xs, hq, q⟩
    · obtain ⟨its, rv, p', hz⟩ := I1.list hq
      refine call_enumerate_list p'.isList fun h' he hit hsz hk => wpAny_pyIter_enum he ?_
      have I2 : Inv X pins σ H1 { s1 with heap := h' } := I1.kept (t' := s1.toks) hk
      refine ⟨s1.heap.objs.size + 1, [s1.heap.objs.size + 1, s1.heap.objs.size], _, _, H1, rfl, I2, turn_enum a (s1.heap.objs.size + 1) s1.heap.objs.size, ⟨⟨.none, he⟩, hit, Nat.succ_ne_self _⟩, fun b hb => ?_, q⟩
      have hle := fin b (by simpa using hb)
      exact I1.fpOk hle (I1.hok.fresh hle)
    · obtain ⟨its, rv, p', hz⟩ := I1.tuple hq
      have hal : a < s1.heap.objs.size := by obtain ⟨_, e, _⟩ := tupIs p'; exact Heap.lt_size e
      refine ev_enum_tuple (tupIs p') fun h' he hit hsz hk => wpAny_pyIter_enum he ?_
      have I2 : Inv X pins σ H1 { s1 with heap := h' } := I1.kept (t' := s1.toks) hk
      refine ⟨s1.heap.objs.size + 1, [s1.heap.objs.size + 1, s1.heap.objs.size], _, _, H1, rfl, I2, turn_enumT a (s1.heap.objs.size + 1) s1.heap.objs.size, ⟨⟨.none, he⟩, hit, Nat.succ_ne_self _, Nat.ne_of_lt hal, fun z => Nat.lt_irrefl _ (Nat.lt_of_succ_lt (z ▸ hal))⟩, fun b hb => ?_, q⟩
      have hle := fin b (by simpa using hb)
      exact I1.fpOk hle (I1.hok.fresh hle)
/-- each item with its place -/
def enumD (i : Nat) : List D → List D
  | [] => []
  | d :: r => .tuple [.int i, d] :: enumD (i + 1) r
theorem enum_len : ∀ {ds : List D} {i : Nat}, (enumD i ds).length = ds.length
  | [], _ => rfl
  | _ :: r, i => congrArg (· + 1) (enum_len (ds := r) (i := i + 1))
theorem enum_get : ∀ {ds : List D} {i j : Nat} {d : D}, (enumD i ds)[j]? = some d → ∃ x, ds[j]? = some x ∧ d = .tuple [.int ((i + j : Nat) : Int), x]
  | [], _, _, _, h => by simp [enumD] at h
  | x :: r, i, 0, d, h => by
    simp [enumD] at h
    exact ⟨x, by simp, by rw [← h]; rfl⟩
  | x :: r, i, j + 1, d, h => by
    obtain ⟨y, h1, h2⟩ := enum_get (ds := r) (i := i + 1) (j := j) (by simpa [enumD] using h)
    refine ⟨y, by simpa using h1, ?_⟩
    rw [h2, show i + 1 + j = i + (j + 1) by omega]
def mEnum (m : M SV) : M (List D) := mBind (mArgs [m]) fun svs => fun e c => match svs with
  | [.val (.list a)] => .ok (enumD 0 a) e c
  | [.val (.tuple a)] => .ok (enumD 0 a) e c
  | _ => .bad
section
variable {q : Par} {g : Gh} {H : Hp} {a : Addr} {xs : List V} {ds : List D}
theorem itok_enum (h : LstOk g.fz H a xs) (r : RepL q.K g.fz H xs ds) : ItOk q g H (Ite q.K a) (enumD 0 ds) := fun g' H' x i => by
  have s1 : SqL q.K H' a xs := (h.ext x.keep x.fz).seq
  have r' := r.ext x.keep x.fz
  refine ⟨fun d hd => ?_, fun hl => ⟨xs, s1, by rw [enum_len] at hl; rw [r.length]; exact hl⟩⟩
  obtain ⟨u, hu, rfl⟩ := enum_get hd
  obtain ⟨v, hv, rv⟩ := r'.get' hu
  refine ⟨⟨xs, v, s1, hv⟩, fun y H'' hy => ?_⟩
  obtain ⟨T, y1, rfl, hT, rfl, f1⟩ := hy
  have e1 := f1 xs s1
  rw [hv] at e1; cases e1
  refine ⟨same_upd hT, .tup (.inl (.inl upd_same)) ?_⟩
  rw [Nat.zero_add]
  exact (RepL.cons (.int _) (.cons rv .nil)).ext (Ext.same (p := fun _ => False) (g := g') (same_upd hT)).keep fun _ z => z
theorem itok_enumT (h : SqT q.K H a xs) (r : RepL q.K g.fz H xs ds) : ItOk q g H (IteT q.K a) (enumD 0 ds) := fun g' H' x i => by
  have s1 : SqT q.K H' a xs := SqT.ext h (fun a o e m => x.keep a o e (.inl m))
  have r' := r.ext x.keep x.fz
  refine ⟨fun d hd => ?_, fun hl => ⟨xs, s1, by rw [enum_len] at hl; rw [r.length]; exact hl⟩⟩
  obtain ⟨u, hu, rfl⟩ := enum_get hd
  obtain ⟨v, hv, rv⟩ := r'.get' hu
  refine ⟨⟨xs, v, s1, hv⟩, fun y H'' hy => ?_⟩
  obtain ⟨T, y1, rfl, hT, rfl, f1⟩ := hy
  have e1 := f1 xs s1
  rw [hv] at e1; cases e1
  refine ⟨same_upd hT, .tup (.inl (.inl upd_same)) ?_⟩
  rw [Nat.zero_add]
  exact (RepL.cons (.int _) (.cons rv .nil)).ext (Ext.same (p := fun _ => False) (g := g') (same_upd hT)).keep fun _ z => z
end
section
variable {X : Cx} {q : Par} {W : WX} {p pos : Pos}
theorem si_enum {m : M SV} {e1 : Expr} {elts : List Expr} {kk : Nat} {tpos : Pos} (hK : X.K = q.K) (hg : Gl X "enumerate") (hm : X.mg "enumerate" = none) (ha : PA X [e1] (SemVs q W [m]))
    (hs : starEach [e1] X.env = (false, eval e1 X.env) :: starEach [] X.env) :
    PI X (.Tuple elts kk tpos) (.Call (.Name "enumerate" p) [e1] [] pos) (SemI q W (mEnum m)) := PI.imp (pi_enumA hg hm ha hs) fun σ H R ⟨g, e, c, rel, z⟩ => by
  refine ⟨g, e, c, rel, ?_⟩
  refine At.bind z fun svs e1 c1 vs g1 H1 _ rel1 x1 ok z => ?_
  rw [hK]
  split at z
  · cases ok with
    | cons o1 ok =>
      cases ok
      cases o1 with
      | lst h1 r1 => exact ⟨_, rfl, .inl ⟨_, h1.seq, z _ g1 H1 rel1 (Ext.refl _ _) (itok_enum h1 r1)⟩⟩
  · cases ok with
    | cons o1 ok =>
      cases ok
      cases o1 with
      | tup h1 r1 => exact ⟨_, rfl, .inr ⟨_, h1, z _ g1 H1 rel1 (Ext.refl _ _) (itok_enumT h1 r1)⟩⟩
  · exact z.elim
end
end Ev

/-! The text's defs as doings, and that they are what the text does. -/
namespace Ev
open PySem PySem.Spec PyProof.Rows L2

structure Def where
  name : Str
  ps : List Str
  N : List Str
structure Tab where
  defs : List Def
  consts : List (Str × D)
  excs : List Str
def ixOf (x : Str) : List Str → Option Nat
  | [] => none
  | y :: ys => if x = y then some 0 else match ixOf x ys with
    | some i => some (i + 1)
    | none => none
theorem ixOf_get {x : Str} : ∀ {N : List Str} {i : Nat}, ixOf x N = some i → N[i]? = some x
  | [], _, h => by cases h
  | y :: ys, i, h => by
    unfold ixOf at h
    split at h
    · rename_i e; cases h; rw [e]; rfl
    · split at h
      · rename_i j hj; cases h; simpa using ixOf_get hj
      · cases h
def defOf (x : Str) : List Def → Option Nat
  | [] => none
  | d :: ds => if x = d.name then some 0 else match defOf x ds with
    | some i => some (i + 1)
    | none => none
theorem defOf_get {x : Str} : ∀ {N : List Def} {i : Nat}, defOf x N = some i → ∃ d, N[i]? = some d ∧ d.name = x
  | [], _, h => by cases h
  | y :: ys, i, h => by
    unfold defOf at h
    split at h
    · rename_i e; cases h; exact ⟨y, rfl, e.symm⟩
    · split at h
      · rename_i j hj; cases h; simpa using defOf_get hj
      · cases h
def dunder (x : Str) : Bool := x == ("__debug__" : Str) || x == ("__classdict__" : Str) || x == ("__name__" : Str)
def slotOf (N : List Str) (sc : Scope) (x : Str) : Option Nat := match sc.names.lookup x with
  | some .local => if dunder x = true then none else ixOf x N
  | some .cell => if dunder x = true then none else ixOf x N
  | some .free => if dunder x = true then none else ixOf x N
  | _ => none
def isGl (sc : Scope) (x : Str) : Bool := (match sc.names.lookup x with
  | some .globalImplicit => true
  | _ => false) && !dunder x
def locOf (N : List Str) (sc : Scope) (x : Str) : Option Nat := match sc.names.lookup x with
  | some .local => if dunder x = true then none else ixOf x N
  | some .cell => if dunder x = true then none else ixOf x N
  | _ => none
def notStar : Expr → Bool
  | .Starred .. => false
  | _ => true
def notSet : Expr → Bool
  | .Set .. => false
  | _ => true
def isNeg1 : Expr → Bool
  | .UnaryOp .USub (.Constant (.int i) _ _) _ => decide (i = 1)
  | _ => false
theorem neg1 {e : Expr} (h : isNeg1 e = true) : ∃ k p1 p2, e = .UnaryOp .USub (.Constant (.int 1) k p1) p2 := by
  unfold isNeg1 at h
  split at h
  · have := of_decide_eq_true h
    subst this
    exact ⟨_, _, _, rfl⟩
  · cases h
def notSl : Expr → Bool
  | .Slice .. => false
  | _ => true
/-- no comprehension stands there as a whole -/
def notComp : Expr → Bool
  | .ListComp .. => false
  | .SetComp .. => false
  | .DictComp .. => false
  | _ => true
def plainT : Expr → Bool
  | .UnaryOp .Not .. => false
  | .BoolOp .. => false
  | .IfExp .. => false
  | .Compare .. => false
  | _ => true
def cTgt (N : List Str) (sc : Scope) : Nat → Expr → Option Tgt
  | 0, _ => none
  | n + 1, .Name x _ => match locOf N sc x with
    | some i => some (.nm i)
    | none => none
  | n + 1, .Tuple es _ _ => if es.all notStar = true then (match es.mapM (cTgt N sc n) with
    | some ts => some (.tp ts)
    | none => none) else none
  | _ + 1, _ => none
def ownOf (N : List Str) (sc : Scope) : List (Str × NameKind) → List (Str × Nat)
  | [] => []
  | (x, k) :: r => match k, ixOf x N with
    | .local, some i => (x, i) :: ownOf N sc r
    | .cell, some i => (x, i) :: ownOf N sc r
    | _, _ => ownOf N sc r
def opnd (N : List Str) (sc : Scope) (e : Expr) (m : M SV) : Opnd := match e with
  | .Name x _ => match slotOf N sc x with
    | some i => .nm i
    | none => .ex m
  | _ => .ex m
def cmpF : CmpOp → Option BF
  | .Eq => some fEq
  | .NotEq => some fNe
  | .Lt => some fLt
  | .LtE => some fLe
  | .Gt => some fGt
  | .GtE => some fGe
  | .Is => some fIs
  | .IsNot => some fIsNot
  | .In => some fIn
  | .NotIn => some (fNot fIn)
/-- what is walked -/
def isTp : Expr → Bool
  | .Tuple .. => true
  | _ => false
theorem isTp_ex {e : Expr} (h : isTp e = true) : ∃ elts kk p, e = .Tuple elts kk p := by
  unfold isTp at h
  split at h
  · exact ⟨_, _, _, rfl⟩
  · cases h
def cI (N : List Str) (sc : Scope) (tp : Bool) (v : Expr → M SV) (it : Expr) : M (List D) := match it with
  | .Call (.Name f _) [a] [] _ => if f = "range" then (if isGl sc f = true ∧ notStar a = true then mRng1 (opnd N sc a (v a)) else mBad) else if f = "enumerate" then (if tp = true ∧ isGl sc f = true ∧ notStar a = true then mEnum (v a) else mBad) else mSeqIt (v it)
  | .Call (.Name f _) [a, b] [] _ => if f = "range" then (if isGl sc f = true ∧ notStar a = true ∧ notStar b = true then mRng2 (opnd N sc a (v a)) (opnd N sc b (v b)) else mBad) else if f = "zip" then (if tp = true ∧ isGl sc f = true ∧ notStar a = true ∧ notStar b = true then mZip (v a) (v b) else mBad) else mSeqIt (v it)
  | _ => mSeqIt (v it)
def cCall (T : Tab) (G : Nat → Fn) (N : List Str) (sc : Scope) (v : Expr → M SV) (f : Str) (args : List Expr) : M SV :=
  if isGl sc f = true ∧ args.all notStar = true then (match defOf f T.defs with
    | some j => match T.defs[j]? with
      | some d => if args.length = d.ps.length then mCall (G j) (args.map v) else mBad
      | none => mBad
    | none => if f = "isinstance" then (match args with
        | [a, .Name x _] => (match isiT x with
          | some ty => if isGl sc x = true ∧ defOf x T.defs = none then mOps (fIsi ty) [opnd N sc a (v a)] else mBad
          | none => mBad)
        | _ => mBad) else match bltF f with
      | some (g, _, _) => if args = [] then mBad else mOps g (args.map fun a => opnd N sc a (v a))
      | none => mBad) else mBad
def cRg (N : List Str) (sc : Scope) (v : Expr → M SV) (f : Str) (args : List Expr) (other : M SV) : M SV := match args with
  | [.Call (.Name g _) [a] [] _] => if g = "set" ∧ isGl sc f = true ∧ isGl sc g = true ∧ notStar a = true then (if f = "sorted" then mOps fSortSet [opnd N sc a (v a)] else if f = "len" then mOps fLenSet [opnd N sc a (v a)] else other) else if g = "range" ∧ isGl sc f = true ∧ isGl sc g = true ∧ notStar a = true then (if f = "list" then mRgv1 false (opnd N sc a (v a)) else if f = "tuple" then mRgv1 true (opnd N sc a (v a)) else other) else other
  | [.Call (.Name g _) [a, b] [] _] => if g = "range" ∧ isGl sc f = true ∧ isGl sc g = true ∧ notStar a = true ∧ notStar b = true then (if f = "list" then mRgv2 false (opnd N sc a (v a)) (opnd N sc b (v b)) else if f = "tuple" then mRgv2 true (opnd N sc a (v a)) (opnd N sc b (v b)) else other) else other
  | _ => other
def cMeth (N : List Str) (sc : Scope) (v : Expr → M SV) (x m : Str) (args : List Expr) (apos cpos : Pos) : M SV :=
  if args.all notStar = true ∧ args.length < 20 ∧ (apos.endLine == cpos.line) = true then (match slotOf N sc x with
    | some j => match methT m (!args.isEmpty) with
      | some (f, ty) => mMeth j ty f (args.map v)
      | none => mBad
    | none => mBad) else mBad
def cX (T : Tab) (G : Nat → Fn) (N : List Str) : Nat → Scope → Expr → M SV × M Bool
  | 0, _, _ => (mBad, mBad)
  | n + 1, sc, e =>
    match e with
    | .Name x _ => match slotOf N sc x with
      | some i => (mVar i, mTV (mVar i))
      | none => if isGl sc x = true then (match T.consts.lookup x with
        | some d => (mC d, mTV (mC d))
        | none => (mBad, mBad)) else (mBad, mBad)
    | .Constant k _ _ => match k with
      | .none => (mC .none, mBad)
      | .bool b => (mC (.bool b), mTV (mC (.bool b)))
      | .int i => (mC (.int i), mBad)
      | .str x => (mC (.str x), mBad)
      | _ => (mBad, mBad)
    | .BinOp a op b _ => match binF op with
      | some f => (mOps f [opnd N sc a (cX T G N n sc a).1, opnd N sc b (cX T G N n sc b).1], mBad)
      | none => (mBad, mBad)
    | .UnaryOp .USub a _ => (mOps fNeg [opnd N sc a (cX T G N n sc a).1], mBad)
    | .UnaryOp .Not a _ => (mVT (mNotT (mTV (cX T G N n sc a).1)), mNotT (cX T G N n sc a).2)
    | .BoolOp .And es _ => (mAndV (es.map fun a => (cX T G N n sc a).1), mAndT (es.map fun a => (cX T G N n sc a).2))
    | .BoolOp .Or es _ => (mOrV (es.map fun a => (cX T G N n sc a).1), mOrT (es.map fun a => (cX T G N n sc a).2))
    | .Compare a [op] [b] _ => if notSet b = true then (match cmpF op with
      | some f => (mOps f [opnd N sc a (cX T G N n sc a).1, opnd N sc b (cX T G N n sc b).1], mTV (mOps f [opnd N sc a (cX T G N n sc a).1, opnd N sc b (cX T G N n sc b).1]))
      | none => (mBad, mBad)) else (mBad, mBad)
    | .Compare a [op, op'] [b, c] _ => if notSet c = true then (match cmpF op, cmpF op' with
      | some f, some f' => (mChain f f' (opnd N sc a (cX T G N n sc a).1) (opnd N sc b (cX T G N n sc b).1) (opnd N sc c (cX T G N n sc c).1),
          mTV (mChain f f' (opnd N sc a (cX T G N n sc a).1) (opnd N sc b (cX T G N n sc b).1) (opnd N sc c (cX T G N n sc c).1)))
      | _, _ => (mBad, mBad)) else (mBad, mBad)
    | .IfExp c a b _ => (mIf (cX T G N n sc c).2 (cX T G N n sc a).1 (cX T G N n sc b).1, mBad)
    | .Call (.Name f _) args [] _ => (cRg N sc (fun a => (cX T G N n sc a).1) f args (cCall T G N sc (fun a => (cX T G N n sc a).1) f args), mTV (cRg N sc (fun a => (cX T G N n sc a).1) f args (cCall T G N sc (fun a => (cX T G N n sc a).1) f args)))
    | .Call (.Attribute (.Name x _) m apos) args [] cpos => (cMeth N sc (fun a => (cX T G N n sc a).1) x m args apos cpos, mBad)
    | .Subscript a (.Slice none none (some st) _) _ => if isNeg1 st = true then (mOps fRev [opnd N sc a (cX T G N n sc a).1], mBad) else (mBad, mBad)
    | .Subscript a (.Slice lo hi none _) _ => (mSl fSl (opnd N sc a (cX T G N n sc a).1) (lo.map fun x => opnd N sc x (cX T G N n sc x).1) (hi.map fun x => opnd N sc x (cX T G N n sc x).1), mBad)
    | .Subscript a b _ => if notSl b = true then (mOps fIx [opnd N sc a (cX T G N n sc a).1, opnd N sc b (cX T G N n sc b).1], mTV (mOps fIx [opnd N sc a (cX T G N n sc a).1, opnd N sc b (cX T G N n sc b).1])) else (mBad, mBad)
    | .Tuple es _ _ => if es.all notStar = true then (mTup (es.map fun a => (cX T G N n sc a).1), mBad) else (mBad, mBad)
    | .List es _ => if es.all notStar = true then (mLst (es.map fun a => (cX T G N n sc a).1), mBad) else (mBad, mBad)
    | .Dict [] [] _ => (mOps fNewD [], mBad)
    | .ListComp elt [⟨tg, it, ifs, 0⟩] scope _ =>
      if blkC N sc scope (ownOf N scope scope.names) = true ∧ notSet it = true ∧ ifs.length ≤ 1 then (match cTgt N scope 5 tg with
        | some t => (mComp ((ownOf N scope scope.names).map (·.2)) (cI N sc (isTp tg) (fun a => (cX T G N n sc a).1) it) t (mIfs (ifs.map fun a => (cX T G N n (relS scope sc) a).2)) (cX T G N n (relS scope sc) elt).1, mBad)
        | none => (mBad, mBad)) else (mBad, mBad)
    | _ => (mBad, mBad)

/-! ### small facts about the text's forms -/
section
variable {env : PySem.Env} {e : Expr} {es : List Expr} {pos : Pos}
theorem star_cons (h : notStar e = true) : starEach (e :: es) env = (false, eval e env) :: starEach es env := by
  cases e <;> first | rfl | cases h
theorem star_none : ∀ {es : List Expr}, es.all notStar = true → (starEach es env).any (·.1) = false
  | [], _ => rfl
  | e :: es, h => by
    simp only [List.all_cons, Bool.and_eq_true] at h
    rw [star_cons h.1]
    simp only [List.any_cons, Bool.false_or]
    exact star_none h.2
theorem back_none (h : es.all notStar = true) : (backTo pos (starEach es env)).any (·.1) = false := by
  have := star_none (env := env) h
  unfold backTo
  rw [List.any_map]
  simpa [Function.comp_def] using this
theorem notset_fold (h : notSet e = true) : ∀ x, foldedSetIterable e env x = pure x := by
  intro x; cases e <;> first | rfl | cases h
theorem notset_marks {op : CmpOp} (h : notSet e = true) : behindInMarks op e = false := by
  cases e <;> first | rfl | cases h
theorem notsl_ix (h : notSl e = true) : PlainIx e := by
  intro o i; cases e <;> first | rfl | cases h
theorem plain_true (h : plainT e = true) : ∀ whole, isTrue e env whole = (do let v ← whole; standAt e.pos; holding [v] (truthy v)) := by
  intro whole
  cases e with
  | UnaryOp op a p => cases op <;> first | rfl | cases h
  | BoolOp _ _ _ => cases h
  | IfExp _ _ _ _ => cases h
  | Compare _ _ _ _ => cases h
  | _ => rfl
theorem notcomp_swap (h : notComp e = true) {t : Option Expr} {l : Nat} : swapsWith e t l env = pure false := by
  cases e <;> first | rfl | cases h
theorem notcomp_swaps (h : notComp e = true) {t : Expr} {l : Nat} : swapsWithSole [t] e l env = pure false := notcomp_swap h
theorem assign_cons {t : Expr} {ts : List Expr} (h : notStar t = true) : assignEach (t :: ts) env = (false, assign t env) :: assignEach ts env := by
  cases t <;> first | rfl | cases h
end

/-! ### the context -/
structure Good (T : Tab) (G : Nat → Fn) (xc : Str → Option Addr) (N : List Str) (k : Nat) (X : Cx) : Prop where
  hN : X.N = N
  nd : N.Nodup
  calm : X.calm = true
  room : Room k X.A
  defs : ∀ j d, T.defs[j]? = some d → ∃ f fd, X.mg d.name = some (.ref f) ∧ PySem.W.keepIn X.K (.ref f) = true ∧ Binds X.K fd d.ps [] ∧ FnOk X.prog X.w X.K X.mg X.base (L2.CX X.prog X.w) k f fd d.ps (spF X.K xc d.ps.length (G j))
  consts : ∀ x d, T.consts.lookup x = some d → ∃ u v, X.mg x = some u ∧ RelV v u ∧ ∀ F H, Rep X.K F H v d
  excs : ∀ x, x ∈ T.excs → ∃ C, xc x = some C ∧ X.mg x = some (.ref C) ∧ PySem.W.excIn X.K C [.type "ValueError", .type "Exception", .type "BaseException", .type "object"] "ValueError.__new__" = true ∧ PySem.W.keepIn X.K (.ref C) = true ∧ Raises X (.ref C)
  blt : ∀ x, (bltF x).isSome = true ∨ x = "isinstance" ∨ (x = "range" ∨ x = "zip" ∨ x = "set" ∨ x = "enumerate") ∨ (isiT x).isSome = true → X.mg x = none
theorem Good.blk {T : Tab} {G : Nat → Fn} {xc : Str → Option Addr} {N : List Str} {k : Nat} {X : Cx} (g : Good T G xc N k X) (s : Shared) (H : Hp) (scope : Scope) (cenv : PySem.Env) (fp : List Addr) : Good T G xc N k (X.blk s H scope cenv fp) :=
  ⟨g.hN, g.nd, g.calm, g.room, g.defs, g.consts, g.excs, g.blt⟩

theorem slot_ok {X : Cx} {N : List Str} {sc : Scope} {x : Str} {i : Nat} {pos : Pos} (hN : X.N = N) (hs : X.env.scope = sc) (h : slotOf N sc x = some i) : PE X (.Name x pos) (tVar i) := by
  have key : (sc.names.lookup x = some .local ∨ sc.names.lookup x = some .cell ∨ sc.names.lookup x = some .free) ∧ dunder x = false ∧ ixOf x N = some i := by
    unfold slotOf at h
    split at h
    · rename_i e; split at h
      · cases h
      · rename_i d; exact ⟨.inl e, by simpa using d, h⟩
    · rename_i e; split at h
      · cases h
      · rename_i d; exact ⟨.inr (.inl e), by simpa using d, h⟩
    · rename_i e; split at h
      · cases h
      · rename_i d; exact ⟨.inr (.inr e), by simpa using d, h⟩
    · cases h
  obtain ⟨k1, k2, k3⟩ := key
  unfold dunder at k2
  simp only [Bool.or_eq_false_iff] at k2
  exact pe_var (by rw [hN]; exact ixOf_get k3) (by unfold Vis; rw [hs]; exact k1) k2.1.1 k2.1.2
theorem gl_ok {X : Cx} {sc : Scope} {x : Str} (hs : X.env.scope = sc) (h : isGl sc x = true) : Gl X x ∧ (x == ("__debug__" : Str)) = false ∧ x ≠ "__name__" := by
  unfold isGl at h
  rw [Bool.and_eq_true] at h
  obtain ⟨h1, h2⟩ := h
  unfold dunder at h2
  simp only [Bool.not_eq_true', Bool.or_eq_false_iff] at h2
  refine ⟨?_, h2.1.1, by simpa using h2.2⟩
  show X.env.scope.names.lookup x = some .globalImplicit
  rw [hs]
  split at h1
  · assumption
  · cases h1
theorem op_of {X : Cx} {q : Par} {W : WX} {N : List Str} {sc : Scope} {e : Expr} {m : M SV} (hN : X.N = N) (hs : X.env.scope = sc) (h : PE X e (SemE q W m)) : PE X e (SemO q W (opnd N sc e m)) := by
  unfold opnd
  split
  · split
    · rename_i i hi
      exact so_nm (slot_ok hN hs hi)
    · exact so_ex h
  · exact so_ex h
theorem ops_of {X : Cx} {q : Par} {W : WX} {N : List Str} {sc : Scope} {v : Expr → M SV} (hN : X.N = N) (hs : X.env.scope = sc) (h : ∀ e, PE X e (SemE q W (v e))) : ∀ {es : List Expr}, es.all notStar = true → PA X es (SemOs q W (es.map fun a => opnd N sc a (v a)))
  | [], _ => sos_nil
  | e :: es, hs2 => by
    simp only [List.all_cons, Bool.and_eq_true] at hs2
    exact sos_cons (op_of hN hs (h e)) (ops_of hN hs h hs2.2) (star_cons hs2.1)
theorem vs_of {X : Cx} {q : Par} {W : WX} {v : Expr → M SV} (h : ∀ e, PE X e (SemE q W (v e))) : ∀ {es : List Expr}, es.all notStar = true → PA X es (SemVs q W (es.map v))
  | [], _ => svs_nil
  | e :: es, hs2 => by
    simp only [List.all_cons, Bool.and_eq_true] at hs2
    exact svs_cons (h e) (vs_of h hs2.2) (star_cons hs2.1)
theorem vals_of {X : Cx} {W : WX} {v : Expr → M SV} {K : PySem.W.Frag} {xc : Str → Option Addr} (h : ∀ q : Par, q.K = K → q.xc = xc → ∀ e, PE X e (SemE q W (v e))) : ∀ {es : List Expr} {q : Par}, q.K = K → q.xc = xc → es.all notStar = true → PA X es (SemVals q W (es.map v))
  | [], _, _, _, _ => vals_nil
  | e :: es, q, hk, hx, hs2 => by
    simp only [List.all_cons, Bool.and_eq_true] at hs2
    exact vals_cons (h q hk hx e) (fun p => vals_of h (q := { q with pin := p }) hk hx hs2.2) (star_cons hs2.1)
theorem cmp_ok {X : Cx} (hu : X.A.units + 65 < cLine) {op : CmpOp} {f : BF} (h : cmpF op = some f) : ∃ r : R2, OpR X (compareOp op) r ∧ BOk X.K (r2 r) f := by
  cases op <;> cases h
  · exact ⟨_, OpR.or op_eq (op_eqD (by omega)), b_eq⟩
  · exact ⟨_, OpR.or op_ne (op_neD (by omega)), b_ne⟩
  · exact ⟨_, OpR.or (OpR.or op_lt op_lt_str) (op_ltT (by omega)), b_lt⟩
  · exact ⟨_, op_le, b_le⟩
  · exact ⟨_, op_gt, b_gt⟩
  · exact ⟨_, op_ge, b_ge⟩
  · exact ⟨_, OpR.or op_isN op_isBl, b_is⟩
  · exact ⟨_, OpR.or op_notN op_notBl, b_isnot⟩
  · exact ⟨_, OpR.or op_in_str (OpR.or op_in_seq (op_inD hu)), b_in⟩
  · exact ⟨_, OpR.or op_notin_str (OpR.or op_notIn_seq (op_notInD hu)), b_notin⟩
theorem pe_callS0 {X : Cx} {CX : CXT} {k : Nat} {f : Addr} {fd : FuncData} {ps : List Str} {sp : Sp} {E : L2.St → XK} {x : Str} {p pos : Pos} {t : TA} (F : FnOk X.prog X.w X.K X.mg X.base CX k f fd ps sp) (hr : Room k X.A) (hg : Gl X x) (hm : X.mg x = some (.ref f)) (hk : PySem.W.keepIn X.K (.ref f) = true) (hb : Binds X.K fd ps []) (hx : ∀ σ, PassesAt CX X σ (E σ))
    (ha : PA X [] t) (hdb : (x == ("__debug__" : Str)) = false) (h0 : ∀ σ H Q, t σ H Q → Q [] H) : PE X (.Call (.Name x p) [] [] pos) (tCallS sp E t) := by
  refine ⟨fun pins s σ H Q I h => ?_⟩
  refine wpAny_Call_Name_kw (ld_glob I hg hm ?_ hdb)
  exact PySem.W.callWith_K0 I.kIn hk (run_fnS (us := []) F hr hb (hx σ) I .nil (h0 σ H _ h))
theorem locOf_ok {X : Cx} {N : List Str} {sc : Scope} {x : Str} {i : Nat} (hN : X.N = N) (hs : X.env.scope = sc) (h : locOf N sc x = some i) : X.N[i]? = some x ∧ Loc X.env.scope x := by
  unfold locOf at h
  split at h
  · rename_i e; split at h
    · cases h
    · exact ⟨by rw [hN]; exact ixOf_get h, .inl (by rw [hs]; exact e)⟩
  · rename_i e; split at h
    · cases h
    · exact ⟨by rw [hN]; exact ixOf_get h, .inr (by rw [hs]; exact e)⟩
  · cases h
/-- targets; fn: of a def all names' cells are its own, of a block those of its own names -/
theorem tgt_pg {X : Cx} {N : List Str} {sc : Scope} (nd : X.N.Nodup) (hc : X.calm = true) (hl : ∀ x i, locOf N sc x = some i → X.N[i]? = some x ∧ Loc X.env.scope x ∧ (X.fn x = true ∨ X.env.scope.names.lookup x = some .local)) :
    ∀ (n : Nat) (e : Expr) (t : Tgt), cTgt N sc n e = some t → PG X e (gTgt X.K t) := by
  intro n
  induction n with
  | zero => intro e t h; cases h
  | succ n ih =>
    intro e t h
    cases e with
    | Name x p =>
      unfold cTgt at h
      cases hlo : locOf N sc x with
      | none => simp only [hlo] at h; cases h
      | some i =>
        simp only [hlo] at h; cases h
        obtain ⟨h1, h2, h3⟩ := hl x i hlo
        have : gTgt X.K (.nm i) = gName i := by simp [gTgt]
        rw [this]
        exact pg_name nd h1 h2 h3
    | Tuple es k p =>
      unfold cTgt at h
      split at h
      case isFalse => cases h
      rename_i hst
      cases hm : es.mapM (cTgt N sc n) with
      | none => simp only [hm] at h; cases h
      | some ts =>
        simp only [hm] at h; cases h
        have : gTgt X.K (.tp ts) = gTup X.K ts.length (gTgts X.K ts) := by simp [gTgt]
        rw [this]
        have gen : ∀ (es : List Expr) (ts : List Tgt), es.all notStar = true → es.mapM (cTgt N sc n) = some ts → PGs X es (gTgts X.K ts) ∧ (assignEach es X.env).length = ts.length ∧ (assignEach es X.env).findIdx? (·.1) = none := by
          intro es
          induction es with
          | nil =>
            intro ts _ h
            simp only [List.mapM_nil] at h
            cases h
            have : gTgts X.K [] = gNil := by simp [gTgts]
            rw [this]
            exact ⟨pgs_nil, rfl, rfl⟩
          | cons e es ihl =>
            intro ts hs2 h
            simp only [List.all_cons, Bool.and_eq_true] at hs2
            rw [List.mapM_cons] at h
            cases h1 : cTgt N sc n e with
            | none => rw [h1] at h; cases h
            | some t1 =>
              rw [h1] at h
              cases h2 : es.mapM (cTgt N sc n) with
              | none => rw [h2] at h; cases h
              | some tr =>
                rw [h2] at h
                cases h
                obtain ⟨a1, a2, a3⟩ := ihl tr hs2.2 h2
                have : gTgts X.K (t1 :: tr) = gCons (gTgt X.K t1) (gTgts X.K tr) := by simp [gTgts]
                rw [this]
                have ac := assign_cons (env := X.env) (t := e) (ts := es) hs2.1
                refine ⟨pgs_cons (ih e t1 h1) a1 (by rw [ac]; rfl), by rw [ac]; simp [a2], by rw [ac]; simp [List.findIdx?_cons, a3]⟩
        obtain ⟨a1, a2, a3⟩ := gen es ts hst hm
        exact pg_tup hc a1 a2 a3
    | _ => unfold cTgt at h; cases h
end Ev

/-! The expressions are what the text does. -/
namespace Ev
open PySem PySem.Spec PyProof.Rows L2

/-- the names that a block or a def may store -/
def FnOf (X : Cx) : Prop := ∀ x, Loc X.env.scope x → X.fn x = true ∨ X.env.scope.names.lookup x = some .local
theorem paired_map {α β : Type} {P : α → β → Prop} {f : α → β} (h : ∀ a, P a (f a)) : ∀ (l : List α), Paired P l (l.map f)
  | [] => .nil
  | a :: l => .cons (h a) (paired_map h l)
section
variable {T : Tab} {G : Nat → Fn} {xc : Str → Option Addr} {N : List Str} {k : Nat} {X : Cx} {q : Par} {W : WX} {sc : Scope}
theorem bad2 {e : Expr} : PE X e (SemE q W (mBad, (mBad : M Bool)).1) ∧ PT X e (SemT q W ((mBad : M SV), (mBad : M Bool)).2) := ⟨se_bad, st_bad⟩
theorem ci_ok (gd : Good T G xc N k X) (hs : X.env.scope = sc) (hK : q.K = X.K) {v : Expr → M SV} (h : ∀ e, PE X e (SemE q W (v e))) (tg it : Expr) : PI X tg it (SemI q W (cI N sc (isTp tg) v it)) := by
  have dflt : PI X tg it (SemI q W (mSeqIt (v it))) := si_seq hK.symm (h it)
  have bad : PI X tg it (SemI q W mBad) := ⟨fun _ _ _ _ _ _ w => by obtain ⟨_, _, _, _, z⟩ := w; exact z.elim⟩
  unfold cI
  split
  · rename_i f p a pos
    split
    · rename_i hf
      subst hf
      split
      · rename_i hg
        obtain ⟨g1, g2⟩ := hg
        have hst : [a].all notStar = true := by simp [g2]
        exact si_rng1 (gl_ok hs g1).1 (gd.blt _ (.inr (.inr (.inl (.inl rfl))))) (ops_of gd.hN hs h hst) (by rw [star_cons g2]; rfl)
      · exact bad
    · split
      · rename_i hf
        subst hf
        split
        · rename_i hg
          obtain ⟨t1, g1, g2⟩ := hg
          obtain ⟨elts, kk, tp, rfl⟩ := isTp_ex t1
          have hst : [a].all notStar = true := by simp [g2]
          exact si_enum hK.symm (gl_ok hs g1).1 (gd.blt _ (.inr (.inr (.inl (.inr (.inr (.inr rfl))))))) (vs_of h hst) (star_cons g2)
        · exact bad
      · exact dflt
  · rename_i f p a b pos
    split
    · rename_i hf
      subst hf
      split
      · rename_i hg
        obtain ⟨g1, g2, g3⟩ := hg
        have hst : [a, b].all notStar = true := by simp [g2, g3]
        exact si_rng2 (gl_ok hs g1).1 (gd.blt _ (.inr (.inr (.inl (.inl rfl))))) (ops_of gd.hN hs h hst) (by rw [star_cons g2, star_cons g3]; rfl) (by rw [star_cons g3]; rfl)
      · exact bad
    · split
      · rename_i hf
        subst hf
        split
        · rename_i hg
          obtain ⟨t1, g1, g2, g3⟩ := hg
          obtain ⟨elts, kk, tp, rfl⟩ := isTp_ex t1
          have hst : [a, b].all notStar = true := by simp [g2, g3]
          exact si_zip hK.symm (gl_ok hs g1).1 (gd.blt _ (.inr (.inr (.inl (.inr (.inl rfl)))))) (vs_of h hst) (star_cons g2) (back_none (by simp [g3]))
        · exact bad
      · exact dflt
  · exact dflt
theorem call_ok (gd : Good T G xc N k X) (hs : X.env.scope = sc) (tk : Takes X W) (hK : q.K = X.K) (hx : q.xc = xc) {v : Expr → M SV} (h : ∀ e, PE X e (SemE q W (v e))) (f : Str) (args : List Expr) (p pos : Pos) : PE X (.Call (.Name f p) args [] pos) (SemE q W (cCall T G N sc v f args)) := by
  unfold cCall
  split
  case isFalse => exact se_bad
  rename_i hg
  obtain ⟨g1, g2⟩ := hg
  obtain ⟨gl, gdb, gn⟩ := gl_ok hs g1
  split
  · rename_i j hj
    split
    · rename_i d hd
      obtain ⟨d', hd', hnm⟩ := defOf_get hj
      rw [hd] at hd'; cases hd'
      split
      · rename_i hl
        obtain ⟨fa, fd, m1, m2, m3, m4⟩ := gd.defs j d hd
        rw [hnm] at m1
        have m4' : FnOk X.prog X.w X.K X.mg X.base (L2.CX X.prog X.w) k fa fd d.ps (spF q.K q.xc d.ps.length (G j)) := by rw [hK, hx]; exact m4
        refine se_call (np := d.ps.length) (by rw [List.length_map]; exact hl) ?_
        cases args with
        | nil => exact pe_callS0 m4' gd.room gl m1 m2 m3 (fun σ => passAt tk σ) (vs_of h g2) gdb fun σ H Q ⟨g, e, c, rel, z⟩ => z [] g H rel (Ext.refl _ _) .nil
        | cons a as =>
          have g2' : notStar a = true ∧ as.all notStar = true := by simpa [List.all_cons, Bool.and_eq_true] using g2
          exact pe_callS m4' gd.room gl m1 m2 m3 (fun σ => passAt tk σ) (vs_of h g2) gdb (star_cons g2'.1) (back_none g2'.2)
      · exact se_bad
    · exact se_bad
  · split
    · rename_i hf
      subst hf
      split
      · rename_i a x p2
        split
        · rename_i ty hty
          split
          · rename_i hgx
            have g2' : notStar a = true := by simp only [List.all_cons, Bool.and_eq_true] at g2; exact g2.1
            exact se_isi hK.symm gl (gd.blt _ (.inr (.inl rfl))) hty (gl_ok hs hgx.1).1 (gd.blt _ (.inr (.inr (.inr (by rw [hty]; rfl))))) (op_of gd.hN hs (h a)) (star_cons g2') rfl
          · exact se_bad
        · exact se_bad
      · exact se_bad
    · split
      · rename_i g ty id hb
        split
        · exact se_bad
        · rename_i hne
          obtain ⟨b1, b2, b3, r, b4, b5⟩ := blt_ok (X := X) gd.calm (by have := gd.room.un; omega) hb
          have mg : X.mg f = none := gd.blt _ (.inl (by rw [hb]; rfl))
          have b5' : BOk q.K r g := by rw [hK]; exact b5
          cases args with
          | nil => exact absurd rfl hne
          | cons a as =>
            have g2' : notStar a = true ∧ as.all notStar = true := by simpa [List.all_cons, Bool.and_eq_true] using g2
            refine se_args b5' ?_
            cases ty with
            | true => exact pe_callTy b4 gl mg b1 (ops_of gd.hN hs h g2) b2 b3 (star_cons g2'.1) (back_none g2'.2)
            | false => exact pe_callB b4 gl mg b1 (ops_of gd.hN hs h g2) b2 b3 (star_cons g2'.1) (back_none g2'.2)
      · exact se_bad
theorem rg_ok (gd : Good T G xc N k X) (hs : X.env.scope = sc) (hK : q.K = X.K) {v : Expr → M SV} (h : ∀ e, PE X e (SemE q W (v e))) {other : M SV} (f : Str) (args : List Expr) (p pos : Pos) (ho : PE X (.Call (.Name f p) args [] pos) (SemE q W other)) : PE X (.Call (.Name f p) args [] pos) (SemE q W (cRg N sc v f args other)) := by
  unfold cRg
  split
  · rename_i g gp a rp
    split
    · rename_i hc
      obtain ⟨e1, h1, h2, h3⟩ := hc
      subst e1
      split
      · rename_i e2
        subst e2
        exact se_sortSet hK.symm gd.calm (gl_ok hs h1).1 (gd.blt _ (.inl (by decide))) (gl_ok hs h2).1 (gd.blt _ (.inr (.inr (.inl (.inr (.inr (.inl rfl))))))) (op_of gd.hN hs (h a)) (star_cons h3)
      · split
        · rename_i e2
          subst e2
          exact se_lenSet hK.symm gd.calm (gl_ok hs h1).1 (gd.blt _ (.inl (by decide))) (gl_ok hs h2).1 (gd.blt _ (.inr (.inr (.inl (.inr (.inr (.inl rfl))))))) (op_of gd.hN hs (h a)) (star_cons h3)
        · exact ho
    split
    · rename_i hc
      obtain ⟨e1, h1, h2, h3⟩ := hc
      subst e1
      split
      · rename_i e2
        subst e2
        exact se_rgl1 gd.calm (gl_ok hs h1).1 (gd.blt _ (.inl (by decide))) (gl_ok hs h2).1 (gd.blt _ (.inr (.inr (.inl (.inl rfl))))) (op_of gd.hN hs (h a)) (star_cons h3)
      · split
        · rename_i e2
          subst e2
          exact se_rgt1 gd.calm (gl_ok hs h1).1 (gd.blt _ (.inl (by decide))) (gl_ok hs h2).1 (gd.blt _ (.inr (.inr (.inl (.inl rfl))))) (op_of gd.hN hs (h a)) (star_cons h3)
        · exact ho
    · exact ho
  · rename_i g gp a b rp
    split
    · rename_i hc
      obtain ⟨e1, h1, h2, h3, h4⟩ := hc
      subst e1
      split
      · rename_i e2
        subst e2
        exact se_rgl2 gd.calm (gl_ok hs h1).1 (gd.blt _ (.inl (by decide))) (gl_ok hs h2).1 (gd.blt _ (.inr (.inr (.inl (.inl rfl))))) (op_of gd.hN hs (h a)) (op_of gd.hN hs (h b)) (star_cons h3) (star_cons h4) (back_none (es := [b]) (by simp [h4]))
      · split
        · rename_i e2
          subst e2
          exact se_rgt2 gd.calm (gl_ok hs h1).1 (gd.blt _ (.inl (by decide))) (gl_ok hs h2).1 (gd.blt _ (.inr (.inr (.inl (.inl rfl))))) (op_of gd.hN hs (h a)) (op_of gd.hN hs (h b)) (star_cons h3) (star_cons h4) (back_none (es := [b]) (by simp [h4]))
        · exact ho
    · exact ho
  · exact ho
theorem meths_ok (gd : Good T G xc N k X) (hs : X.env.scope = sc) (hK : q.K = X.K) {v : Expr → M SV} (h : ∀ e, PE X e (SemE q W (v e))) (x m : Str) (args : List Expr) (p apos cpos : Pos) : PE X (.Call (.Attribute (.Name x p) m apos) args [] cpos) (SemE q W (cMeth N sc v x m args apos cpos)) := by
  unfold cMeth
  split
  case isFalse => exact se_bad
  rename_i hg
  obtain ⟨g1, g2, g3⟩ := hg
  split
  · rename_i j hj
    split
    · rename_i f ty hm
      obtain ⟨T, id, r, m1, m2, m3, m4, m5, m6⟩ := meth_ok (X := X) hm
      rw [← hK] at m5 m6
      have ho := slot_ok (pos := p) gd.hN hs hj
      cases args with
      | nil => exact se_meth0 m5 m6 (by rw [hK]; exact pe_bm0 m1 m2 m3 m4 ho rfl g3)
      | cons a as =>
        have g1' : notStar a = true ∧ as.all notStar = true := by simpa [List.all_cons, Bool.and_eq_true] using g1
        have b1 : (backTo cpos (starEach (a :: as) X.env)).all (fun x => !x.1) = true := by
          have := back_none (env := X.env) (pos := cpos) g1
          rw [List.any_eq_false] at this
          rw [List.all_eq_true]
          intro y hy
          simpa using this y hy
        have b2 : decide ((a :: as).length + ([] : List Keyword).length + (if ([] : List Keyword).isEmpty then 0 else 1) < 30) = true := by
          rw [decide_eq_true_iff]
          simp only [List.length_nil, List.isEmpty_nil, if_true]
          omega
        have hfew : ((backTo cpos (starEach (a :: as) X.env)).all (fun x => !x.1) && (backToKw cpos (keywordEach [] X.env)).all (fun x => x.1.isSome) && decide ((a :: as).length + ([] : List Keyword).length + (if ([] : List Keyword).isEmpty then 0 else 1) < 30)) = true := by
          rw [b1, b2]; rfl
        exact se_meth m5 m6 (by rw [hK]; exact pe_bm m1 m2 m3 m4 ho (vs_of h g1) rfl hfew g3 (star_cons g1'.1) (back_none g1'.2))
    · exact se_bad
  · exact se_bad
theorem slR_or {X : Cx} : SlR X (fun x lo hi H Q => rSlL X.K x lo hi H Q ∨ rSlA X.K x lo hi H Q ∨ rSlS x lo hi H Q) := SlR.or sl_list (SlR.or sl_tupA sl_str)
theorem ifs_ok {ifs : List Expr} {t : Expr → M Bool} (hl : ifs.length ≤ 1) (h : ∀ e, PT X e (SemT q W (t e))) : PTs X ifs (SemT q W (mIfs (ifs.map t))) := by
  match ifs, hl with
  | [], _ => exact ⟨fun pins s σ H Q I ⟨g, e, c, rel, z⟩ => pts_nil.run pins s σ H Q I (z true g H rel (Ext.refl _ _) rfl)⟩
  | [c], _ => exact pts_one (h c)
  | _ :: _ :: _, hl => simp at hl
end
abbrev IH (T : Tab) (G : Nat → Fn) (xc : Str → Option Addr) (N : List Str) (k n : Nat) : Prop := ∀ (X : Cx) (sc : Scope) (q : Par) (W : WX) (e : Expr), Good T G xc N k X → X.env.scope = sc → Takes X W → q.K = X.K → q.xc = xc →
    PE X e (SemE q W (cX T G N n sc e).1) ∧ PT X e (SemT q W (cX T G N n sc e).2)
structure Parts (X : Cx) (q : Par) (W : WX) (T : Tab) (G : Nat → Fn) (N : List Str) (n : Nat) (sc scope : Scope) (elt tg itr : Expr) (ifs : List Expr) (t : Tgt) (tt : TT) (te : TE) : Prop where
  hi : PI X tg itr (SemI q W (cI N sc (isTp tg) (fun a => (cX T G N n sc a).1) itr))
  ok : BlkOk X.N X.env.scope scope (ownOf N scope scope.names)
  hg : ∀ (s : Shared) (H : Hp) (C : Addr) (cl : List (Str × Addr)) (fp : List Addr), PG (X.blk s H scope (compEnvC scope cl C X.env) fp) tg (gTgt X.K t)
  ht : ∀ (s : Shared) (H : Hp) (C : Addr) (cl : List (Str × Addr)) (fp : List Addr), PTs (X.blk s H scope (compEnvC scope cl C X.env) fp) ifs tt
  he : ∀ (s : Shared) (H : Hp) (C : Addr) (cl : List (Str × Addr)) (fp : List Addr), PE (X.blk s H scope (compEnvC scope cl C X.env) fp) elt te
  go : ∀ σ H Q, SemE q W (mComp ((ownOf N scope scope.names).map (·.2)) (cI N sc (isTp tg) (fun a => (cX T G N n sc a).1) itr) t (mIfs (ifs.map fun a => (cX T G N n (relS scope sc) a).2)) (cX T G N n (relS scope sc) elt).1) σ H Q →
    tLc (SemI q W (cI N sc (isTp tg) (fun a => (cX T G N n sc a).1) itr)) (gTgt X.K t) tt te ((ownOf N scope scope.names).map (·.2)) σ H Q
theorem comp_parts {T : Tab} {G : Nat → Fn} {xc : Str → Option Addr} {N : List Str} {k n : Nat} {X : Cx} {sc scope : Scope} {q : Par} {W : WX} {elt tg itr : Expr} {ifs : List Expr} {t : Tgt} (ih : IH T G xc N k n) (gd : Good T G xc N k X) (hs : X.env.scope = sc) (tk : Takes X W) (hK : q.K = X.K) (hx : q.xc = xc)
    (h1 : blkC N sc scope (ownOf N scope scope.names) = true) (h3 : ifs.length ≤ 1) (ht : cTgt N scope 5 tg = some t) : ∃ tt te, Parts X q W T G N n sc scope elt tg itr ifs t tt te := by
  have iv : ∀ e, PE X e (SemE q W (cX T G N n sc e).1) := fun e => (ih X sc q W e gd hs tk hK hx).1
  have hbk := blkOk_by h1
  have hbk' : BlkOk X.N X.env.scope scope (ownOf N scope scope.names) := by rw [gd.hN, hs]; exact hbk
  have gb := fun s H (C : Addr) (cl : List (Str × Addr)) fp => gd.blk s H scope (compEnvC scope cl C X.env) fp
  have hsb : ∀ (C : Addr) (cl : List (Str × Addr)), (compEnvC scope cl C X.env).scope = relS scope sc := fun C cl => by rw [← hs]; rfl
  let F : WX := fun _ _ _ _ => False
  refine ⟨fun σ H Q => ∃ q' : Par, q'.K = q.K ∧ q'.xc = q.xc ∧ SemT q' F (mIfs (ifs.map fun a => (cX T G N n (relS scope sc) a).2)) σ H Q, fun σ H Q => ∃ q' : Par, q'.K = q.K ∧ q'.xc = q.xc ∧ SemV q' F (cX T G N n (relS scope sc) elt).1 σ H Q,
    ci_ok gd hs hK iv tg itr, hbk', fun s H C cl fp => ?_, fun s H C cl fp => ⟨fun pins s' σ H' Q I w => ?_⟩, fun s H C cl fp => ⟨fun pins s' σ H' Q I w => ?_⟩, ?_⟩
  · refine tgt_pg (X := X.blk s H scope (compEnvC scope cl C X.env) fp) (N := N) (sc := scope) (by show X.N.Nodup; rw [gd.hN]; exact gd.nd) gd.calm (fun x i hl => ?_) 5 tg t ht
    have key : (scope.names.lookup x = some .local ∨ scope.names.lookup x = some .cell) ∧ ixOf x N = some i := by
      unfold locOf at hl
      split at hl
      · rename_i e; split at hl
        · cases hl
        · exact ⟨.inl e, hl⟩
      · rename_i e; split at hl
        · cases hl
        · exact ⟨.inr e, hl⟩
      · cases hl
    obtain ⟨k1, k2⟩ := key
    have keep : ∀ kd, kd ≠ NameKind.free → scope.names.lookup x = some kd → (compEnvC scope cl C X.env).scope.names.lookup x = some kd := fun kd hne e => by
      rw [hsb C cl]
      exact lookup_relS_keep hne e
    refine ⟨by show X.N[i]? = some x; rw [gd.hN]; exact ixOf_get k2, ?_, ?_⟩
    · rcases k1 with k1 | k1
      · exact .inl (keep _ (by decide) k1)
      · exact .inr (keep _ (by decide) k1)
    · rcases k1 with k1 | k1
      · exact .inr (keep _ (by decide) k1)
      · left
        show (scope.names.lookup x == some .cell) = true
        rw [k1]; rfl
  · obtain ⟨q', k1, k2, w⟩ := w
    have iv' := fun e => (ih (X.blk s H scope (compEnvC scope cl C X.env) fp) (relS scope sc) q' F e (gb s H C cl fp) (hsb C cl) takes0 (k1.trans hK) (k2.trans hx))
    exact (ifs_ok h3 fun e => (iv' e).2).run pins s' σ H' Q I w
  · obtain ⟨q', k1, k2, w⟩ := w
    have iv' := fun e => (ih (X.blk s H scope (compEnvC scope cl C X.env) fp) (relS scope sc) q' F e (gb s H C cl fp) (hsb C cl) takes0 (k1.trans hK) (k2.trans hx))
    exact (sv_of (iv' elt).1).run pins s' σ H' Q I w
  · intro σ H Q h
    rw [← hK]
    exact lc_of (fun q' k1 k2 σ H Q w => ⟨q', k1, k2, w⟩) (fun q' k1 k2 σ H Q w => ⟨q', k1, k2, w⟩) σ H Q h
theorem cX_lc {T : Tab} {G : Nat → Fn} {N : List Str} {n : Nat} {sc scope : Scope} {elt tg itr : Expr} {ifs : List Expr} {p : Pos} : cX T G N (n + 1) sc (.ListComp elt [⟨tg, itr, ifs, 0⟩] scope p) =
    if blkC N sc scope (ownOf N scope scope.names) = true ∧ notSet itr = true ∧ ifs.length ≤ 1 then (match cTgt N scope 5 tg with
        | some t => (mComp ((ownOf N scope scope.names).map (·.2)) (cI N sc (isTp tg) (fun a => (cX T G N n sc a).1) itr) t (mIfs (ifs.map fun a => (cX T G N n (relS scope sc) a).2)) (cX T G N n (relS scope sc) elt).1, mBad)
        | none => (mBad, mBad)) else (mBad, mBad) := by
  rfl
theorem cX_ok {T : Tab} {G : Nat → Fn} {xc : Str → Option Addr} {N : List Str} {k : Nat} : ∀ (n : Nat) (X : Cx) (sc : Scope) (q : Par) (W : WX) (e : Expr), Good T G xc N k X → X.env.scope = sc → Takes X W → q.K = X.K → q.xc = xc →
    PE X e (SemE q W (cX T G N n sc e).1) ∧ PT X e (SemT q W (cX T G N n sc e).2) := by
  intro n
  induction n with
  | zero => intro X sc q W e _ _ _ _ _; exact ⟨se_bad, st_bad⟩
  | succ n ih =>
    intro X sc q W e gd hs tk hK hx
    have iv : ∀ e, PE X e (SemE q W (cX T G N n sc e).1) := fun e => (ih X sc q W e gd hs tk hK hx).1
    have it : ∀ e, PT X e (SemT q W (cX T G N n sc e).2) := fun e => (ih X sc q W e gd hs tk hK hx).2
    have io : ∀ e, PE X e (SemO q W (opnd N sc e (cX T G N n sc e).1)) := fun e => op_of gd.hN hs (iv e)
    have hu : X.A.units + 65 < cLine := by have := gd.room.un; omega
    unfold cX
    split
    · -- a name
      rename_i x p
      split
      · rename_i i hi
        have := se_var (q := q) (W := W) (slot_ok (pos := p) gd.hN hs hi)
        exact ⟨this, st_val this (plain_true rfl)⟩
      · split
        · rename_i hg
          obtain ⟨g1, g2, g3⟩ := gl_ok hs hg
          split
          · rename_i d hd
            obtain ⟨u, v, c1, c2, c3⟩ := gd.consts x d hd
            have : PE X (.Name x p) (SemE q W (mC d)) := se_c (pe_glob g1 c1 c2 g2) (by rw [hK]; exact c3)
            exact ⟨this, st_val this (plain_true rfl)⟩
          · exact ⟨se_bad, st_bad⟩
        · exact ⟨se_bad, st_bad⟩
    · -- a constant
      rename_i c j p
      split
      · exact ⟨se_c pe_non fun _ _ => .non, st_bad⟩
      · have := se_c (X := X) (q := q) (W := W) (pe_bl (b := by assumption) (j := j) (pos := p)) fun _ _ => .bl _
        exact ⟨this, st_val this (plain_true rfl)⟩
      · exact ⟨se_c pe_int fun _ _ => .int _, st_bad⟩
      · exact ⟨se_c pe_str fun _ _ => .str _, st_bad⟩
      · exact ⟨se_bad, st_bad⟩
    · -- a op b
      split
      · rename_i f hf
        obtain ⟨r, h1, h2⟩ := bin_ok (X := X) hf
        exact ⟨se_op2 (by rw [hK]; exact h2) (pe_op h1 (io _) (io _)), st_bad⟩
      · exact ⟨se_bad, st_bad⟩
    · exact ⟨se_un b_neg (pe_un un_neg (io _)), st_bad⟩
    · exact ⟨se_not (iv _), st_not (it _)⟩
    · exact ⟨se_and (paired_map (P := fun e t => PE X e (SemE q W t)) iv _), (sw_and (paired_map (P := fun e t => PT X e (SemT q W t)) it _)).pt⟩
    · exact ⟨se_or (paired_map (P := fun e t => PE X e (SemE q W t)) iv _), (sw_or (paired_map (P := fun e t => PT X e (SemT q W t)) it _)).pt⟩
    · -- a comparison
      split
      · rename_i hb
        split
        · rename_i f hf
          obtain ⟨r, h1, h2⟩ := cmp_ok hu hf
          have h2' : BOk q.K (r2 r) f := by rw [hK]; exact h2
          exact ⟨se_op2 h2' (pe_cmpR h1 (io _) (io _) (notset_marks hb)), st_op2 h2' h1 (io _) (io _) (notset_marks hb)⟩
        · exact ⟨se_bad, st_bad⟩
      · exact ⟨se_bad, st_bad⟩
    · -- a chain
      split
      · rename_i hb
        split
        · rename_i f f' hf hf'
          obtain ⟨r, h1, h2⟩ := cmp_ok hu hf
          obtain ⟨r', h1', h2'⟩ := cmp_ok hu hf'
          have g2 : BOk q.K (r2 r) f := by rw [hK]; exact h2
          have g2' : BOk q.K (r2 r') f' := by rw [hK]; exact h2'
          exact ⟨se_chain g2 g2' h1 h1' (io _) (io _) (io _) (notset_marks hb), st_chain g2 g2' h1 h1' (io _) (io _) (io _) (notset_marks hb)⟩
        · exact ⟨se_bad, st_bad⟩
      · exact ⟨se_bad, st_bad⟩
    · exact ⟨se_if (it _) (iv _) (iv _), st_bad⟩
    · -- a call
      have := call_ok (q := q) (W := W) gd hs tk hK hx iv
      exact ⟨rg_ok gd hs hK iv _ _ _ _ (this _ _ _ _), st_val (rg_ok gd hs hK iv _ _ _ _ (this _ _ _ _)) (plain_true rfl)⟩
    · exact ⟨meths_ok gd hs hK iv _ _ _ _ _ _, st_bad⟩
    · -- turned round
      split
      · rename_i hb
        obtain ⟨k, p1, p2, e⟩ := neg1 hb
        subst e
        exact ⟨se_un (r := rRevL X.K) (by rw [hK]; exact b_rev) (pe_rev (io _)), st_bad⟩
      · exact ⟨se_bad, st_bad⟩
    · -- a slice
      rename_i a lo hi p2 pos
      refine ⟨se_sl (by rw [hK]; exact s_sl) slR_or (io a) ?_ ?_, st_bad⟩
      · cases lo with
        | none => exact po_no
        | some x => exact po_of (io x)
      · cases hi with
        | none => exact po_no
        | some x => exact po_of (io x)
    · -- a subscript
      split
      · rename_i hb
        have bk : BOk q.K (r2 (rIx X.K)) fIx := by rw [hK]; exact b_ix
        exact ⟨se_op2 bk (pe_ix ix_seq (io _) (io _) (notsl_ix hb)), st_val (se_op2 bk (pe_ix ix_seq (io _) (io _) (notsl_ix hb))) (plain_true rfl)⟩
      · exact ⟨se_bad, st_bad⟩
    · split
      · rename_i hst
        exact ⟨se_tup (vs_of iv hst), st_bad⟩
      · exact ⟨se_bad, st_bad⟩
    · split
      · rename_i hst
        exact ⟨se_lst (vs_of iv hst), st_bad⟩
      · exact ⟨se_bad, st_bad⟩
    · exact ⟨se_newD, st_bad⟩
    · -- a comprehension
      rename_i elt tg itr ifs scope p
      split
      · rename_i hg
        obtain ⟨h1, h2, h3⟩ := hg
        split
        · rename_i t ht
          refine ⟨?_, st_bad⟩
          obtain ⟨tt, te, P⟩ := comp_parts (elt := elt) (itr := itr) ih gd hs tk hK hx h1 h3 ht
          exact PE.imp (pe_lc (own := ownOf N scope scope.names) gd.calm (by rw [gd.hN]; exact gd.nd) P.hi P.ok P.hg P.ht P.he (notset_fold h2)) P.go
        · exact ⟨se_bad, st_bad⟩
      · exact ⟨se_bad, st_bad⟩
    · exact ⟨se_bad, st_bad⟩
end Ev

/-! The statements, the defs. -/
namespace Ev
open PySem PySem.Spec PyProof.Rows L2

def sList (f : Stmt → M Fl) : List Stmt → M Fl
  | [] => mNx
  | [s] => f s
  | s :: ss => mSeq (f s) (sList f ss)
def isKey (k : Int) : D → Bool
  | .int i => decide (i = k)
  | _ => false
/-- in its place, or at the end -/
def putD (kvs : List (D × D)) (k : Int) (v : D) : List (D × D) :=
  if (kvs.any fun p => isKey k p.1) = true then kvs.map (fun p => if isKey k p.1 = true then (p.1, v) else p) else kvs ++ [(.int k, v)]
def putL : UF
  | .list ds, .int k, d => match ixN ds.length k with
    | some n => some (.list (ds.set n d))
    | none => none
  | .dict kvs, .int k, d => if kvs.length < 16777216 then some (.dict (putD kvs k d)) else none
  | _, _, _ => none
def fAug : BF := fun ds => match ds with
  | [.int a, .int b] => some (.val (.int (a + b)))
  | _ => none
def mAug (j : Nat) (o : Opnd) : M Fl := fun e c => match e[j]? with
  | some (some (.own _)) => mAugL j o e c
  | _ => mAugV j fAug o e c
def namesOf : List Expr → Option (List (Str × Pos))
  | [] => some []
  | .Name x p :: r => match namesOf r with
    | some l => some ((x, p) :: l)
    | none => none
  | _ :: _ => none
def slotsOf (N : List Str) (sc : Scope) : List Expr → Option (List Nat)
  | [] => some []
  | .Name x _ :: r => match locOf N sc x, slotsOf N sc r with
    | some i, some l => some (i :: l)
    | _, _ => none
  | _ :: _ => none
def isLocal (sc : Scope) (x : Str) : Bool := match sc.names.lookup x with
  | some .local => true
  | _ => false
/-- the stores go by the values themselves (1), or by a tuple (2) -/
def swapD (sc : Scope) (ts : List Expr) (vs : List Expr) : Nat := match ts, vs with
  | [.Name x px, .Name y py], [a, b] => if isLocal sc x = true ∧ isLocal sc y = true ∧ (py.line == px.line) = true ∧ x ≠ y then (if [a, b].all (foldedForSure 8) = true then 2 else if [a, b].all (constantsAlone 8) = true then 0 else 1) else if isLocal sc x = false ∨ isLocal sc y = false then 2 else 0
  | [.Name x px, .Name y py, .Name z pz], [a, b, c] => if isLocal sc x = true ∧ isLocal sc y = true ∧ isLocal sc z = true ∧ (py.line == px.line) = true ∧ (pz.line == px.line) = true ∧ x ≠ y ∧ x ≠ z ∧ y ≠ z then (if [a, b, c].all (foldedForSure 8) = true then 2 else if [a, b, c].all (constantsAlone 8) = true then 0 else 1)
    else if isLocal sc x = false ∨ isLocal sc y = false ∨ isLocal sc z = false then 2 else 0
  | _, _ => if ts.length ≥ 4 then 2 else 0
def isTup : Expr → Bool
  | .Tuple .. => true
  | _ => false
def cAsg (N : List Str) (sc : Scope) (v : Expr → M SV) (tg e : Expr) : M Fl := match tg with
  | .Name x _ => match locOf N sc x with
    | some i => if x = "cup" then (if notComp e = true then mSetCup i (v e) else mBad) else if notComp e = true then mSet i (v e) else (match e with
      | .ListComp _ [⟨_, _, _, 0⟩] _ _ => mSet i (v e)
      | _ => mBad)
    | none => mBad
  | .Tuple ts _ _ => match e with
    | .Tuple vs _ _ => if vs.all notStar = true ∧ ts.length = vs.length ∧ vs.length ≤ 1000 then (match slotsOf N sc ts with
      | some is => if swapD sc ts vs = 0 then mBad else mPar is (vs.map v)
      | none => mBad) else mBad
    | _ => if notComp e = true then (match cTgt N sc 5 tg with
      | some t => mAsgT t (v e)
      | none => mBad) else mBad
  | .Subscript (.Name x _) i _ => match slotOf N sc x with
    | some j => if notComp e = true ∧ notSl i = true then mStore j putL (v e) (opnd N sc i (v i)) else mBad
    | none => mBad
  | _ => mBad
def cS (T : Tab) (G : Nat → Fn) (N : List Str) (sc : Scope) : Nat → Stmt → M Fl
  | 0, _ => mBad
  | n + 1, st =>
    match st with
    | .Expr e _ => if notComp e = true then mDrop (cX T G N 40 sc e).1 else mBad
    | .Pass _ => mNx
    | .Return none _ => mRet (mC .none)
    | .Return (some e) _ => match e with
      | .Name x _ => match slotOf N sc x with
        | some i => mRet (mMove i)
        | none => mRet (cX T G N 40 sc e).1
      | _ => mRet (cX T G N 40 sc e).1
    | .Assign [tg] e _ => cAsg N sc (fun a => (cX T G N 40 sc a).1) tg e
    | .AugAssign (.Name x _) .Add e _ => match locOf N sc x with
      | some j => mAug j (opnd N sc e (cX T G N 40 sc e).1)
      | none => mBad
    | .If c a b _ => mIf (cX T G N 40 sc c).2 (sList (cS T G N sc n) a) (sList (cS T G N sc n) b)
    | .While c b [] _ => mWhile (cX T G N 40 sc c).2 (sList (cS T G N sc n) b) 1606938044258990275541962092341162602522202993782792835301376
    | .For tg it b [] _ => match cTgt N sc 5 tg with
      | some t => if notSet it = true then mFor (cI N sc (isTp tg) (fun a => (cX T G N 40 sc a).1) it) t (sList (cS T G N sc n) b) else mBad
      | none => mBad
    | .Raise (some (.Call (.Name x _) [.Constant (.str _) _ _] [] _)) none _ => if isGl sc x = true ∧ T.excs.contains x = true then mRaise x else mBad
    | _ => mBad

section
variable {X : Cx} {q : Par} {W : WX} {sc : Scope}
theorem PIp.or {op : Operator} {t t' : TIp} (h : PIp X op t) (h' : PIp X op t') : PIp X op (fun x y H Q => t x y H Q ∨ t' x y H Q) := fun pins s σ H x y v u Q I r1 r2 w => by
  rcases w with w | w
  · exact h pins s σ H x y v u Q I r1 r2 w
  · exact h' pins s σ H x y v u Q I r1 r2 w
def rExtR : TIp := fun x y H Q => ∃ l b xs zs, x = .ref l ∧ y = .ref b ∧ H l = some (.lst xs) ∧ Rd H b (.lst zs) ∧ xs.length + zs.length ≤ sizeLine ∧ Q (.ref l) (upd H l (.lst (xs ++ zs)))
theorem ip_ext : PIp X .Add rExtR := by
  intro pins s σ H x y v u Q I rx ry h
  obtain ⟨l, b, xs, zs, rfl, rfl, hH, hB, hz, q⟩ := h
  cases rx
  cases ry
  obtain ⟨z, its, n, r, hl, e⟩ := I.lstM hH
  obtain ⟨its2, n2, r2, hl2, e2⟩ := Inv.lstR I hB
  have hsz : its.toArray.size + its2.toArray.size ≤ sizeLine := by rw [List.size_toArray, List.size_toArray]; omega
  have hlong : ¬ (!its.toArray.isEmpty && Builtin.List.listTooLong (its.toArray.size + its2.toArray.size)) = true := by
    rw [notLongL hsz, Bool.and_false]
    exact Bool.false_ne_true
  refine iadd_road ⟨_, e, rfl⟩ ⟨_, e2, rfl⟩ (call_meets PySem.F.slot_list_iadd ⟨_, e, rfl⟩ PySem.F.entry_list_iadd (PySem.F.args_list_iadd_2 _ _)
    (AutoSeq1.list___iadd___list_list_0 l its.toArray n b its2.toArray n2 hlong (by rw [List.size_toArray]; omega) (by omega)) ⟨e, e2, ?_⟩)
  refine ⟨.ref l, _, I.lset (its' := its ++ its2) (t' := s.toks) hH e (by simp) (r.append r2) ?_, rfl, q⟩
  rw [List.length_append]
  omega
def tiAug : TIp := fun x y H Q => ipI (fun i j => i + j) x y H Q ∨ rExtR x y H Q
theorem ip_aug : PIp X .Add tiAug := PIp.or ip_add ip_ext
theorem b_aug {K : PySem.W.Frag} : BOk K (fun vs H Q => ∃ x y, vs = [x, y] ∧ tiAug x y H Q) fAug := fun F H vs ds sv Q ag h q => by
  unfold fAug at h
  split at h
  · obtain ⟨v, v', rfl, h1, h2⟩ := argl2 ag
    cases arg_int h1; cases arg_int h2; cases h
    exact ⟨_, _, rfl, .inl ⟨_, _, rfl, rfl, q _ _ (Same.refl _) (.int _)⟩⟩
  · cases h
theorem any_false {es : List Expr} (h : es.all notStar = true) (g : Expr → Bool) (hg : ∀ e, notStar e = true → g e = false) : es.any g = false := by
  rw [List.any_eq_false]
  intro e he
  rw [hg e (List.all_eq_true.mp h e he)]
  exact Bool.false_ne_true
theorem dedup2 {x y : Str} (hne : x ≠ y) : ([x, y] : List Str).eraseDups = [x, y] := by
  rw [List.eraseDups_cons]
  have : (List.filter (fun b => !b == x) [y]) = [y] := by simp [beq_eq_false_iff_ne.mpr (Ne.symm hne)]
  rw [this]; rfl
theorem dedup3 {x y z : Str} (h1 : x ≠ y) (h2 : x ≠ z) (h3 : y ≠ z) : ([x, y, z] : List Str).eraseDups = [x, y, z] := by
  rw [List.eraseDups_cons]
  have : (List.filter (fun b => !b == x) [y, z]) = [y, z] := by simp [beq_eq_false_iff_ne.mpr (Ne.symm h1), beq_eq_false_iff_ne.mpr (Ne.symm h2)]
  rw [this, dedup2 h3]
theorem blk_fn {env : PySem.Env} (hk : env.scope.kind = .function) : env.blockKind = .function := by unfold PySem.Env.blockKind; rw [hk]; rfl
section
variable {env : PySem.Env} {x y z : Str} {px py pz pt : Pos} {kt k2 : Nat} {p2 : Pos} {a b c : Expr}
theorem sw_pair (hk : env.scope.kind = .function) (hx : env.scope.names.lookup x = some .local) (hy : env.scope.names.lookup y = some .local) (hl : (py.line == px.line) = true) (hne : x ≠ y)
    (hst : [a, b].all notStar = true) (h1 : [a, b].all (foldedForSure 8) = false) (h2 : [a, b].all (constantsAlone 8) = false) : swappedStores [.Tuple [.Name x px, .Name y py] kt pt] (.Tuple [a, b] k2 p2) env = pure (some [x, y]) := by
  have kx : env.kindOf x = some .local := hx
  have ky : env.kindOf y = some .local := hy
  unfold swappedStores
  simp only [List.length_cons, List.length_nil, blk_fn hk, List.head?_cons, Option.map_some, Option.getD_some, Expr.pos, List.filterMap_cons, List.filterMap_nil, kx, ky, hl, h1, h2, dedup2 hne, beq_self_eq_true, Bool.and_true, Bool.true_and, if_true]
  rw [if_neg (by decide), if_neg (by rw [any_false hst _ fun e h => by cases e <;> first | rfl | cases h]; decide)]
  rfl
theorem sw_three (hk : env.scope.kind = .function) (hx : env.scope.names.lookup x = some .local) (hy : env.scope.names.lookup y = some .local) (hz : env.scope.names.lookup z = some .local) (hl : (py.line == px.line) = true) (hl2 : (pz.line == px.line) = true) (n1 : x ≠ y) (n2 : x ≠ z) (n3 : y ≠ z)
    (hst : [a, b, c].all notStar = true) (h1 : [a, b, c].all (foldedForSure 8) = false) (h2 : [a, b, c].all (constantsAlone 8) = false) : swappedStores [.Tuple [.Name x px, .Name y py, .Name z pz] kt pt] (.Tuple [a, b, c] k2 p2) env = pure (some [x, y, z]) := by
  have kx : env.kindOf x = some .local := hx
  have ky : env.kindOf y = some .local := hy
  have kz : env.kindOf z = some .local := hz
  unfold swappedStores
  simp only [List.length_cons, List.length_nil, blk_fn hk, List.head?_cons, Option.map_some, Option.getD_some, Expr.pos, List.filterMap_cons, List.filterMap_nil, kx, ky, kz, hl, hl2, h1, h2, dedup3 n1 n2 n3, beq_self_eq_true, Bool.and_true, Bool.true_and, if_true]
  rw [if_neg (by decide), if_neg (by rw [any_false hst _ fun e h => by cases e <;> first | rfl | cases h]; decide)]
  rfl
/-- all constants: by a tuple -/
theorem sw_const {ts vs : List Expr} (hk : env.scope.kind = .function) (hst : vs.all notStar = true) (h1 : vs.all (foldedForSure 8) = true) : swappedStores [.Tuple ts kt pt] (.Tuple vs k2 p2) env = pure none := by
  unfold swappedStores
  simp only [h1, if_true]
  split
  · rfl
  · split
    · rfl
    · split
      · rfl
      · rfl
theorem sw_cell2 {vs : List Expr} (h : env.kindOf x ≠ some .local ∨ env.kindOf y ≠ some .local) : swappedStores [.Tuple [.Name x px, .Name y py] kt pt] (.Tuple vs k2 p2) env = pure none := by
  unfold swappedStores
  simp only [List.length_cons, List.length_nil, List.head?_cons, Option.map_some, Option.getD_some, Expr.pos, List.filterMap_cons, List.filterMap_nil]
  split
  · rfl
  · split
    · rfl
    · rcases h with h | h
      · have : (env.kindOf x == some .local) = false := beq_eq_false_iff_ne.mpr h
        simp only [this, Bool.false_and, Bool.false_eq_true, if_false]
        by_cases c1 : (env.kindOf y == some NameKind.local && py.line == px.line) = true <;> simp only [c1, Bool.false_eq_true, if_false, if_true] <;> rfl
      · have : (env.kindOf y == some .local) = false := beq_eq_false_iff_ne.mpr h
        simp only [this, Bool.false_and, Bool.false_eq_true, if_false]
        by_cases c1 : (env.kindOf x == some NameKind.local && px.line == px.line) = true <;> simp only [c1, Bool.false_eq_true, if_false, if_true] <;> rfl
theorem sw_cell3 {vs : List Expr} (h : env.kindOf x ≠ some .local ∨ env.kindOf y ≠ some .local ∨ env.kindOf z ≠ some .local) : swappedStores [.Tuple [.Name x px, .Name y py, .Name z pz] kt pt] (.Tuple vs k2 p2) env = pure none := by
  unfold swappedStores
  simp only [List.length_cons, List.length_nil, List.head?_cons, Option.map_some, Option.getD_some, Expr.pos, List.filterMap_cons, List.filterMap_nil]
  split
  · rfl
  · split
    · rfl
    · rcases h with h | h | h
      · have : (env.kindOf x == some .local) = false := beq_eq_false_iff_ne.mpr h
        simp only [this, Bool.false_and, Bool.false_eq_true, if_false]
        by_cases c1 : (env.kindOf y == some NameKind.local && py.line == px.line) = true <;> by_cases c2 : (env.kindOf z == some NameKind.local && pz.line == px.line) = true <;> simp only [c1, c2, Bool.false_eq_true, if_false, if_true] <;> rfl
      · have : (env.kindOf y == some .local) = false := beq_eq_false_iff_ne.mpr h
        simp only [this, Bool.false_and, Bool.false_eq_true, if_false]
        by_cases c1 : (env.kindOf x == some NameKind.local && px.line == px.line) = true <;> by_cases c2 : (env.kindOf z == some NameKind.local && pz.line == px.line) = true <;> simp only [c1, c2, Bool.false_eq_true, if_false, if_true] <;> rfl
      · have : (env.kindOf z == some .local) = false := beq_eq_false_iff_ne.mpr h
        simp only [this, Bool.false_and, Bool.false_eq_true, if_false]
        by_cases c1 : (env.kindOf x == some NameKind.local && px.line == px.line) = true <;> by_cases c2 : (env.kindOf y == some NameKind.local && py.line == px.line) = true <;> simp only [c1, c2, Bool.false_eq_true, if_false, if_true] <;> rfl
theorem sw_many {ts vs : List Expr} (h : ts.length ≥ 4) : swappedStores [.Tuple ts kt pt] (.Tuple vs k2 p2) env = pure none := by
  unfold swappedStores
  have : (!(ts.length == 2 || ts.length == 3)) = true := by
    have h2 : (ts.length == 2) = false := by rw [beq_eq_false_iff_ne]; omega
    have h3 : (ts.length == 3) = false := by rw [beq_eq_false_iff_ne]; omega
    rw [h2, h3]; rfl
  simp only [this, Bool.true_or, if_true]
/-- the stores' way -/
theorem swapD_2 {ts vs : List Expr} {sc : Scope} (hk : env.scope.kind = .function) (hs : env.scope = sc) (hst : vs.all notStar = true) (h : swapD sc ts vs = 2) : swappedStores [.Tuple ts kt pt] (.Tuple vs k2 p2) env = pure none := by
  have nl : ∀ x, isLocal sc x = false → env.kindOf x ≠ some .local := fun x h e => by
    have e : sc.names.lookup x = some .local := by rw [← hs]; exact e
    unfold isLocal at h
    rw [e] at h; cases h
  unfold swapD at h
  split at h
  · split at h
    · split at h
      · rename_i h1; exact sw_const hk hst h1
      · split at h <;> cases h
    · split at h
      · rename_i h1; exact sw_cell2 (h1.imp (nl _) (nl _))
      · cases h
  · split at h
    · split at h
      · rename_i h1; exact sw_const hk hst h1
      · split at h <;> cases h
    · split at h
      · rename_i h1; exact sw_cell3 (h1.imp (nl _) (Or.imp (nl _) (nl _)))
      · cases h
  · split at h
    · rename_i h1; exact sw_many h1
    · cases h
end
end
end Ev

/-! The statements are what the text does; so are the defs. -/
namespace Ev
open PySem PySem.Spec PyProof.Rows L2

section
variable {K : PySem.W.Frag} {F : Addr → Prop} {H : Hp}
theorem isKey_iff {k : Int} {y : Key} : isKey k (keyD y) = decide (y = .inl k) := by
  cases y with
  | inl i => simp [isKey, keyD]
  | inr z => simp [isKey, keyD]
theorem RepK.any {k : Int} : ∀ {xs : List (Key × V)} {ds : List (D × D)}, RepK K F H xs ds → (ds.any fun p => isKey k p.1) = (xs.any fun kv => decide (kv.1 = .inl k))
  | _, _, .nil => rfl
  | _, _, .cons a r => by
    rw [List.any_cons, List.any_cons, RepK.any r, isKey_iff]
theorem RepK.put1 {k : Int} {v : V} {d : D} (h : Rep K F H v d) : ∀ {xs : List (Key × V)} {ds : List (D × D)}, RepK K F H xs ds → RepK K F H (xs.map fun kv => if kv.1 = .inl k then (kv.1, v) else kv) (ds.map fun p => if isKey k p.1 = true then (p.1, d) else p)
  | _, _, .nil => .nil
  | _, _, .cons (k := y) a r => by
    rw [List.map_cons, List.map_cons]
    by_cases e : y = .inl k
    · rw [if_pos e, if_pos (by rw [isKey_iff]; simpa using e)]
      exact .cons h (RepK.put1 h r)
    · rw [if_neg e, if_neg (by rw [isKey_iff]; simpa using e)]
      exact .cons a (RepK.put1 h r)
theorem RepK.app {k : Int} {v : V} {d : D} (h : Rep K F H v d) : ∀ {xs : List (Key × V)} {ds : List (D × D)}, RepK K F H xs ds → RepK K F H (xs ++ [(.inl k, v)]) (ds ++ [(.int k, d)])
  | _, _, .nil => .cons (k := .inl k) h .nil
  | _, _, .cons a r => .cons a (RepK.app h r)
theorem RepK.put {k : Int} {v : V} {d : D} (h : Rep K F H v d) {xs : List (Key × V)} {ds : List (D × D)} (r : RepK K F H xs ds) : RepK K F H (putK xs (.inl k) v) (putD ds k d) := by
  unfold putK putD
  rw [r.any]
  split
  · exact r.put1 h
  · exact r.app h
end
def rPut : TSet := fun o i v H Q => rSetL o i v H Q ∨ rSetD o i v H Q
theorem set_put {X : Cx} (hu : X.A.units + 1 < cLine) : PSet X rPut := fun pins s σ H o i v ov iv u Q I ro ri rv h =>
  h.elim (set_list pins s σ H o i v ov iv u Q I ro ri rv) (set_dict hu pins s σ H o i v ov iv u Q I ro ri rv)
theorem put_ok {K : PySem.W.Frag} : UOk K rPut putL := fun F H a x di d x' vi v Q nf ct ai rv h q => by
  unfold putL at h
  split at h
  · rename_i ds k
    obtain ⟨xs, hx, rx⟩ := ct
    cases arg_int ai
    split at h
    · rename_i n hn
      cases h
      refine .inl ⟨a, xs, k, n, rfl, rfl, hx, by rw [rx.length]; exact hn, q _ ⟨_, upd_same, ?_⟩⟩
      exact (RepL.set rv n rx).ext (upd_im hx (fun z => z) nf) fun _ z => z
    · cases h
  · rename_i ds k
    cases arg_int ai
    obtain ⟨xs, hx, rx⟩ | ⟨xs, hx, rx⟩ := ct
    · split at h
      · rename_i hl
        cases h
        refine .inr ⟨a, _, rfl, DPut.k (k := .inl k) hx (by rw [sizeLine_eq, rx.length]; exact hl), q _ (.inl ⟨_, upd_same, ?_⟩)⟩
        exact RepK.ext (upd_im hx (fun z => z) nf) (fun _ z => z) (RepK.put rv rx)
      · cases h
    · exact rx.no.elim
  · cases h
theorem tAug_or1 {j : Nat} {te : TE} {t t' : TIp} {D : Ends} {σ : L2.St} {H : Hp} (hm : ∀ σ H Q Q', (∀ v H, Q v H → Q' v H) → te σ H Q → te σ H Q') (i : ∀ x y H Q, t x y H Q → t' x y H Q) (h : tAug j te t D σ H) : tAug j te t' D σ H := by
  obtain ⟨x, hx, h⟩ := h
  exact ⟨x, hx, hm _ _ _ _ (fun y H1 w => i _ _ _ _ w) h⟩
theorem Sem.mono {α β : Type} {q : Par} {W : WX} {m : M α} {Ok : Gh → Hp → L2.St → Env → β → α → Prop} {σ : L2.St} {H : Hp} {Q Q' : β → Hp → Prop} (i : ∀ b H, Q b H → Q' b H) (h : Sem q W m Ok σ H Q) : Sem q W m Ok σ H Q' := by
  obtain ⟨g, e, c, rel, z⟩ := h
  refine ⟨g, e, c, rel, ?_⟩
  cases hm : m e c with
  | bad => rw [hm] at z; exact z
  | ex x e1 c1 => rw [hm] at z; exact z
  | ok a e1 c1 => rw [hm] at z; exact fun b g' H' r x o => i _ _ (z b g' H' r x o)
structure SGood (T : Tab) (G : Nat → Fn) (xc : Str → Option Addr) (N : List Str) (k : Nat) (X : Cx) (sc : Scope) (q : Par) (W : WX) : Prop where
  gd : Good T G xc N k X
  hs : X.env.scope = sc
  hk : sc.kind = .function
  tk : Takes X W
  hp : PassesOwn (model X.prog X.w) X.A X.env X.xe
  hK : q.K = X.K
  hx : q.xc = xc
  fn : ∀ x, X.fn x = true
section
variable {T : Tab} {G : Nat → Fn} {xc : Str → Option Addr} {N : List Str} {k : Nat} {X : Cx} {sc : Scope} {q : Par} {W : WX}
theorem slots_pg (S : SGood T G xc N k X sc q W) : ∀ {ts : List Expr} {is : List Nat}, slotsOf N sc ts = some is → PGs X ts (gTgts X.K (is.map .nm)) ∧ (assignEach ts X.env).length = is.length ∧ (assignEach ts X.env).findIdx? (·.1) = none
  | [], is, h => by
    cases h
    simp only [List.map_nil, gTgts]
    exact ⟨pgs_nil, rfl, rfl⟩
  | e :: ts, is, h => by
    cases e with
    | Name x p =>
      unfold slotsOf at h
      cases h1 : locOf N sc x with
      | none => rw [h1] at h; cases h
      | some i =>
        cases h2 : slotsOf N sc ts with
        | none => rw [h1, h2] at h; cases h
        | some l =>
          rw [h1, h2] at h
          cases h
          obtain ⟨a1, a2, a3⟩ := slots_pg S h2
          obtain ⟨l1, l2⟩ := locOf_ok S.gd.hN S.hs h1
          have ac := assign_cons (env := X.env) (t := .Name x p) (ts := ts) rfl
          simp only [List.map_cons, gTgts, gTgt]
          refine ⟨pgs_cons (pg_name (by rw [S.gd.hN]; exact S.gd.nd) l1 l2 (.inl (S.fn x))) a1 (by rw [ac]; rfl), by rw [ac]; simp [a2], by rw [ac]; simp [List.findIdx?_cons, a3]⟩
    | _ => cases h
theorem sw_notup {tg e : Expr} (h : isTup e = false) : swappedStores [tg] e X.env = pure none := by
  unfold swappedStores
  cases e with
  | Tuple vs k2 p2 => cases h
  | _ => cases tg <;> rfl
theorem assign_sub {o i : Expr} {pi : Pos} (h : notSl i = true) : ∀ v, assign (.Subscript o i pi) X.env v = (do
      let ov ← holding [v] (eval o X.env)
      let iv ← holding [v, ov] (eval i X.env)
      standAt pi
      holding [v, ov, iv] (setItem ov iv v)
      release [v, ov, iv] []) := by
  intro v; cases i <;> first | rfl | cases h
theorem locOf_local {x : Str} {i : Nat} (h : locOf N sc x = some i) (hl : isLocal sc x = true) : sc.names.lookup x = some .local := by
  unfold isLocal at hl
  split at hl
  · assumption
  · cases hl
theorem asg_ok (S : SGood T G xc N k X sc q W) (tg e : Expr) (pos : Pos) : PS X (.Assign [tg] e pos) (SemS q W (cAsg N sc (fun a => (cX T G N 40 sc a).1) tg e)) := by
  have iv : ∀ q' : Par, q'.K = X.K → q'.xc = xc → ∀ e, PE X e (SemE q' W (cX T G N 40 sc e).1) := fun q' h1 h2 e => (cX_ok 40 X sc q' W e S.gd S.hs S.tk h1 h2).1
  have iq := iv q S.hK S.hx
  have nd : X.N.Nodup := by rw [S.gd.hN]; exact S.gd.nd
  unfold cAsg
  split
  · -- a name
    rename_i x px
    split
    · rename_i i hi
      obtain ⟨l1, l2⟩ := locOf_ok S.gd.hN S.hs hi
      split
      · split
        · rename_i hc
          exact PS.imp (ps_set nd l1 l2 (iq e) (notcomp_swap hc) (.inl (S.fn x))) (asg_cup fun _ _ _ h => h)
        · exact ss_bad
      · split
        · rename_i hc
          exact PS.imp (ps_set nd l1 l2 (iq e) (notcomp_swap hc) (.inl (S.fn x))) (asg_set fun _ _ _ h => h)
        · split
          · rename_i elt tg itr ifs scope p hnc
            -- a comprehension: stored within, or behind
            by_cases hsw : (isLocal sc x && (px.line == p.line) && !(scope.names.any fun (n, k) => n == x && (k == .local || k == .cell))) = true
            · simp only [Bool.and_eq_true, Bool.not_eq_true'] at hsw
              obtain ⟨⟨w1, w2⟩, w3⟩ := hsw
              have hyl : X.env.scope.names.lookup x = some .local := by rw [S.hs]; exact locOf_local hi w1
              show PS X _ (SemS q W (mSet i (cX T G N (39 + 1) sc (.ListComp elt [⟨tg, itr, ifs, 0⟩] scope p)).1))
              rw [cX_lc]
              split
              · rename_i hg
                obtain ⟨h1, h2, h3⟩ := hg
                split
                · rename_i t ht
                  obtain ⟨tt, te, P⟩ := comp_parts (W := W) (elt := elt) (itr := itr) (cX_ok 39) S.gd S.hs S.tk S.hK S.hx h1 h3 ht
                  exact PS.imp (ps_setLc S.gd.calm nd l1 hyl (sw_true (by rw [S.hs]; exact S.hk) hyl w2 w3) P.hi P.ok P.hg P.ht P.he (notset_fold h2)) (asg_set P.go)
                · exact PS.imp (ps_never (X := X)) fun D σ H ⟨g, e, c, rel, z⟩ => z.elim
              · exact PS.imp (ps_never (X := X)) fun D σ H ⟨g, e, c, rel, z⟩ => z.elim
            · have hno : swapsWith (.ListComp elt [⟨tg, itr, ifs, 0⟩] scope p) (some (.Name x px)) pos.line X.env = pure false := by
                have kx : (X.env.kindOf x == some .local) = isLocal sc x := by
                  show (X.env.scope.names.lookup x == some .local) = _
                  rw [S.hs]
                  unfold isLocal
                  split
                  · rename_i e1; rw [e1]; rfl
                  · rename_i e1
                    rw [beq_eq_false_iff_ne]
                    exact fun e2 => e1 e2
                have hb : X.env.blockKind = .function := blk_fn (by rw [S.hs]; exact S.hk)
                unfold swapsWith
                simp only [hb, kx, Expr.pos]
                have : (isLocal sc x && (px.line == p.line) && !(scope.names.any fun (n, k) => n == x && (k == .local || k == .cell))) = false := Bool.eq_false_iff.mpr hsw
                simp only [this, beq_self_eq_true, Bool.true_and]
              exact PS.imp (ps_set nd l1 l2 (iq _) hno (.inl (S.fn x))) (asg_set fun _ _ _ h => h)
          · exact ss_bad
    · exact ss_bad
  · -- several names
    rename_i ts kt pt
    split
    · rename_i vs k2 p2
      split
      · rename_i hg
        obtain ⟨g1, g2, g3⟩ := hg
        split
        · rename_i is his
          split
          · exact ss_bad
          · rename_i hd0
            have hva : PA X vs (SemVals q W (vs.map fun a => (cX T G N 40 sc a).1)) := vals_of (v := fun a => (cX T G N 40 sc a).1) (fun q' h1 h2 e => iv q' h1 h2 e) S.hK S.hx g1
            have hsl : swapsWithSole [.Tuple ts kt pt] (.Tuple vs k2 p2) pos.line X.env = pure false := notcomp_swaps rfl
            by_cases hd2 : swapD sc ts vs = 2
            · obtain ⟨a1, a2, a3⟩ := slots_pg S his
              have hw := swapD_2 (kt := kt) (pt := pt) (k2 := k2) (p2 := p2) (env := X.env) (by rw [S.hs]; exact S.hk) S.hs g1 hd2
              refine PS.imp (ps_asg (pe_tup hva) (pg_tup (k := kt) (pos := pt) S.gd.calm a1 a2 a3) hsl hw rfl) ?_
              rw [← S.hK]
              exact ss_parT (fun _ _ _ h => h) (by rw [List.length_map]; exact g3)
            · -- by the values themselves
              have hd1 : swapD sc ts vs = 1 := by
                have : swapD sc ts vs = 0 ∨ swapD sc ts vs = 1 ∨ swapD sc ts vs = 2 := by
                  unfold swapD
                  (repeat' split) <;> simp
                omega
              unfold swapD at hd1
              split at hd1
              · rename_i x px y py a b
                split at hd1
                · rename_i hc
                  obtain ⟨c1, c2, c3, c4⟩ := hc
                  split at hd1
                  · cases hd1
                  · rename_i f1
                    split at hd1
                    · cases hd1
                    · rename_i f2
                      cases h1 : locOf N sc x with
                      | none => simp only [slotsOf, h1] at his; cases his
                      | some i =>
                      cases h2 : locOf N sc y with
                      | none => simp only [slotsOf, h1, h2] at his; cases his
                      | some j =>
                      simp only [slotsOf, h1, h2] at his
                      cases his
                      have ex : X.env.scope.names.lookup x = some .local := by rw [S.hs]; exact locOf_local h1 c1
                      have ey : X.env.scope.names.lookup y = some .local := by rw [S.hs]; exact locOf_local h2 c2
                      obtain ⟨i1, _⟩ := locOf_ok S.gd.hN S.hs h1
                      obtain ⟨j1, _⟩ := locOf_ok S.gd.hN S.hs h2
                      have nij : i ≠ j := fun z => by rw [z, j1] at i1; cases i1; exact c4 rfl
                      exact PS.imp (ps_par S.gd.calm nd i1 j1 nij ex ey hva (sw_pair (by rw [S.hs]; exact S.hk) ex ey c3 c4 g1 (by simpa using f1) (by simpa using f2)) hsl) (ss_par2 fun _ _ _ h => h)
                · split at hd1 <;> cases hd1
              · rename_i x px y py z pz a b c
                split at hd1
                · rename_i hc
                  obtain ⟨c1, c2, c3, c4, c5, c6, c7, c8⟩ := hc
                  split at hd1
                  · cases hd1
                  · rename_i f1
                    split at hd1
                    · cases hd1
                    · rename_i f2
                      cases h1 : locOf N sc x with
                      | none => simp only [slotsOf, h1] at his; cases his
                      | some i =>
                      cases h2 : locOf N sc y with
                      | none => simp only [slotsOf, h1, h2] at his; cases his
                      | some j =>
                      cases h3 : locOf N sc z with
                      | none => simp only [slotsOf, h1, h2, h3] at his; cases his
                      | some l =>
                      simp only [slotsOf, h1, h2, h3] at his
                      cases his
                      have ex : X.env.scope.names.lookup x = some .local := by rw [S.hs]; exact locOf_local h1 c1
                      have ey : X.env.scope.names.lookup y = some .local := by rw [S.hs]; exact locOf_local h2 c2
                      have ez : X.env.scope.names.lookup z = some .local := by rw [S.hs]; exact locOf_local h3 c3
                      obtain ⟨i1, _⟩ := locOf_ok S.gd.hN S.hs h1
                      obtain ⟨j1, _⟩ := locOf_ok S.gd.hN S.hs h2
                      obtain ⟨m1, _⟩ := locOf_ok S.gd.hN S.hs h3
                      have nij : i ≠ j := fun w => by rw [w, j1] at i1; cases i1; exact c6 rfl
                      have nil' : i ≠ l := fun w => by rw [w, m1] at i1; cases i1; exact c7 rfl
                      have njl : j ≠ l := fun w => by rw [w, m1] at j1; cases j1; exact c8 rfl
                      exact PS.imp (ps_par3 S.gd.calm nd i1 j1 m1 nij nil' njl ex ey ez hva (sw_three (by rw [S.hs]; exact S.hk) ex ey ez c4 c5 c6 c7 c8 g1 (by simpa using f1) (by simpa using f2)) hsl) (ss_par3 fun _ _ _ h => h)
                · split at hd1 <;> cases hd1
              · split at hd1 <;> cases hd1
        · exact ss_bad
      · exact ss_bad
    · rename_i hnt
      split
      · rename_i hc
        split
        · rename_i t ht
          have it : isTup e = false := by
            cases e with
            | Tuple vs k2 p2 => exact absurd rfl (hnt vs k2 p2)
            | _ => rfl
          refine PS.imp (ps_asg (sv_of (iq e)) (tgt_pg (N := N) (sc := sc) nd S.gd.calm (fun x i hl => ?_) 5 _ t ht) (notcomp_swaps hc) (sw_notup it) rfl) ?_
          · obtain ⟨l1, l2⟩ := locOf_ok S.gd.hN S.hs hl
            exact ⟨l1, l2, .inl (S.fn x)⟩
          · rw [← S.hK]
            exact asg_tgt fun _ _ _ h => h
        · exact ss_bad
      · exact ss_bad
  · -- an item
    rename_i x px i pi
    split
    · rename_i j hj
      split
      · rename_i hc
        have hw : swappedStores [.Subscript (.Name x px) i pi] e X.env = pure none := by
          unfold swappedStores
          cases e <;> rfl
        refine PS.imp (ps_asg (sv_of (iq e)) (pg_sub (slot_ok (pos := px) S.gd.hN S.hs hj) (op_of S.gd.hN S.hs (iq i)) (set_put (by have := S.gd.room.un; omega)) (assign_sub hc.2)) (notcomp_swaps hc.1) hw rfl) ?_
        exact ss_store put_ok (fun a xs k n v H Q h1 h2 h3 => .inl ⟨a, xs, k, n, rfl, rfl, h1, h2, h3⟩) (fun _ _ _ h => h) (fun _ _ _ h => h)
      · exact ss_bad
    · exact ss_bad
  · exact ss_bad
theorem sList_ok {f : Stmt → M Fl} (h : ∀ st, PS X st (SemS q W (f st))) : ∀ (ss : List Stmt), PSs X ss (SemS q W (sList f ss))
  | [] => sss_nil
  | [s] => pss_one (h s)
  | s :: s2 :: ss => sss_cons (h s) (sList_ok h (s2 :: ss))
theorem cS_ok (S : SGood T G xc N k X sc q W) : ∀ (n : Nat) (st : Stmt), PS X st (SemS q W (cS T G N sc n st)) := by
  have iv : ∀ e, PE X e (SemE q W (cX T G N 40 sc e).1) := fun e => (cX_ok 40 X sc q W e S.gd S.hs S.tk S.hK S.hx).1
  have it : ∀ e, PT X e (SemT q W (cX T G N 40 sc e).2) := fun e => (cX_ok 40 X sc q W e S.gd S.hs S.tk S.hK S.hx).2
  have nd : X.N.Nodup := by rw [S.gd.hN]; exact S.gd.nd
  intro n
  induction n with
  | zero => exact fun st => ss_bad
  | succ n ih =>
    intro st
    have il := sList_ok ih
    unfold cS
    split
    · split
      · rename_i hc
        exact ss_expr (iv _) (notcomp_swap hc)
      · exact ss_bad
    · exact ss_pass
    · exact ss_retN
    · split
      · split
        · rename_i i hi
          exact ss_ret (se_move (slot_ok S.gd.hN S.hs hi))
        · exact ss_ret (iv _)
      · exact ss_ret (iv _)
    · exact asg_ok S _ _ _
    · rename_i x px e p
      split
      · rename_i j hj
        obtain ⟨l1, l2⟩ := locOf_ok S.gd.hN S.hs hj
        have ho : PE X e (SemO q W (opnd N sc e (cX T G N 40 sc e).1)) := op_of S.gd.hN S.hs (iv e)
        refine PS.imp (ps_aug nd l1 l2 ho ip_aug (.inl (S.fn x))) fun D σ H h => ?_
        obtain ⟨g, en, c, rel, z⟩ := h
        have key : (∃ d, en[j]? = some (some (.own d)) ∧ AtS q W g H D (mAugL j (opnd N sc e (cX T G N 40 sc e).1) en c)) ∨ AtS q W g H D (mAugV j fAug (opnd N sc e (cX T G N 40 sc e).1) en c) := by
          unfold mAug at z
          split at z
          · rename_i d hd; exact .inl ⟨d, hd, z⟩
          · exact .inr z
        rcases key with ⟨d, _, z⟩ | z
        · exact tAug_or1 (fun σ H Q Q' i h => Sem.mono i h) (fun x y H Q h => .inr h) (ss_augL (ti := rExtR) (fun _ _ _ h => h) (fun l b xs zs H Q h1 h2 h3 h4 => ⟨l, b, xs, zs, rfl, rfl, h1, h2, h3, h4⟩) D σ H ⟨g, en, c, rel, z⟩)
        · exact ss_augV (ti := tiAug) b_aug (fun _ _ _ h => h) D σ H ⟨g, en, c, rel, z⟩
      · exact ss_bad
    · exact ss_if (it _) (il _) (il _)
    · exact ss_while S.hp (it _) (il _)
    · split
      · rename_i t ht
        split
        · rename_i hn
          refine ss_for S.hp S.gd.calm (ci_ok S.gd S.hs S.hK iv _ _) ?_ (il _) (notset_fold hn)
          rw [S.hK]
          refine tgt_pg (N := N) (sc := sc) nd S.gd.calm (fun x i hl => ?_) 5 _ t ht
          obtain ⟨l1, l2⟩ := locOf_ok S.gd.hN S.hs hl
          exact ⟨l1, l2, .inl (S.fn x)⟩
        · exact ss_bad
      · exact ss_bad
    · split
      · rename_i hg
        obtain ⟨g1, g2⟩ := hg
        obtain ⟨C, e1, e2, e3, e4, e5⟩ := S.gd.excs _ (by simpa using g2)
        exact ss_raise S.gd.calm S.tk (pmk_own PySem.F.excBase_ValueError e3 e2 e4 e5 (gl_ok S.hs g1).1 (gl_ok S.hs g1).2.1) (by rw [S.hx]; exact e1) fun _ _ _ h => h
      · exact ss_bad
    · exact ss_bad
end

/-! ### defs -/
/-- a def of the text as a doing, its callees given -/
def cDef (T : Tab) (G : Nat → Fn) (N : List Str) (st : Stmt) : Fn := runB N.length (sList (cS T G N (defScope st) 12) (defBody st))
/-- one more round of calls -/
def evN (T : Tab) (sts : List Stmt) : Nat → Nat → Fn
  | 0, _ => fun _ _ => .bad
  | n + 1, j => match T.defs[j]?, sts[j]? with
    | some d, some st => cDef T (evN T sts n) d.N st
    | _, _ => fun _ _ => .bad
structure TabOk (P : Program) (w : World) (K : PySem.W.Frag) (mg : Str → Option Value) (xc : Str → Option Addr) (T : Tab) (sts : List Stmt) : Prop where
  defs : ∀ (j : Nat) (d : Def), T.defs[j]? = some d → ∃ st f fd qual, sts[j]? = some st ∧ mg d.name = some (.ref f) ∧ PySem.W.keepIn K (.ref f) = true ∧ (∀ us : List Value, us.length = d.ps.length → bindArgs fd ⟨us, []⟩ = pure (d.ps.zip us)) ∧ Fun K d.name qual st f fd ∧ FnScope d.N d.ps (defScope st)
  consts : ∀ x d, T.consts.lookup x = some d → ∃ u v, mg x = some u ∧ RelV v u ∧ ∀ F H, Rep K F H v d
  excs : ∀ x, x ∈ T.excs → ∃ C, xc x = some C ∧ mg x = some (.ref C) ∧ PySem.W.excIn K C [.type "ValueError", .type "Exception", .type "BaseException", .type "object"] "ValueError.__new__" = true ∧ PySem.W.keepIn K (.ref C) = true ∧
    PySem.W.subIn K (.ref C) (.type "BaseException") = some true ∧ PySem.W.typeIn K (.ref C) = some (.type "type")
  blt : ∀ x, (bltF x).isSome = true ∨ x = "isinstance" ∨ (x = "range" ∨ x = "zip" ∨ x = "set" ∨ x = "enumerate") ∨ (isiT x).isSome = true → mg x = none
theorem ev_step {P : Program} {w : World} {K : PySem.W.Frag} {mg : Str → Option Value} {xc : Str → Option Addr} {T : Tab} {sts : List Stmt} {base : Heap} (ok : TabOk P w K mg xc T sts) {n : Nat}
    (ih : ∀ (j : Nat) (d : Def), T.defs[j]? = some d → ∃ f fd, mg d.name = some (.ref f) ∧ PySem.W.keepIn K (.ref f) = true ∧ (∀ us : List Value, us.length = d.ps.length → bindArgs fd ⟨us, []⟩ = pure (d.ps.zip us)) ∧ FnOk P w K mg base (L2.CX P w) n f fd d.ps (spF K xc d.ps.length (evN T sts n j)))
    {j : Nat} {d : Def} (hd : T.defs[j]? = some d) {st : Stmt} {f : Addr} {fd : FuncData} {qual : Str} (h1 : sts[j]? = some st) (h5 : Fun K d.name qual st f fd) (h6 : FnScope d.N d.ps (defScope st)) :
    FnOk P w K mg base (L2.CX P w) (n + 1) f fd d.ps (spF K xc d.ps.length (evN T sts (n + 1) j)) := by
  have e : evN T sts (n + 1) j = cDef T (evN T sts n) d.N st := by
    show (match T.defs[j]?, sts[j]? with | some d, some st => cDef T (evN T sts n) d.N st | _, _ => fun _ _ => .bad) = _
    rw [hd, h1]
  rw [e]
  refine fn_ok h5 h6 fun cdv A outer s g H E hr => ?_
  refine sList_ok (cS_ok (T := T) (G := evN T sts n) (xc := xc) (N := d.N) (k := n) ⟨⟨rfl, h6.nd, rfl, hr, fun j d hd => (let ⟨f, fd, a, b, c, e⟩ := ih j d hd; ⟨f, fd, a, b, Binds.all c, e⟩), ok.consts, fun x hx => ?_, ok.blt⟩, rfl, h6.kind, takes_of rfl rfl rfl rfl, passes_of rfl, rfl, rfl, fun _ => rfl⟩ 12) (defBody st)
  obtain ⟨C, c1, c2, c3, c4, c5, c6⟩ := ok.excs x hx
  exact ⟨C, c1, c2, c3, c4, raises_own c5 c6⟩
theorem ev_ok {P : Program} {w : World} {K : PySem.W.Frag} {mg : Str → Option Value} {xc : Str → Option Addr} {T : Tab} {sts : List Stmt} {base : Heap} (ok : TabOk P w K mg xc T sts) : ∀ (n j : Nat) (d : Def), T.defs[j]? = some d →
    ∃ f fd, mg d.name = some (.ref f) ∧ PySem.W.keepIn K (.ref f) = true ∧ (∀ us : List Value, us.length = d.ps.length → bindArgs fd ⟨us, []⟩ = pure (d.ps.zip us)) ∧ FnOk P w K mg base (L2.CX P w) n f fd d.ps (spF K xc d.ps.length (evN T sts n j)) := by
  intro n
  induction n with
  | zero =>
    intro j d hd
    obtain ⟨st, f, fd, qual, h1, h2, h3, h4, h5, h6⟩ := ok.defs j d hd
    exact ⟨f, fd, h2, h3, h4, fun vs H Q E h => h.1, fun A outer s H args us vs Q E _ _ _ _ ⟨_, _, _, _, _, _, _, h⟩ => h.elim⟩
  | succ n ih =>
    intro j d hd
    obtain ⟨st, f, fd, qual, h1, h2, h3, h4, h5, h6⟩ := ok.defs j d hd
    exact ⟨f, fd, h2, h3, h4, ev_step ok ih hd h1 h5 h6⟩
end Ev

/-! The table's facts, one by one; the law's end. -/
namespace Ev
open PySem PySem.Spec PyProof.Rows L2

section
variable {K : PySem.W.Frag} {h : Heap} {mg : Str → Option Value}
structure DefOk (K : PySem.W.Frag) (mg : Str → Option Value) (d : Def) (st : Stmt) : Prop where
  ex : ∃ f fd qual, mg d.name = some (.ref f) ∧ PySem.W.keepIn K (.ref f) = true ∧ (∀ us : List Value, us.length = d.ps.length → bindArgs fd ⟨us, []⟩ = pure (d.ps.zip us)) ∧ Fun K d.name qual st f fd ∧ FnScope d.N d.ps (defScope st)
inductive DefsOk (K : PySem.W.Frag) (mg : Str → Option Value) : List Def → List Stmt → Prop
  | nil : DefsOk K mg [] []
  | cons {d : Def} {ds : List Def} {st : Stmt} {sts : List Stmt} : DefOk K mg d st → DefsOk K mg ds sts → DefsOk K mg (d :: ds) (st :: sts)
theorem DefsOk.get : ∀ {ds : List Def} {sts : List Stmt} {j : Nat} {d : Def}, DefsOk K mg ds sts → ds[j]? = some d → ∃ st, sts[j]? = some st ∧ DefOk K mg d st
  | _, _, _, _, .nil, h => by simp at h
  | _, _, 0, _, .cons a _, h => by simp at h; subst h; exact ⟨_, rfl, a⟩
  | _, _, j + 1, _, .cons _ b, h => DefsOk.get (j := j) b (by simpa using h)
theorem def_mk {x : Str} {ps N : List Str} {st : Stmt} {f : Addr} {oc : Value} {od an : Option Addr} {osl : Array (Option Value)} {kV doc pm cdv ct : Value} (X : K.In h) (G : h.Ns mainGlobals mg)
    (sc : FnScope N ps (defScope st)) (b : ∀ (kV doc pm : Value) (an : Option Addr) (cdv ct : Value) (us : List Value), us.length = ps.length → bindArgs (PySem.W.fnOf x x (defArgs st) (defBody st) (defScope st) .none kV doc pm an cdv ct) ⟨us, []⟩ = pure (ps.zip us))
    (a : PySem.W.nsIn K mainGlobals x = some (some (.ref f))) (l : K.lookup f = some ⟨oc, od, .func (PySem.W.fnOf x x (defArgs st) (defBody st) (defScope st) .none kV doc pm an cdv ct), osl⟩)
    (c : PySem.W.codeIn K cdv x = true) (k : PySem.W.keepIn K (.ref f) = true) : DefOk K mg ⟨x, ps, N⟩ st := by
  have F := fun_mk (st := st) l c k
  exact ⟨f, _, x, PySem.W.mg_of X G a, k, b _ _ _ _ _ _, F, sc⟩
inductive ConstsOk (K : PySem.W.Frag) (mg : Str → Option Value) : List (Str × D) → Prop
  | nil : ConstsOk K mg []
  | cons {x : Str} {d : D} {r : List (Str × D)} (u : Value) (v : V) : mg x = some u → RelV v u → (∀ F H, Rep K F H v d) → ConstsOk K mg r → ConstsOk K mg ((x, d) :: r)
theorem ConstsOk.get {x : Str} {d : D} : ∀ {l : List (Str × D)}, ConstsOk K mg l → l.lookup x = some d → ∃ u v, mg x = some u ∧ RelV v u ∧ ∀ F H, Rep K F H v d
  | _, .nil, h => by simp at h
  | _, .cons (x := y) u v a b c r, h => by
    rw [List.lookup_cons] at h
    split at h
    · rename_i e
      have e : x = y := by simpa using e
      subst e
      cases h
      exact ⟨u, v, a, b, c⟩
    · exact ConstsOk.get r h
theorem const_int {x : Str} {i : Int} {t : Tok} {r : List (Str × D)} (X : K.In h) (G : h.Ns mainGlobals mg) (a : PySem.W.nsIn K mainGlobals x = some (some (.int i t))) (rest : ConstsOk K mg r) : ConstsOk K mg ((x, .int i) :: r) :=
  .cons _ (.int i) (PySem.W.mg_of X G a) ⟨_, rfl⟩ (fun _ _ => .int i) rest
theorem const_str {x s : Str} {t : Tok} {r : List (Str × D)} (X : K.In h) (G : h.Ns mainGlobals mg) (a : PySem.W.nsIn K mainGlobals x = some (some (.str s t))) (rest : ConstsOk K mg r) : ConstsOk K mg ((x, .str s) :: r) :=
  .cons _ (.str s) (PySem.W.mg_of X G a) ⟨_, rfl⟩ (fun _ _ => .str s) rest
abbrev ExcFacts (K : PySem.W.Frag) (mg : Str → Option Value) (x : Str) (C : Addr) : Prop := mg x = some (.ref C) ∧ PySem.W.excIn K C [.type "ValueError", .type "Exception", .type "BaseException", .type "object"] "ValueError.__new__" = true ∧ PySem.W.keepIn K (.ref C) = true ∧
    PySem.W.subIn K (.ref C) (.type "BaseException") = some true ∧ PySem.W.typeIn K (.ref C) = some (.type "type")
inductive ExcsOk (K : PySem.W.Frag) (mg : Str → Option Value) : List (Str × Addr) → Prop
  | nil : ExcsOk K mg []
  | cons {x : Str} {C : Addr} {r : List (Str × Addr)} : ExcFacts K mg x C → ExcsOk K mg r → ExcsOk K mg ((x, C) :: r)
theorem ExcsOk.get {x : Str} : ∀ {l : List (Str × Addr)}, ExcsOk K mg l → x ∈ l.map (·.1) → ∃ C, l.lookup x = some C ∧ ExcFacts K mg x C
  | _, .nil, h => by simp at h
  | _, .cons (x := y) (C := C) (r := r) a b, h => by
    rw [List.lookup_cons]
    by_cases e : x = y
    · subst e
      exact ⟨C, by simp, a⟩
    · have : (x == y) = false := beq_eq_false_iff_ne.mpr e
      rw [this]
      exact ExcsOk.get b (by simpa [e] using h)
inductive NonesOk (mg : Str → Option Value) : List Str → Prop
  | nil : NonesOk mg []
  | cons {x : Str} {r : List Str} : mg x = none → NonesOk mg r → NonesOk mg (x :: r)
theorem NonesOk.get {x : Str} : ∀ {l : List Str}, NonesOk mg l → x ∈ l → mg x = none
  | _, .nil, h => by simp at h
  | _, .cons a b, h => by
    rcases List.mem_cons.mp h with rfl | h
    · exact a
    · exact NonesOk.get b h
def bltNames : List Str := ["len", "abs", "int", "str", "list", "tuple", "max", "min", "sum", "all", "any", "isinstance", "range", "bool", "sorted", "zip", "set", "enumerate"]
theorem blt_mem {x : Str} (h : (bltF x).isSome = true ∨ x = "isinstance" ∨ (x = "range" ∨ x = "zip" ∨ x = "set" ∨ x = "enumerate") ∨ (isiT x).isSome = true) : x ∈ bltNames := by
  unfold bltNames
  rcases h with h | rfl | (rfl | rfl | rfl | rfl) | h
  · unfold bltF at h
    split at h
    · rename_i e; subst e; decide
    unfold bltF0 at h
    (repeat' (split at h <;> first | (rename_i e; subst e; decide) | skip))
    cases h
  · decide
  · decide
  · decide
  · decide
  · decide
  · unfold isiT at h
    (repeat' (split at h <;> first | (rename_i e; subst e; decide) | skip))
    cases h
theorem tab_mk {P : Program} {w : World} {T : Tab} {sts : List Stmt} {ex : List (Str × Addr)} (d : DefsOk K mg T.defs sts) (c : ConstsOk K mg T.consts) (e : ExcsOk K mg ex) (he : T.excs = ex.map (·.1)) (b : NonesOk mg bltNames) : TabOk P w K mg (fun x => ex.lookup x) T sts where
  defs := fun j x h => by
    obtain ⟨st, h1, ⟨f, fd, qual, h2⟩⟩ := d.get h
    exact ⟨st, f, fd, qual, h1, h2⟩
  consts := fun x v h => c.get h
  excs := fun x h => e.get (by rw [← he]; exact h)
  blt := fun x h => b.get (blt_mem h)
end
/-- the law's promise, from its run -/
theorem law_sp {K : PySem.W.Frag} {xc : Str → Option Addr} {F : Fn} {H : Hp} {a : Addr} {ns : List Int} {E : XK} (hO : Only H) (hS : SqL K H a (ns.map V.int)) (hk : ∀ xs, ¬ (∃ (o : Obj) (its : Array Value) (n : Nat), K.lookup a = some o ∧ o.cls = .type "list" ∧ o.dict = none ∧ o.data = .seq its n ∧ its.size ≤ sizeLine ∧ Vals xs its.toList)) (run : ∃ c', F [.val (.list (ns.map PyData.int))] none = .ok (.val (.bool true)) c') :
    spF K xc 1 F [.ref a] H (fun v _ => v = .bl true) E := by
  obtain ⟨c', hr⟩ := run
  refine ⟨rfl, ⟨fun _ => False, none⟩, _, none, .cons (p := .val (.list (ns.map PyData.int))) (.lst ?_ (ints_repl ns)) .nil, fun _ h => h.elim, rfl, ?_⟩
  · rcases hS with (h | h) | h
    · rcases hO a with z | ⟨o, xs, z⟩
      · rw [h] at z; cases z
      · rw [h] at z; cases z
    · exact .inr h
    · exact absurd h (hk _)
  · rw [hr]
    intro v g' H' _ _ _ rs
    cases rs; rfl

def isLstV : Value → Bool
  | .type s => s == "list"
  | _ => false
def noLists : PySem.W.Frag → Bool
  | [] => true
  | p :: r => !(isLstV p.2.cls) && noLists r
theorem noLists_get : ∀ {K : PySem.W.Frag} {a : Addr} {o : Obj}, noLists K = true → K.lookup a = some o → o.cls ≠ .type "list"
  | [], _, _, _, h => by cases h
  | (b, x) :: r, a, o, hn, h => by
    rw [noLists, Bool.and_eq_true] at hn
    rw [List.lookup_cons] at h
    split at h
    · cases h
      intro z
      have := hn.1
      rw [z] at this
      cases this
    · exact noLists_get hn.2 h
theorem walk_ev {l : PySem.W.OpenLaw} {n k j : Nat} {q : Program} {loose : List Str} {XP : (Str → Option Value) → Heap → Prop} {YP : World → Heap → Prop} {d : DefRec} {K : Params → PySem.W.Frag} {T : Tab} {sts : List Stmt} {N : List Str}
    (hn : l.most = some n) (hn2 : n ≤ sizeLine) (hdf : d.params.defaults = []) (hr : Room (k + 1) callerA) (hd : T.defs[j]? = some ⟨d.name, ["script"], N⟩)
    (hrun : ∀ ns : List Int, ns.length ≤ n → ∃ c', evN T sts (k + 1) j [.val (.list (ns.map PyData.int))] none = .ok (.val (.bool true)) c')
    (nl : ∀ w : World, noLists (K w.params) = true)
    (hY : ∀ (w : World) (h : Heap), YP w h → (K w.params).In h)
    (F : ∀ (w : World) (mg : Str → Option Value) (fa : Addr) (h : Heap), (K w.params).In h → h.Ns mainGlobals mg → mg d.name = some (.ref fa) → ∃ xc, TabOk l.prog w (K w.params) mg xc T sts) :
    PySem.W.WalkO q loose XP YP l.row.toRowW d [] (fun f vs => PySem.call f vs) := by
  refine L2.walk_of (CX := fun w => L2.CX l.prog w) (sp := fun w vs H Q E => ∀ xc, spF (K w.params) xc 1 (evN T sts (k + 1) j) vs H Q E) (x := "script") hn hn2 hdf hr hY ?_ ?_ ?_
  · intro w mg fa h X G hm
    obtain ⟨xc, ok⟩ := F w mg fa h X G hm
    obtain ⟨st, f, fd, qual, h1, h2, h3, h4, h5, h6⟩ := ok.defs j _ hd
    have e := hm.symm.trans h2
    cases e
    refine ⟨fd, fun s u => .of_eq (h4 [u] rfl), fun base hb hbn => ?_⟩
    exact FnOk.imp (ev_step (base := base) ok (ev_ok ok k) hd h1 h5 h6) (fun vs H Q E h => h xc)
  · intro w H a ns hl hO hS xc
    exact law_sp hO hS (fun xs ⟨o, its, m, h1, h2, _⟩ => noLists_get (nl w) h1 h2) (hrun ns hl)
  · intro w H s e s' h
    obtain ⟨_, _, _, _, _, _, _, _, _, _, _, _, z⟩ := h
    exact z.elim
end Ev

/-! Running a reading: what it gives, by rules. -/
namespace Ev
open PySem PySem.Spec PyProof.Rows L2
def Wp {α : Type} (r : R α) (P : α → Env → Cel → Prop) : Prop := match r with
  | .ok a e c => P a e c
  | _ => False
def WpF (r : FR) (P : SV → Cel → Prop) : Prop := match r with
  | .ok v c => P v c
  | _ => False
def WpB (f : BF) (ds : List D) (P : SV → Prop) : Prop := match f ds with
  | some v => P v
  | none => False
section
variable {α β : Type} {e : Env} {c : Cel}
theorem Wp.imp {r : R α} {P P' : α → Env → Cel → Prop} (h : Wp r P) (i : ∀ a e c, P a e c → P' a e c) : Wp r P' := by
  cases r with
  | ok a e c => exact i _ _ _ h
  | ex => exact h
  | bad => exact h
theorem WpF.imp {r : FR} {P P' : SV → Cel → Prop} (h : WpF r P) (i : ∀ a c, P a c → P' a c) : WpF r P' := by
  cases r with
  | ok a c => exact i _ _ h
  | ex => exact h
  | bad => exact h
theorem WpF.get {r : FR} {P : SV → Cel → Prop} (h : WpF r P) : ∃ v c, r = .ok v c ∧ P v c := by
  cases r with
  | ok a c => exact ⟨a, c, rfl, h⟩
  | ex => exact h.elim
  | bad => exact h.elim
theorem wp_ok {a : α} {P : α → Env → Cel → Prop} : Wp (.ok a e c) P = P a e c := rfl
theorem wp_bind {m : M α} {k : α → M β} {P : β → Env → Cel → Prop} : Wp (mBind m k e c) P = Wp (m e c) fun a e' c' => Wp (k a e' c') P := by
  unfold mBind; cases m e c <;> rfl
theorem wp_c {d : D} {P : SV → Env → Cel → Prop} : Wp (mC d e c) P = P (.val d) e c := rfl
theorem wp_var {i : Nat} {sv : SV} {P : SV → Env → Cel → Prop} (h : e[i]? = some (some sv)) (n : ∀ d, sv ≠ .own d) : Wp (mVar i e c) P = P sv e c := by
  unfold mVar; rw [h]
  cases sv with
  | own d => exact absurd rfl (n d)
  | val d => rfl
  | cell => rfl
theorem wp_if {t : M Bool} {m1 m2 : M α} {P : α → Env → Cel → Prop} : Wp (mIf t m1 m2 e c) P = Wp (t e c) fun b e' c' => if b = true then Wp (m1 e' c') P else Wp (m2 e' c') P := by
  unfold mIf; rw [wp_bind]
  congr 1; funext b e' c'
  cases b <;> rfl
def WpT (sv : SV) (P : Bool → Prop) : Prop := match sv with
  | .val (.bool b) => P b
  | _ => False
theorem wpt_b {b : Bool} {P : Bool → Prop} : WpT (.val (.bool b)) P = P b := rfl
theorem wp_tv {m : M SV} {P : Bool → Env → Cel → Prop} : Wp (mTV m e c) P = Wp (m e c) fun sv e' c' => WpT sv fun b => P b e' c' := by
  unfold mTV; rw [wp_bind]
  congr 1; funext sv e' c'
  cases sv with
  | val d => cases d <;> rfl
  | own d => rfl
  | cell => rfl
theorem wp_vt {m : M Bool} {P : SV → Env → Cel → Prop} : Wp (mVT m e c) P = Wp (m e c) fun b e' c' => P (.val (.bool b)) e' c' := by
  unfold mVT; rw [wp_bind]; rfl
theorem wp_not {m : M Bool} {P : Bool → Env → Cel → Prop} : Wp (mNotT m e c) P = Wp (m e c) fun b e' c' => P (!b) e' c' := by
  unfold mNotT; rw [wp_bind]; rfl
theorem wp_and1 {m : M Bool} {P : Bool → Env → Cel → Prop} : Wp (mAndT [m] e c) P = Wp (m e c) P := rfl
theorem wp_and2 {m m' : M Bool} {ms : List (M Bool)} {P : Bool → Env → Cel → Prop} : Wp (mAndT (m :: m' :: ms) e c) P = Wp (m e c) fun b e' c' => if b = true then Wp (mAndT (m' :: ms) e' c') P else P false e' c' := by
  show Wp (mBind m (fun b => if b = true then mAndT (m' :: ms) else fun e c => .ok false e c) e c) P = _
  rw [wp_bind]; congr 1; funext b e' c'; cases b <;> rfl
theorem wp_or1 {m : M Bool} {P : Bool → Env → Cel → Prop} : Wp (mOrT [m] e c) P = Wp (m e c) P := rfl
theorem wp_or2 {m m' : M Bool} {ms : List (M Bool)} {P : Bool → Env → Cel → Prop} : Wp (mOrT (m :: m' :: ms) e c) P = Wp (m e c) fun b e' c' => if b = true then P true e' c' else Wp (mOrT (m' :: ms) e' c') P := by
  show Wp (mBind m (fun b => if b = true then (fun e c => .ok true e c) else mOrT (m' :: ms)) e c) P = _
  rw [wp_bind]; congr 1; funext b e' c'; cases b <;> rfl
theorem wp_andv1 {m : M SV} {P : SV → Env → Cel → Prop} : Wp (mAndV [m] e c) P = Wp (m e c) P := rfl
theorem wp_andv2 {m m' : M SV} {ms : List (M SV)} {P : SV → Env → Cel → Prop} : Wp (mAndV (m :: m' :: ms) e c) P = Wp (mTV m e c) fun b e' c' => if b = true then Wp (mAndV (m' :: ms) e' c') P else P (.val (.bool false)) e' c' := by
  show Wp (mBind (mTV m) (fun b => if b = true then mAndV (m' :: ms) else mC (.bool false)) e c) P = _
  rw [wp_bind]; congr 1; funext b e' c'; cases b <;> rfl
theorem wp_orv1 {m : M SV} {P : SV → Env → Cel → Prop} : Wp (mOrV [m] e c) P = Wp (m e c) P := rfl
theorem wp_orv2 {m m' : M SV} {ms : List (M SV)} {P : SV → Env → Cel → Prop} : Wp (mOrV (m :: m' :: ms) e c) P = Wp (mTV m e c) fun b e' c' => if b = true then P (.val (.bool true)) e' c' else Wp (mOrV (m' :: ms) e' c') P := by
  show Wp (mBind (mTV m) (fun b => if b = true then mC (.bool true) else mOrV (m' :: ms)) e c) P = _
  rw [wp_bind]; congr 1; funext b e' c'; cases b <;> rfl
/-! operands -/
theorem wp_onm {i : Nat} {d : D} {P : PV → Env → Cel → Prop} (h : slotD c e[i]? = some d) : Wp (mO (.nm i) e c) P = P (.s i) e c := by
  simp only [mO, h]; rfl
def WpZ (sv : SV) (P : PV → Prop) : Prop := match sv with
  | .val d => P (.d d)
  | .own d => P (.d d)
  | .cell => False
theorem wp_oex {m : M SV} {P : PV → Env → Cel → Prop} : Wp (mO (.ex m) e c) P = Wp (m e c) fun sv e' c' => WpZ sv fun p => P p e' c' := by
  unfold mO; rw [wp_bind]; congr 1; funext sv e' c'; cases sv <;> rfl
theorem wpz_val {d : D} {P : PV → Prop} : WpZ (.val d) P = P (.d d) := rfl
theorem wpz_own {d : D} {P : PV → Prop} : WpZ (.own d) P = P (.d d) := rfl
theorem wp_os0 {P : List PV → Env → Cel → Prop} : Wp (mOs [] e c) P = P [] e c := rfl
theorem wp_os1 {o : Opnd} {os : List Opnd} {P : List PV → Env → Cel → Prop} : Wp (mOs (o :: os) e c) P = Wp (mO o e c) fun p e' c' => Wp (mOs os e' c') fun ps e' c' => P (p :: ps) e' c' := by
  show Wp (mBind (mO o) (fun p => mBind (mOs os) fun ps => fun e c => .ok (p :: ps) e c) e c) P = _
  rw [wp_bind]; congr 1; funext p e' c'; rw [wp_bind]; rfl
def WpD (e : Env) (c : Cel) (ps : List PV) (P : List D → Prop) : Prop := match rds e c ps with
  | some ds => P ds
  | none => False
theorem wp_fin {f : BF} {ps : List PV} {P : SV → Env → Cel → Prop} : Wp (mFin f ps e c) P = WpD e c ps fun ds => WpB f ds fun v => P v e c := by
  unfold mFin WpD WpB
  cases rds e c ps with
  | none => rfl
  | some ds => cases h : f ds <;> simp only [h] <;> rfl
theorem wp_ops {f : BF} {os : List Opnd} {P : SV → Env → Cel → Prop} : Wp (mOps f os e c) P = Wp (mOs os e c) fun ps e' c' => WpD e' c' ps fun ds => WpB f ds fun v => P v e' c' := by
  unfold mOps; rw [wp_bind]; congr 1; funext ps e' c'; rw [wp_fin]
theorem wpd_nil {P : List D → Prop} : WpD e c [] P = P [] := rfl
theorem wpd_d {d : D} {ps : List PV} {P : List D → Prop} : WpD e c (.d d :: ps) P = WpD e c ps fun ds => P (d :: ds) := by
  show (match (match rd e c (.d d), rds e c ps with | some d, some ds => some (d :: ds) | _, _ => none) with | some ds => P ds | none => False) = _
  unfold WpD
  cases rds e c ps <;> rfl
theorem wpd_s {i : Nat} {d : D} {ps : List PV} {P : List D → Prop} (h : slotD c e[i]? = some d) : WpD e c (.s i :: ps) P = WpD e c ps fun ds => P (d :: ds) := by
  show (match (match rd e c (.s i), rds e c ps with | some d, some ds => some (d :: ds) | _, _ => none) with | some ds => P ds | none => False) = _
  unfold WpD
  rw [show rd e c (.s i) = some d from h]
  cases rds e c ps <;> rfl
theorem sl_val {d : D} : slotD c (some (some (.val d))) = some d := rfl
theorem sl_own {d : D} : slotD c (some (some (.own d))) = some d := rfl
theorem sl_cell {x y : Int} : slotD (some (x, y)) (some (some .cell)) = some (.list [.int x, .int y]) := rfl
theorem get_0 {x : Option SV} {r : Env} : (x :: r)[0]? = some x := rfl
theorem get_s {x : Option SV} {r : Env} {n : Nat} : (x :: r)[n + 1]? = r[n]? := by simp
/-! arguments, calls -/
def WpA (sv : SV) (P : SV → Prop) : Prop := match sv with
  | .own d => P (.val d)
  | sv => P sv
theorem wp_arg {m : M SV} {P : SV → Env → Cel → Prop} : Wp (mArg m e c) P = Wp (m e c) fun sv e' c' => WpA sv fun v => P v e' c' := by
  unfold mArg; rw [wp_bind]; congr 1; funext sv e' c'; cases sv <;> rfl
theorem wpa_val {d : D} {P : SV → Prop} : WpA (.val d) P = P (.val d) := rfl
theorem wpa_own {d : D} {P : SV → Prop} : WpA (.own d) P = P (.val d) := rfl
theorem wpa_cell {P : SV → Prop} : WpA .cell P = P .cell := rfl
theorem wp_args0 {P : List SV → Env → Cel → Prop} : Wp (mArgs [] e c) P = P [] e c := rfl
theorem wp_args1 {m : M SV} {ms : List (M SV)} {P : List SV → Env → Cel → Prop} : Wp (mArgs (m :: ms) e c) P = Wp (m e c) fun sv e' c' => WpA sv fun v => Wp (mArgs ms e' c') fun vs e' c' => P (v :: vs) e' c' := by
  show Wp (mBind (mArg m) (fun v => mBind (mArgs ms) fun vs => fun e c => .ok (v :: vs) e c) e c) P = _
  rw [wp_bind, wp_arg]; congr 1; funext sv e' c'; congr 1; funext v; rw [wp_bind]; rfl
theorem args_len : ∀ {ms : List (M SV)} {e e' : Env} {c c' : Cel} {svs : List SV}, mArgs ms e c = .ok svs e' c' → svs.length = ms.length
  | [], _, _, _, _, _, h => by cases h; rfl
  | m :: ms, e, e', c, c', svs, h => by
    have h' : Wp (mArgs (m :: ms) e c) (fun a _ _ => a = svs) := by rw [h]; rfl
    have key : Wp (mArgs (m :: ms) e c) (fun a _ _ => a.length = ms.length + 1) := by
      rw [wp_args1] at h' ⊢
      refine h'.imp fun sv e1 c1 z => ?_
      have k : ∀ v, (Wp (mArgs ms e1 c1) fun vs _ _ => v :: vs = svs) → Wp (mArgs ms e1 c1) fun vs _ _ => (v :: vs).length = ms.length + 1 := fun v y => by
        cases hh : mArgs ms e1 c1 with
        | ok l e2 c2 =>
          show (v :: l).length = _
          simp [args_len hh]
        | ex => rw [hh] at y; exact y.elim
        | bad => rw [hh] at y; exact y.elim
      cases sv with
      | val d => exact k _ z
      | own d => exact k _ z
      | cell => exact k _ z
    rw [h] at key
    exact key
theorem wp_call {F : Fn} {ms : List (M SV)} {P : SV → Env → Cel → Prop} : Wp (mCall F ms e c) P = Wp (mArgs ms e c) fun svs e' c' => WpF (F svs c') fun v c'' => P v e' c'' := by
  unfold mCall; rw [wp_bind]
  cases h : mArgs ms e c with
  | bad => rfl
  | ex => rfl
  | ok svs e' c' =>
    simp only [wp_ok, args_len h, if_true]
    cases F svs c' <;> rfl
theorem wp_tup {ms : List (M SV)} {P : SV → Env → Cel → Prop} : Wp (mTup ms e c) P = Wp (mArgs ms e c) fun svs e' c' => match datas svs with | some ds => ds.length ≤ 1000 ∧ P (.val (.tuple ds)) e' c' | none => False := by
  unfold mTup; rw [wp_bind]; congr 1; funext svs e' c'
  cases datas svs with
  | none => rfl
  | some ds =>
    by_cases h : ds.length ≤ 1000
    · simp only [h, if_true, true_and]; rfl
    · simp only [h, if_false, false_and]; rfl
theorem wp_lst {ms : List (M SV)} {P : SV → Env → Cel → Prop} : Wp (mLst ms e c) P = Wp (mArgs ms e c) fun svs e' c' => match datas svs with | some ds => ds.length ≤ 1000 ∧ P (.own (.list ds)) e' c' | none => False := by
  unfold mLst; rw [wp_bind]; congr 1; funext svs e' c'
  cases datas svs with
  | none => rfl
  | some ds =>
    by_cases h : ds.length ≤ 1000
    · simp only [h, if_true, true_and]; rfl
    · simp only [h, if_false, false_and]; rfl
/-! statements -/
def WpS (fl : Fl) (A : Prop) (B : SV → Prop) : Prop := match fl with
  | .nx => A
  | .rt v => B v
theorem wp_seq {a b : M Fl} {P : Fl → Env → Cel → Prop} : Wp (mSeq a b e c) P = Wp (a e c) fun fl e' c' => WpS fl (Wp (b e' c') P) fun v => P (.rt v) e' c' := by
  unfold mSeq
  cases a e c with
  | bad => rfl
  | ex => rfl
  | ok fl e' c' => cases fl <;> rfl
theorem wps_nx {A : Prop} {B : SV → Prop} : WpS .nx A B = A := rfl
theorem wps_rt {v : SV} {A : Prop} {B : SV → Prop} : WpS (.rt v) A B = B v := rfl
theorem wp_nx {P : Fl → Env → Cel → Prop} : Wp (mNx e c) P = P .nx e c := rfl
theorem wp_drop {m : M SV} {P : Fl → Env → Cel → Prop} : Wp (mDrop m e c) P = Wp (m e c) fun _ e' c' => P .nx e' c' := by
  unfold mDrop; rw [wp_bind]; rfl
theorem wp_ret {m : M SV} {P : Fl → Env → Cel → Prop} : Wp (mRet m e c) P = Wp (m e c) fun sv e' c' => P (.rt sv) e' c' := by
  unfold mRet; rw [wp_bind]; rfl
theorem wp_set {i : Nat} {m : M SV} {P : Fl → Env → Cel → Prop} : Wp (mSet i m e c) P = Wp (m e c) fun sv e' c' => P .nx (e'.set i (some sv)) c' := by
  unfold mSet; rw [wp_bind]; rfl
theorem wp_move {i : Nat} {sv : SV} {P : SV → Env → Cel → Prop} (h : e[i]? = some (some sv)) (n : ∀ d, sv ≠ .own d) : Wp (mMove i e c) P = P sv e c := by
  unfold mMove; rw [h]
  cases sv with
  | own d => exact absurd rfl (n d)
  | val d => rfl
  | cell => rfl
theorem wp_moveO {i : Nat} {d : D} {P : SV → Env → Cel → Prop} (h : e[i]? = some (some (.own d))) : Wp (mMove i e c) P = P (.own d) (e.set i none) c := by
  unfold mMove; rw [h]; rfl
theorem wp_setcup {i : Nat} {m : M SV} {P : Fl → Env → Cel → Prop} (h : Wp (m e c) fun sv e' c' => ∃ x y, sv = .own (.list [.int x, .int y]) ∧ c' = none ∧ P .nx (e'.set i (some .cell)) (some (x, y))) : Wp (mSetCup i m e c) P := by
  unfold mSetCup; rw [wp_bind]
  refine h.imp fun sv e' c' ⟨x, y, h1, h2, h3⟩ => ?_
  subst h1 h2
  exact h3
theorem wp_vals0 {P : List SV → Env → Cel → Prop} : Wp (mVals [] e c) P = P [] e c := rfl
theorem wp_vals1 {m : M SV} {ms : List (M SV)} {P : List SV → Env → Cel → Prop} : Wp (mVals (m :: ms) e c) P = Wp (m e c) fun v e' c' => Wp (mVals ms e' c') fun vs e' c' => P (v :: vs) e' c' := by
  show Wp (mBind m (fun v => mBind (mVals ms) fun vs => fun e c => .ok (v :: vs) e c) e c) P = _
  rw [wp_bind]; congr 1; funext sv e' c'; rw [wp_bind]; rfl
theorem wp_par {is : List Nat} {ms : List (M SV)} {P : Fl → Env → Cel → Prop} : Wp (mPar is ms e c) P = Wp (mVals ms e c) fun svs e' c' => match sets e' is svs with | some e' => P .nx e' c' | none => False := by
  unfold mPar; rw [wp_bind]; congr 1; funext svs e' c'
  cases sets e' is svs <;> rfl
theorem wp_asgT {t : Tgt} {m : M SV} {P : Fl → Env → Cel → Prop} : Wp (mAsgT t m e c) P = Wp (m e c) fun sv e' c' => WpA sv fun sv => match sv with | .val d => (match mTgt t d e' with | some e' => P .nx e' c' | none => False) | _ => False := by
  unfold mAsgT; rw [wp_bind, wp_arg]; congr 1; funext sv e' c'; congr 1; funext sv
  cases sv with
  | own d => rfl
  | cell => rfl
  | val d => cases h : mTgt t d e' <;> simp only [h] <;> rfl
theorem wp_for {it : M (List D)} {t : Tgt} {body : M Fl} {P : Fl → Env → Cel → Prop} : Wp (mFor it t body e c) P = Wp (it e c) fun ds e' c' => Wp (forT t body ds e' c') P := by
  unfold mFor; rw [wp_bind]
theorem wp_rng1 {o : Opnd} {P : List D → Env → Cel → Prop} : Wp (mRng1 o e c) P = Wp (mO o e c) fun p e' c' => WpD e' c' [p] fun ds => match ds with | [.int j] => okR j ∧ P (rngD 0 j.toNat) e' c' | _ => False := by
  unfold mRng1 mInts mOs mOs; simp only [wp_bind]; congr 1; funext p e' c'
  simp only [wp_ok, wp_bind]
  unfold WpD
  cases h : rds e' c' [p] with
  | none => simp only [h]; rfl
  | some ds =>
    simp only [h]
    match ds with
    | [] => rfl
    | [.int j] =>
      show Wp (if okR j then R.ok (rngD 0 j.toNat) e' c' else .bad) P = (okR j ∧ P (rngD 0 j.toNat) e' c')
      by_cases h : okR j
      · rw [if_pos h]
        exact propext ⟨fun z => ⟨h, z⟩, fun z => z.2⟩
      · rw [if_neg h]
        exact propext ⟨fun z => z.elim, fun z => absurd z.1 h⟩
    | .int j :: .int k :: r => cases h : intsOf r <;> simp only [intsOf, h] <;> rfl
    | .int j :: .none :: r => rfl
    | .int j :: .bool _ :: r => rfl
    | .int j :: .str _ :: r => rfl
    | .int j :: .list _ :: r => rfl
    | .int j :: .tuple _ :: r => rfl
    | .int j :: .dict _ :: r => rfl
    | .none :: r => rfl
    | .bool _ :: r => rfl
    | .str _ :: r => rfl
    | .list _ :: r => rfl
    | .tuple _ :: r => rfl
    | .dict _ :: r => rfl
theorem wpf_runB {N : Nat} {m : M Fl} {args : List SV} {P : SV → Cel → Prop} : WpF (runB N m args c) P = Wp (m (args.map some ++ List.replicate (N - args.length) none) c) fun fl _ c' => WpS fl (P (.val .none) c') fun v => P v c' := by
  unfold runB
  cases m (args.map some ++ List.replicate (N - args.length) none) c with
  | bad => rfl
  | ex => rfl
  | ok fl e' c' => cases fl <;> rfl
/-- a while loop: a measure falls, an invariant stays -/
theorem wp_while {t : M Bool} {body : M Fl} {P : Fl → Env → Cel → Prop} (I : Nat → Env → Cel → Prop) (hb : ∀ k e c, I k e c → Wp (t e c) fun b e' c' => if b = true then Wp (body e' c') fun fl e'' c'' => WpS fl (∃ k', k' < k ∧ I k' e'' c'') fun v => P (.rt v) e'' c'' else P .nx e' c') :
    ∀ (n k : Nat) (e : Env) (c : Cel), I k e c → k < n → Wp (mWhile t body n e c) P
  | 0, k, _, _, _, h => by omega
  | n + 1, k, e, c, hI, h => by
    unfold mWhile
    rw [wp_if]
    refine (hb k e c hI).imp fun b e' c' z => ?_
    split at z
    · rw [if_pos (by assumption), wp_seq]
      refine z.imp fun fl e2 c2 y => ?_
      cases fl with
      | nx =>
        obtain ⟨k', h1, h2⟩ := y
        exact wp_while I hb n k' e2 c2 h2 (by omega)
      | rt v => exact y
    · rw [if_neg (by assumption)]; exact z
/-- a for loop over whole numbers, an invariant by the numbers still to come -/
theorem wp_forI {t : Tgt} {body : M Fl} {P : Fl → Env → Cel → Prop} (I : List D → Env → Cel → Prop) (hb : ∀ d ds e c, I (d :: ds) e c → ∃ e1, mTgt t d e = some e1 ∧ Wp (body e1 c) fun fl e' c' => WpS fl (I ds e' c') fun v => P (.rt v) e' c') (h0 : ∀ e c, I [] e c → P .nx e c) :
    ∀ (ds : List D) (e : Env) (c : Cel), I ds e c → Wp (forT t body ds e c) P
  | [], e, c, h => h0 e c h
  | d :: ds, e, c, h => by
    obtain ⟨e1, h1, h2⟩ := hb d ds e c h
    unfold forT
    rw [h1]
    show Wp (mSeq body (forT t body ds) e1 c) P
    rw [wp_seq]
    refine h2.imp fun fl e' c' z => ?_
    cases fl with
    | nx => exact wp_forI I hb h0 ds e' c' z
    | rt v => exact z
end
end Ev

/-! The laws' own helpers: the cup, the roll, the pick, the comparison. -/
namespace Ev
open PySem PySem.Spec PyProof.Rows L2
section
variable {e : Env} {c : Cel}
theorem wb_add {a b : Int} {P : SV → Prop} : WpB fAdd [.int a, .int b] P = P (.val (.int (a + b))) := rfl
theorem wb_sub {a b : Int} {P : SV → Prop} : WpB fSub [.int a, .int b] P = P (.val (.int (a - b))) := rfl
theorem wb_lt {a b : Int} {P : SV → Prop} : WpB fLt [.int a, .int b] P = P (.val (.bool (decide (a < b)))) := rfl
theorem wb_le {a b : Int} {P : SV → Prop} : WpB fLe [.int a, .int b] P = P (.val (.bool (decide (a ≤ b)))) := rfl
theorem wb_gt {a b : Int} {P : SV → Prop} : WpB fGt [.int a, .int b] P = P (.val (.bool (decide (b < a)))) := rfl
theorem wb_ge {a b : Int} {P : SV → Prop} : WpB fGe [.int a, .int b] P = P (.val (.bool (decide (b ≤ a)))) := rfl
theorem wb_abs {a : Int} {P : SV → Prop} : WpB fAbs [.int a] P = P (.val (.int (if a < 0 then -a else a))) := rfl
theorem wb_int {a : Int} {P : SV → Prop} : WpB fInt [.int a] P = P (.val (.int a)) := rfl
theorem wb_list {a : List D} {P : SV → Prop} : WpB fList [.list a] P = P (.own (.list a)) := rfl
theorem wb_listT {a : List D} {P : SV → Prop} : WpB fList [.tuple a] P = P (.own (.list a)) := rfl
theorem wb_lenL {a : List D} {P : SV → Prop} : WpB fLen [.list a] P = P (.val (.int a.length)) := rfl
theorem wb_lenT {a : List D} {P : SV → Prop} : WpB fLen [.tuple a] P = P (.val (.int a.length)) := rfl
theorem wb_isi {T : String} {d : D} {P : SV → Prop} : WpB (fIsi T) [d] P = P (.val (.bool (isSub (tyNm d) T))) := rfl
theorem wb_isN {d : D} {P : SV → Prop} : WpB fIs [d, .none] P = P (.val (.bool (isNone d))) := by cases d <;> rfl
theorem wb_isB {a b : Bool} {P : SV → Prop} : WpB fIs [.bool a, .bool b] P = P (.val (.bool (a == b))) := rfl
theorem wb_mul {a b : Int} {P : SV → Prop} (h : CMul a b ∨ CMulW a b) : WpB fMul [.int a, .int b] P = P (.val (.int (a * b))) := by
  unfold WpB fMul; simp only [h, if_true]
theorem wb_div {a b : Int} {P : SV → Prop} (h : 0 < b ∧ b < 18446744073709551616) : WpB fDiv [.int a, .int b] P = P (.val (.int (a / b))) := by
  unfold WpB fDiv; simp only [h, and_self, if_true]
theorem wb_mod {a b : Int} {P : SV → Prop} (h : 0 < b) : WpB fMod [.int a, .int b] P = P (.val (.int (a % b))) := by
  unfold WpB fMod; simp only [h, if_true]
theorem eqv_int {a b : Int} : PyData.eqv (.int a) (.int b) = decide (a = b) := by
  by_cases h : a = b <;> simp [PyData.eqv, h]
theorem wb_eqI {a b : Int} {P : SV → Prop} : WpB fEq [.int a, .int b] P = P (.val (.bool (decide (a = b)))) := by
  rw [← eqv_int]; rfl
theorem wb_neI {a b : Int} {P : SV → Prop} : WpB fNe [.int a, .int b] P = P (.val (.bool (!decide (a = b)))) := by
  rw [← eqv_int]; rfl
theorem eqv_bool {a b : Bool} : PyData.eqv (.bool a) (.bool b) = (a == b) := by
  cases a <;> cases b <;> rfl
theorem wb_neB {a b : Bool} {P : SV → Prop} : WpB fNe [.bool a, .bool b] P = P (.val (.bool (!(a == b)))) := by
  rw [← eqv_bool]; rfl
theorem wb_eqB {a b : Bool} {P : SV → Prop} : WpB fEq [.bool a, .bool b] P = P (.val (.bool (a == b))) := by
  rw [← eqv_bool]; rfl
theorem atI_nat {ds : List D} {i : Nat} {d : D} (h : ds[i]? = some d) : atI ds (i : Int) = some d := by
  have hl : i < ds.length := (List.getElem?_eq_some_iff.mp h).1
  unfold atI ixN
  rw [if_pos (by omega), if_pos (by omega)]
  exact h
theorem at2_0 {a b : D} : atI [a, b] 0 = some a := rfl
theorem at2_1 {a b : D} : atI [a, b] 1 = some b := rfl
theorem wb_ixL {ds : List D} {i : Nat} {d : D} {P : SV → Prop} (h : ds[i]? = some d) : WpB fIx [.list ds, .int i] P = P (.val d) := by
  have : atI ds (i : Int) = some d := atI_nat h
  unfold WpB fIx; simp only [this]
theorem wb_ixT {ds : List D} {i : Nat} {d : D} {P : SV → Prop} (h : ds[i]? = some d) : WpB fIx [.tuple ds, .int i] P = P (.val d) := by
  have : atI ds (i : Int) = some d := atI_nat h
  unfold WpB fIx; simp only [this]
theorem wp_mul_small {a b : Int} (h : (-(2 ^ 64) < a ∧ a < 2 ^ 64) ∨ (-(2 ^ 64) < b ∧ b < 2 ^ 64)) : CMul a b ∨ CMulW a b := .inl h
end
def CI (c : Cel) : Prop := ∃ x y, c = some (x, y) ∧ 0 ≤ x ∧ 0 ≤ y ∧ y < 2 ^ 40
local macro_rules | `(tactic| walk_at "ev") => `(tactic| (simp only [wpf_runB, List.map_cons, List.map_nil, List.length_cons, List.length_nil, List.replicate, Nat.reduceSub, Nat.reduceAdd, List.cons_append, List.nil_append, wp_seq, wp_if, wp_tv, wpt_b, wp_vt, wp_not, wp_and1, wp_and2, wp_or1, wp_or2, wp_andv1, wp_andv2, wp_orv1, wp_orv2,
  wp_ops, wp_os0, wp_os1, wp_oex, wp_c, wpz_val, wpz_own, wpd_nil, wpd_d, wp_call, wp_args0, wp_args1, wpa_val, wpa_own, wpa_cell, wp_tup, wp_lst, datas, wps_nx, wps_rt, wp_nx, wp_drop, wp_ret, wp_set, wp_vals0, wp_vals1, wp_par, sets, get_0, get_s, sl_val, sl_own, sl_cell, List.set_cons_zero, List.set_cons_succ,
  wp_onm (e := _ :: _) (i := 0) rfl]))
/-! ### the roll -/
def rollP (A B M C M2 D : Int) : Fn := runB 4 (mSeq (mIf (mTV (mOps fGt [.ex (mOps fIx [.nm 0, .ex (mC (.int 0))]), .ex (mC (.int 0))]))
  (mSeq (mSet 2 (mOps fMod [.ex (mOps fInt [.ex (mOps fIx [.nm 0, .ex (mC (.int 0))])]), .nm 1]))
  (mSeq (mStore 0 putL (mOps fDiv [.ex (mOps fIx [.nm 0, .ex (mC (.int 0))]), .nm 1]) (.ex (mC (.int 0))))
  (mRet (mMove 2))))
  (mNx))
  (mSeq (mStore 0 putL (mOps fMod [.ex (mOps fInt [.ex (mOps fAdd [.ex (mOps fMul [.ex (mOps fIx [.nm 0, .ex (mC (.int 1))]), .ex (mC (.int A))]), .ex (mC (.int B))])]), .ex (mC (.int M))]) (.ex (mC (.int 1))))
  (mSeq (mSet 3 (mOps fMod [.ex (mOps fInt [.ex (mOps fMul [.ex (mOps fIx [.nm 0, .ex (mC (.int 1))]), .ex (mOps fAdd [.ex (mOps fIx [.nm 0, .ex (mC (.int 1))]), .ex (mC (.int C))])])]), .ex (mC (.int M2))]))
  (mRet (mOps fMod [.ex (mOps fInt [.ex (mOps fDiv [.nm 3, .ex (mC (.int D))])]), .nm 1])))))
def RollOk (F : Fn) : Prop := ∀ c m, CI c → 0 < m → m < 2 ^ 62 → WpF (F [.cell, .val (.int m)] c) fun v c' => ∃ r, v = .val (.int r) ∧ CI c' ∧ 0 ≤ r ∧ r < m
theorem roll_ok {A B M C M2 D : Int} (hA : 0 ≤ A ∧ A < 2 ^ 40) (hM : 0 < M ∧ M < 2 ^ 40) (hM2 : 0 < M2 ∧ M2 < 2 ^ 40) (hD : 0 < D ∧ D < 2 ^ 40) : RollOk (rollP A B M C M2 D) := by
  rintro c m ⟨x, y, rfl, hx, hy, hy2⟩ hm hm2
  by_cases h : 0 < x
  · have e : rollP A B M C M2 D [.cell, .val (.int m)] (some (x, y)) = .ok (.val (.int (x % m))) (some (x / m, y)) := by
      have h1 : decide (0 < x) = true := by simpa using h
      have h2 : 0 < m ∧ m < 18446744073709551616 := ⟨hm, by omega⟩
      simp [rollP, runB, mSeq, mIf, mTV, mOps, mOs, mO, mBind, slotD, rds, rd, mFin, frz, fIx, at2_0, at2_1, mC, fGt, h1, mSet, fInt, fMod, hm, mStore, mArg, mHas, fDiv, h2, putIx, mRet, mMove, h]
    rw [e]
    exact ⟨_, rfl, ⟨_, _, rfl, Int.ediv_nonneg hx (by omega), hy, hy2⟩, Int.emod_nonneg _ (by omega), Int.emod_lt_of_pos _ hm⟩
  · have h3 : CMul y A ∨ CMulW y A := .inl (.inr ⟨by omega, by omega⟩)
    have h4 : ∀ z, CMul ((y * A + B) % M) z ∨ CMulW ((y * A + B) % M) z := fun z => .inl (.inl ⟨by have := Int.emod_nonneg (y * A + B) (show M ≠ 0 by omega); omega, by have := Int.emod_lt_of_pos (y * A + B) hM.1; omega⟩)
    have e : rollP A B M C M2 D [.cell, .val (.int m)] (some (x, y)) = .ok (.val (.int (((y * A + B) % M * ((y * A + B) % M + C)) % M2 / D % m))) (some (x, (y * A + B) % M)) := by
      have h1 : decide (0 < x) = false := by simpa using h
      have h2 : 0 < D ∧ D < 18446744073709551616 := ⟨hD.1, by omega⟩
      simp [rollP, runB, mSeq, mIf, mTV, mOps, mOs, mO, mBind, slotD, rds, rd, mFin, frz, fIx, at2_0, at2_1, mC, fGt, h1, mSet, fInt, fMod, hm, mStore, mArg, mHas, fDiv, h2, putIx, mRet, mMove, h, mNx, fMul, h3, fAdd, hM.1, h4, hM2.1]
    rw [e]
    exact ⟨_, rfl, ⟨_, _, rfl, hx, Int.emod_nonneg _ (by omega), by have := Int.emod_lt_of_pos (y * A + B) hM.1; omega⟩, Int.emod_nonneg _ (by omega), Int.emod_lt_of_pos _ hm⟩
theorem RollOk.use {F : Fn} (h : RollOk F) {c : Cel} {m : Int} {P : SV → Cel → Prop} (hc : CI c) (h1 : 0 < m) (h2 : m < 2 ^ 62) (k : ∀ r c', CI c' → 0 ≤ r → r < m → P (.val (.int r)) c') : WpF (F [.cell, .val (.int m)] c) P :=
  (h c m hc h1 h2).imp fun _ _ ⟨r, e, a, b, d⟩ => e ▸ k r _ a b d
/-! ### the pick -/
def someP (roll : Fn) : Fn := runB 2 (mRet (mOps fIx [.nm 1, .ex (mCall roll [mVar 0, mOps fLen [.nm 1]])]))
def SomeOk (F : Fn) : Prop := ∀ (c : Cel) (ds : List D) (P : SV → Cel → Prop), CI c → 0 < ds.length → ds.length < 2 ^ 60 → (∀ d ∈ ds, ∀ c', CI c' → P (.val d) c') → WpF (F [.cell, .val (.list ds)] c) P
theorem some_ok {roll : Fn} (h : RollOk roll) : SomeOk (someP roll) := by
  intro c ds P hc h0 h1 k
  unfold someP
  rw [wpf_runB, wp_ret, wp_ops, wp_os1]
  rw [wp_onm (d := .list ds) rfl, wp_os1, wp_oex, wp_call, wp_args1, wp_var (sv := .cell) rfl (fun d => by simp), wpa_cell, wp_args1, wp_ops, wp_os1, wp_onm (d := .list ds) rfl, wp_os0, wpd_s (d := .list ds) rfl, wpd_nil, wb_lenL, wpa_val, wp_args0]
  refine h.use hc (by omega) (by omega) fun r c' hc' r0 r1 => ?_
  obtain ⟨j, rfl⟩ := Int.eq_ofNat_of_zero_le r0
  rw [wpz_val, wp_os0, wpd_s (d := .list ds) rfl, wpd_d, wpd_nil, wb_ixL (d := ds[j]'(by omega)) (by simp)]
  exact k _ (List.getElem_mem _) _ hc'
/-! ### the cup -/
def cupP (Cd A B M Dd : Int) : Fn := runB 2 (mSeq (mSet 1 (mOps fAbs [.ex (mOps fIx [.ex (mOps fAdd [.ex (mOps fList [.nm 0]), .ex (mLst [mC (.int 0)])]), .ex (mC (.int 0))])]))
  (mRet (mLst [mIf (mTV (mOps fGe [.nm 1, .ex (mOps fPow [.ex (mC (.int 10)), .ex (mC (.int 18))])])) (mOps fDiv [.nm 1, .ex (mC (.int Cd))]) (mC (.int 0)), mOps fAdd [.ex (mOps fMod [.ex (mOps fInt [.ex (mOps fAdd [.ex (mOps fMul [.nm 1, .ex (mC (.int A))]), .ex (mC (.int B))])]), .ex (mC (.int M))]), .ex (mC (.int Dd))]])))
def CupOk (F : Fn) : Prop := ∀ ns : List Int, ns.length ≤ 63 → WpF (F [.val (.list (ns.map PyData.int))] none) fun v c => ∃ x y, v = .own (.list [.int x, .int y]) ∧ c = none ∧ CI (some (x, y))
theorem cup_ok {Cd A B M Dd : Int} (hC : 0 < Cd ∧ Cd < 2 ^ 40) (hA : 0 ≤ A ∧ A < 2 ^ 40) (hM : 0 < M ∧ M < 2 ^ 39) (hD : 0 ≤ Dd ∧ Dd < 2 ^ 39) : CupOk (cupP Cd A B M Dd) := by
  intro ns hl
  obtain ⟨z, hz⟩ : ∃ z : Int, (ns.map PyData.int ++ [PyData.int 0])[0]? = some (.int z) := by
    cases ns with
    | nil => exact ⟨0, rfl⟩
    | cons a r => exact ⟨a, rfl⟩
  have hz' : atI (ns.map PyData.int ++ [PyData.int 0]) 0 = some (.int z) := atI_nat (i := 0) hz
  have hlen : (ns.map PyData.int).length + [PyData.int 0].length ≤ 16777216 := by simp; omega
  have hp : CPow 10 18 := by unfold CPow; decide
  generalize hw : (if z < 0 then -z else z) = w
  have w0 : 0 ≤ w := by split at hw <;> omega
  have h3 : CMul w A ∨ CMulW w A := .inl (.inr ⟨by omega, by omega⟩)
  have h2 : 0 < Cd ∧ Cd < 18446744073709551616 := ⟨hC.1, by omega⟩
  have e : ∃ x, 0 ≤ x ∧ cupP Cd A B M Dd [.val (.list (ns.map PyData.int))] none = .ok (.own (.list [.int x, .int ((w * A + B) % M + Dd)])) none := by
    have hlen' : ns.length + 1 ≤ 16777216 := by omega
    by_cases h : (10 : Int) ^ 18 ≤ w
    · refine ⟨w / Cd, Int.ediv_nonneg w0 (by omega), ?_⟩
      have h' : (1000000000000000000 : Int) ≤ w := by simpa using h
      simp [cupP, runB, mSeq, mIf, mTV, mOps, mOs, mO, mBind, slotD, rds, rd, mFin, frz, fIx, hz', mC, fGe, mSet, fInt, fMod, mArg, mArgs, mLst, datas, fDiv, h2, mRet, h', fMul, h3, fAdd, hM.1, fList, fAbs, hw, fPow, hlen']
    · refine ⟨0, by omega, ?_⟩
      have h' : ¬ (1000000000000000000 : Int) ≤ w := by simpa using h
      simp [cupP, runB, mSeq, mIf, mTV, mOps, mOs, mO, mBind, slotD, rds, rd, mFin, frz, fIx, hz', mC, fGe, mSet, fInt, fMod, mArg, mArgs, mLst, datas, fDiv, h2, mRet, h', fMul, h3, fAdd, hM.1, fList, fAbs, hw, fPow, hlen']
  obtain ⟨x, x0, e⟩ := e
  rw [e]
  refine ⟨_, _, rfl, rfl, _, _, rfl, x0, ?_, ?_⟩
  · have := Int.emod_nonneg (w * A + B) (show M ≠ 0 by omega); omega
  · have := Int.emod_lt_of_pos (w * A + B) hM.1; omega
end Ev

/-! The comparison of the laws; comprehensions. -/
namespace Ev
open PySem PySem.Spec PyProof.Rows L2
theorem compT_none {own : List Nat} {t : Tgt} {ifs : M Bool} {elt : M SV} {w0 : Env} {c : Cel} : ∀ {ds : List D} {e : Env}, (∀ d ∈ ds, ∃ e1, mTgt t d w0 = some e1 ∧ ifs e1 c = .ok false e1 c ∧ wipeE e1 own = w0) → wipeE e own = w0 → compT own t ifs elt ds e c = .ok [] w0 c
  | [], e, _, h => by unfold compT; rw [h]
  | d :: ds, e, k, h => by
    obtain ⟨e1, h1, h2, h3⟩ := k d (by simp)
    unfold compT
    rw [h, h1]
    show mBind ifs _ e1 c = _
    unfold mBind
    rw [h2]
    exact compT_none (fun d hd => k d (by simp [hd])) h3
/-- a comprehension, by an invariant over what is to come, what is made, the cell -/
theorem wp_compT {own : List Nat} {t : Tgt} {ifs : M Bool} {elt : M SV} {w0 : Env} (I : List D → List D → Cel → Prop)
    (hb : ∀ d ds acc c, I (d :: ds) acc c → ∃ e1, mTgt t d w0 = some e1 ∧ Wp (ifs e1 c) fun b e2 c2 => if b = true then Wp (elt e2 c2) fun sv e3 c3 => WpA sv fun v => ∃ x, v = .val x ∧ wipeE e3 own = w0 ∧ I ds (acc ++ [x]) c3 else wipeE e2 own = w0 ∧ I ds acc c2) :
    ∀ (ds acc : List D) (e : Env) (c : Cel), wipeE e own = w0 → I ds acc c → Wp (compT own t ifs elt ds e c) fun r e' c' => e' = w0 ∧ I [] (acc ++ r) c'
  | [], acc, e, c, h, i => by
    unfold compT
    exact ⟨h, by simpa using i⟩
  | d :: ds, acc, e, c, h, i => by
    obtain ⟨e1, h1, h2⟩ := hb d ds acc c i
    unfold compT
    rw [h, h1]
    show Wp (mBind ifs _ e1 c) _
    rw [wp_bind]
    refine h2.imp fun b e2 c2 z => ?_
    cases b with
    | false => exact wp_compT I hb ds acc e2 c2 z.1 z.2
    | true =>
      show Wp (mBind (mArg elt) _ e2 c2) _
      rw [wp_bind, wp_arg]
      have z : Wp (elt e2 c2) fun sv e3 c3 => WpA sv fun v => ∃ x, v = .val x ∧ wipeE e3 own = w0 ∧ I ds (acc ++ [x]) c3 := z
      refine z.imp fun sv e3 c3 y => ?_
      have key : ∀ x, wipeE e3 own = w0 ∧ I ds (acc ++ [x]) c3 → Wp (mBind (compT own t ifs elt ds) (fun r => fun e c => .ok (x :: r) e c) e3 c3) fun r e' c' => e' = w0 ∧ I [] (acc ++ r) c' := fun x ⟨y1, y2⟩ => by
        rw [wp_bind]
        refine (wp_compT I hb ds (acc ++ [x]) e3 c3 y1 y2).imp fun r e4 c4 ⟨q1, q2⟩ => ?_
        exact ⟨q1, by simpa using q2⟩
      cases sv with
      | val v => obtain ⟨x, e, y⟩ := y; cases e; exact key _ y
      | own v => obtain ⟨x, e, y⟩ := y; cases e; exact key _ y
      | cell => obtain ⟨x, e, y⟩ := y; cases e
theorem wp_noX {α : Type} {m : M α} {e : Env} {c : Cel} {P : α → Env → Cel → Prop} : Wp (mNoX m e c) P = Wp (m e c) P := by
  unfold mNoX; cases m e c <;> rfl
theorem wp_comp {own : List Nat} {it : M (List D)} {t : Tgt} {ifs : M Bool} {elt : M SV} {e : Env} {c : Cel} {P : SV → Env → Cel → Prop}
    (h : Wp (it e c) fun ds e' c' => ds.length ≤ 16777216 ∧ noOwn e' own = true ∧ (∀ i ∈ t.slots, i ∈ own) ∧ Wp (compT own t ifs elt ds e' c') fun r e2 c2 => P (.own (.list r)) (restE e' e2 own) c2) : Wp (mComp own it t ifs elt e c) P := by
  unfold mComp
  rw [wp_bind]
  refine h.imp fun ds e' c' ⟨h1, h2, h3, h4⟩ => ?_
  rw [if_pos ⟨h1, h2, h3⟩, wp_bind, wp_noX]
  exact h4
/-! ### the comparison -/
def sameP (f : Fn) : Fn := runB 3 (mSeq (mIf (mOrT [mTV (mOps (fIsi "tuple") [.nm 1]), mTV (mOps (fIsi "list") [.nm 1])])
  (mSeq (mIf (mOrT [mTV (mOps fNe [.ex (mOps (fIsi "tuple") [.nm 0]), .ex (mOps (fIsi "tuple") [.nm 1])]), mTV (mOps fNe [.ex (mOps (fIsi "list") [.nm 0]), .ex (mOps (fIsi "list") [.nm 1])]), mTV (mOps fNe [.ex (mOps fLen [.nm 0]), .ex (mOps fLen [.nm 1])])])
  (mRet (mC (.bool false)))
  (mNx))
  (mRet (mOps fEq [.ex (mComp [2] (mRng1 (.ex (mOps fLen [.nm 1]))) (.nm 2) (mIfs [mNotT (mTV (mCall f [mOps fIx [.nm 0, .nm 2], mOps fIx [.nm 1, .nm 2]]))]) (mC (.int 1))), .ex (mLst [])])))
  (mNx))
  (mSeq (mIf (mTV (mOps fIs [.nm 1, .ex (mC .none)]))
  (mRet (mOps fIs [.nm 0, .ex (mC .none)]))
  (mNx))
  (mSeq (mIf (mTV (mOps (fIsi "bool") [.nm 1]))
  (mRet (mIf (mTV (mVar 1)) (mOps fIs [.nm 0, .ex (mC (.bool true))]) (mOps fIs [.nm 0, .ex (mC (.bool false))])))
  (mNx))
  (mSeq (mIf (mTV (mOps (fIsi "int") [.nm 1]))
  (mRet (mAndV [mOps (fIsi "int") [.nm 0], mVT (mNotT (mTV (mOps (fIsi "bool") [.nm 0]))), mOps fEq [.ex (mOps fInt [.nm 0]), .nm 1]]))
  (mNx))
  (mRet (mAndV [mOps (fIsi "str") [.nm 0], mOps fEq [.ex (mOps fStr [.nm 0]), .nm 1]]))))))
def szOk : Nat → D → Prop
  | 0, _ => False
  | n + 1, .list ds => ds.length ≤ 1000000 ∧ ∀ d ∈ ds, szOk n d
  | n + 1, .tuple ds => ds.length ≤ 1000000 ∧ ∀ d ∈ ds, szOk n d
  | _ + 1, .dict _ => False
  | _ + 1, _ => True
theorem ne_self {b : Bool} : fNe [.bool b, .bool b] = some (.val (.bool false)) := by cases b <;> rfl
theorem ne_int {b : Int} : fNe [.int b, .int b] = some (.val (.bool false)) := by
  show some (SV.val (.bool (!PyData.eqv (.int b) (.int b)))) = _
  rw [eqv_int]; simp
theorem eq_int {b : Int} : fEq [.int b, .int b] = some (.val (.bool true)) := by
  show some (SV.val (.bool (PyData.eqv (.int b) (.int b)))) = _
  rw [eqv_int]; simp
theorem eq_str {b : Str} : fEq [.str b, .str b] = some (.val (.bool true)) := by
  show some (SV.val (.bool (PyData.eqv (.str b) (.str b)))) = _
  simp [PyData.eqv]
theorem rng_mem {n : Nat} {d : D} (h : d ∈ rngD 0 n) : ∃ k : Nat, k < n ∧ d = .int k := by
  unfold rngD at h
  obtain ⟨k, hk, e⟩ := List.mem_map.mp h
  exact ⟨k, List.mem_range.mp hk, by rw [← e]; simp⟩
theorem rng_len {lo : Int} {n : Nat} : (rngD lo n).length = n := by simp [rngD]
theorem same_seq {f : Fn} {c : Cel} {d : D} {ds : List D} {tu li : Bool} (ht : fIsi "tuple" [d] = some (.val (.bool tu))) (hi : fIsi "list" [d] = some (.val (.bool li))) (hor : (tu || li) = true) (hlen : fLen [d] = some (.val (.int ds.length))) (hix : ∀ k : Nat, k < ds.length → fIx [d, .int k] = some (.val (ds[k]?.getD .none)))
    (hl : ds.length ≤ 1000000) (hf : ∀ x ∈ ds, f [.val x, .val x] c = .ok (.val (.bool true)) c) : sameP f [.val d, .val d] c = .ok (.val (.bool true)) c := by
  have hc : mComp [2] (mRng1 (.ex (mOps fLen [.nm 1]))) (.nm 2) (mIfs [mNotT (mTV (mCall f [mOps fIx [.nm 0, .nm 2], mOps fIx [.nm 1, .nm 2]]))]) (mC (.int 1)) [some (.val d), some (.val d), none] c = .ok (.own (.list [])) [some (.val d), some (.val d), none] c := by
    have hr : mRng1 (.ex (mOps fLen [.nm 1])) [some (.val d), some (.val d), none] c = .ok (rngD 0 ds.length) [some (.val d), some (.val d), none] c := by
      have ok : okR (ds.length : Int) := ⟨by omega, by omega⟩
      simp [mRng1, mInts, mOps, mOs, mO, mBind, slotD, rds, rd, mFin, frz, hlen, intsOf, ok] <;> omega
    unfold mComp mBind
    rw [hr]
    have h2 : (rngD 0 ds.length).length ≤ 16777216 ∧ noOwn [some (.val d), some (.val d), none] [2] = true ∧ (∀ i ∈ (Tgt.nm 2).slots, i ∈ [2]) := ⟨by rw [rng_len]; omega, rfl, by intro i h; simpa [Tgt.slots] using h⟩
    simp only []
    rw [if_pos h2]
    have h3 : compT [2] (.nm 2) (mIfs [mNotT (mTV (mCall f [mOps fIx [.nm 0, .nm 2], mOps fIx [.nm 1, .nm 2]]))]) (mC (.int 1)) (rngD 0 ds.length) [some (.val d), some (.val d), none] c = .ok [] [some (.val d), some (.val d), none] c := by
      refine compT_none (fun x hx => ?_) rfl
      obtain ⟨k, hk, rfl⟩ := rng_mem hx
      refine ⟨_, rfl, ?_, rfl⟩
      have hk' := hix k hk
      have hm : ds[k]?.getD .none ∈ ds := by
        rw [List.getElem?_eq_getElem hk]
        exact List.getElem_mem hk
      have hf' := hf _ hm
      generalize ds[k]?.getD .none = x at *
      simp [mIfs, mNotT, mTV, mCall, mArgs, mArg, mOps, mOs, mO, mBind, slotD, rds, rd, mFin, frz, hk', hf']
    unfold mNoX
    rw [h3]
    rfl
  unfold sameP
  generalize mComp [2] (mRng1 (.ex (mOps fLen [.nm 1]))) (.nm 2) (mIfs [mNotT (mTV (mCall f [mOps fIx [.nm 0, .nm 2], mOps fIx [.nm 1, .nm 2]]))]) (mC (.int 1)) = G at hc ⊢
  have he : fEq [.list [], .list []] = some (.val (.bool true)) := rfl
  cases tu with
  | true => simp [runB, mSeq, mIf, mOrT, mTV, mOps, mOs, mO, mBind, slotD, rds, rd, mFin, frz, mC, mRet, mNx, ht, hi, hlen, ne_self, ne_int, hc, he, mLst, mArgs, datas]
  | false =>
    cases li with
    | true => simp [runB, mSeq, mIf, mOrT, mTV, mOps, mOs, mO, mBind, slotD, rds, rd, mFin, frz, mC, mRet, mNx, ht, hi, hlen, ne_self, ne_int, hc, he, mLst, mArgs, datas]
    | false => cases hor
theorem same_eq {f : Nat → Fn} (hf : ∀ n, f (n + 1) = sameP (f n)) : ∀ (n : Nat) (d : D) (c : Cel), szOk n d → f n [.val d, .val d] c = .ok (.val (.bool true)) c
  | 0, _, _, h => h.elim
  | n + 1, d, c, h => by
    rw [hf]
    cases d with
    | dict ps => exact h.elim
    | list ds => exact same_seq (ds := ds) (tu := false) (li := true) rfl rfl rfl rfl (fun k hk => by
        have := wb_ixL (P := fun v => v = SV.val (ds[k]?.getD .none)) (i := k) (ds := ds) (d := ds[k]?.getD .none) (by simp [hk])
        show (match atI ds (k : Int) with | some d => some (SV.val d) | none => none) = _
        rw [atI_nat (d := ds[k]?.getD .none) (by simp [hk])]) h.1 (fun x hx => same_eq hf n x c (h.2 x hx))
    | tuple ds => exact same_seq (ds := ds) (tu := true) (li := false) rfl rfl rfl rfl (fun k hk => by
        show (match atI ds (k : Int) with | some d => some (SV.val d) | none => none) = _
        rw [atI_nat (d := ds[k]?.getD .none) (by simp [hk])]) h.1 (fun x hx => same_eq hf n x c (h.2 x hx))
    | none => rfl
    | bool b => cases b <;> rfl
    | int i =>
      have h1 : ∀ T, fIsi T [.int i] = some (.val (.bool (isSub "int" T))) := fun T => rfl
      have h2 : fIs [.int i, .none] = some (.val (.bool false)) := rfl
      have h3 : fInt [.int i] = some (.val (.int i)) := rfl
      have i1 : isSub "int" "tuple" = false := by decide
      have i2 : isSub "int" "list" = false := by decide
      have i3 : isSub "int" "bool" = false := by decide
      have i4 : isSub "int" "int" = true := by decide
      simp [sameP, runB, mSeq, mIf, mOrT, mTV, mOps, mOs, mO, mBind, slotD, rds, rd, mFin, frz, mC, mRet, mNx, h1, h2, h3, i1, i2, i3, i4, mAndV, mVT, mNotT, eq_int]
    | str i =>
      have h1 : ∀ T, fIsi T [.str i] = some (.val (.bool (isSub "str" T))) := fun T => rfl
      have h2 : fIs [.str i, .none] = some (.val (.bool false)) := rfl
      have h3 : fStr [.str i] = some (.val (.str i)) := rfl
      have i1 : isSub "str" "tuple" = false := by decide
      have i2 : isSub "str" "list" = false := by decide
      have i3 : isSub "str" "bool" = false := by decide
      have i4 : isSub "str" "int" = false := by decide
      have i5 : isSub "str" "str" = true := by decide
      simp [sameP, runB, mSeq, mIf, mOrT, mTV, mOps, mOs, mO, mBind, slotD, rds, rd, mFin, frz, mC, mRet, mNx, h1, h2, h3, i1, i2, i3, i4, i5, mAndV, mVT, mNotT, eq_str]
theorem same_use {f : Nat → Fn} (hf : ∀ n, f (n + 1) = sameP (f n)) {n : Nat} {d d' : D} {c : Cel} {P : SV → Cel → Prop} (e : d = d') (h : szOk n d) (k : P (.val (.bool true)) c) : WpF (f n [.val d, .val d'] c) P := by
  subst e
  rw [same_eq hf n d c h]
  exact k
end Ev

/-! The run rules in the shape that simp takes. -/
namespace Ev
open PySem PySem.Spec PyProof.Rows L2
section
variable {e : Env} {c : Cel}
def WpO (o : Option D) (A : Prop) : Prop := match o with | some _ => A | none => False
theorem wpf_ok {v : SV} {P : SV → Cel → Prop} : WpF (.ok v c) P = P v c := rfl
theorem wpq_some {d : D} {A : Prop} : WpO (some d) A = A := rfl
theorem wpq_onm {i : Nat} {P : PV → Env → Cel → Prop} : Wp (mO (.nm i) e c) P = WpO (slotD c e[i]?) (P (.s i) e c) := by
  simp only [mO]; cases slotD c e[i]? <;> rfl
def WpSl (o : Option D) (Q : D → Prop) : Prop := match o with | some d => Q d | none => False
theorem wpsl_some {d : D} {Q : D → Prop} : WpSl (some d) Q = Q d := rfl
theorem wpd_sl {i : Nat} {ps : List PV} {P : List D → Prop} : WpD e c (.s i :: ps) P = WpSl (slotD c e[i]?) fun d => WpD e c ps fun ds => P (d :: ds) := by
  cases h : slotD c e[i]? with
  | some d => rw [wpd_s h]; rfl
  | none =>
    show (match (match rd e c (.s i), rds e c ps with | some d, some ds => some (d :: ds) | _, _ => none) with | some ds => P ds | none => False) = _
    rw [show rd e c (.s i) = none from h]; rfl
def WpV (o : Option (Option SV)) (Q : SV → Prop) : Prop := match o with
  | some (some (.val d)) => Q (.val d)
  | some (some .cell) => Q .cell
  | _ => False
theorem wpv_val {d : D} {Q : SV → Prop} : WpV (some (some (.val d))) Q = Q (.val d) := rfl
theorem wpv_cell {Q : SV → Prop} : WpV (some (some .cell)) Q = Q .cell := rfl
def WpR (o : Option (SV × Env)) (Q : SV → Env → Prop) : Prop := match o with | some p => Q p.1 p.2 | none => False
theorem wpr_some {a : SV} {b : Env} {Q : SV → Env → Prop} : WpR (some (a, b)) Q = Q a b := rfl
def rdv (o : Option (Option SV)) (e : Env) (i : Nat) : Option (SV × Env) := match o with
  | some (some (.val d)) => some (.val d, e)
  | some (some (.own d)) => some (.val d, e.set i (some (.val d)))
  | some (some .cell) => some (.cell, e)
  | _ => none
theorem rdv_val {d : D} {i : Nat} : rdv (some (some (.val d))) e i = some (.val d, e) := rfl
theorem rdv_own {d : D} {i : Nat} : rdv (some (some (.own d))) e i = some (.val d, e.set i (some (.val d))) := rfl
theorem rdv_cell {i : Nat} : rdv (some (some .cell)) e i = some (.cell, e) := rfl
def rdm (o : Option (Option SV)) (e : Env) (i : Nat) : Option (SV × Env) := match o with
  | some (some (.own d)) => some (.own d, e.set i none)
  | some (some sv) => some (sv, e)
  | _ => none
theorem rdm_val {d : D} {i : Nat} : rdm (some (some (.val d))) e i = some (.val d, e) := rfl
theorem rdm_own {d : D} {i : Nat} : rdm (some (some (.own d))) e i = some (.own d, e.set i none) := rfl
theorem rdm_cell {i : Nat} : rdm (some (some .cell)) e i = some (.cell, e) := rfl
theorem wpq_move {i : Nat} {P : SV → Env → Cel → Prop} : Wp (mMove i e c) P = WpR (rdm e[i]? e i) fun sv e' => P sv e' c := by
  unfold mMove
  match e[i]? with
  | none => rfl
  | some none => rfl
  | some (some (.val _)) => rfl
  | some (some (.own _)) => rfl
  | some (some .cell) => rfl
theorem wpq_var {i : Nat} {P : SV → Env → Cel → Prop} : Wp (mVar i e c) P = WpR (rdv e[i]? e i) fun sv e' => P sv e' c := by
  unfold mVar
  match e[i]? with
  | none => rfl
  | some none => rfl
  | some (some (.val _)) => rfl
  | some (some (.own _)) => rfl
  | some (some .cell) => rfl
theorem wpq_fin {f : BF} {ps : List PV} {P : SV → Env → Cel → Prop} : Wp (mFin f ps e c) P = WpD e c ps fun ds => WpB f ds fun v => P v e c := wp_fin
theorem wpq_chain {f1 f2 : BF} {o1 o2 o3 : Opnd} {P : SV → Env → Cel → Prop} : Wp (mChain f1 f2 o1 o2 o3 e c) P = Wp (mO o1 e c) fun p1 e1 c1 => Wp (mO o2 e1 c1) fun p2 e2 c2 => WpD e2 c2 [p1, p2] fun ds => WpB f1 ds fun v => WpT v fun b => if b = true then Wp (mO o3 e2 c2) fun p3 e3 c3 => WpD e3 c3 [p2, p3] fun ds => WpB f2 ds fun v => P v e3 c3 else P (.val (.bool false)) e2 c2 := by
  unfold mChain
  rw [wp_bind]; congr 1; funext p1 e1 c1
  rw [wp_bind]; congr 1; funext p2 e2 c2
  rw [wp_bind, wp_tv, wp_fin]; congr 1; funext ds; congr 1; funext v; congr 1; funext b
  cases b with
  | true => rw [if_pos rfl, if_pos rfl, wp_bind]; congr 1; funext p3 e3 c3; rw [wp_fin]
  | false => rfl
def WpDt (o : Option (List D)) (Q : List D → Prop) : Prop := match o with | some d => Q d | none => False
theorem wpdt_some {d : List D} {Q : List D → Prop} : WpDt (some d) Q = Q d := rfl
theorem wp_tup' {ms : List (M SV)} {P : SV → Env → Cel → Prop} : Wp (mTup ms e c) P = Wp (mArgs ms e c) fun svs e' c' => WpDt (datas svs) fun ds => ds.length ≤ 1000 ∧ P (.val (.tuple ds)) e' c' := by
  rw [wp_tup]; rfl
theorem wp_lst' {ms : List (M SV)} {P : SV → Env → Cel → Prop} : Wp (mLst ms e c) P = Wp (mArgs ms e c) fun svs e' c' => WpDt (datas svs) fun ds => ds.length ≤ 1000 ∧ P (.own (.list ds)) e' c' := by
  rw [wp_lst]; rfl
def WpSets (o : Option Env) (Q : Env → Prop) : Prop := match o with | some d => Q d | none => False
theorem wpsets_some {d : Env} {Q : Env → Prop} : WpSets (some d) Q = Q d := rfl
theorem wp_par' {is : List Nat} {ms : List (M SV)} {P : Fl → Env → Cel → Prop} : Wp (mPar is ms e c) P = Wp (mVals ms e c) fun svs e' c' => WpSets (sets e' is svs) fun e' => P .nx e' c' := by
  rw [wp_par]; rfl
theorem wq_mul {a b : Int} {P : SV → Prop} : WpB fMul [.int a, .int b] P = ((CMul a b ∨ CMulW a b) ∧ P (.val (.int (a * b)))) := by
  by_cases h : CMul a b ∨ CMulW a b
  · rw [wb_mul h]; exact propext ⟨fun z => ⟨h, z⟩, fun z => z.2⟩
  · unfold WpB fMul; simp only [h, if_false, false_and]
theorem wq_div {a b : Int} {P : SV → Prop} : WpB fDiv [.int a, .int b] P = ((0 < b ∧ b < 18446744073709551616) ∧ P (.val (.int (a / b)))) := by
  by_cases h : 0 < b ∧ b < 18446744073709551616
  · rw [wb_div h]; exact propext ⟨fun z => ⟨h, z⟩, fun z => z.2⟩
  · unfold WpB fDiv; simp only [h, if_false, false_and]
theorem wq_mod {a b : Int} {P : SV → Prop} : WpB fMod [.int a, .int b] P = (0 < b ∧ P (.val (.int (a % b)))) := by
  by_cases h : 0 < b
  · rw [wb_mod h]; exact propext ⟨fun z => ⟨h, z⟩, fun z => z.2⟩
  · unfold WpB fMod; simp only [h, if_false, false_and]
theorem le1000_1 : (0 + 1 ≤ 1000) = True := by simp
theorem le1000_2 : (2 ≤ 1000) = True := by simp
theorem le1000_3 : (3 ≤ 1000) = True := by simp
theorem le1000_4 : (1 ≤ 1000) = True := by simp
theorem isSub_ii : isSub "int" "int" = true := by decide
theorem isSub_ib : isSub "int" "bool" = false := by decide
theorem cmul {a b : Int} (h1 : -(2 ^ 64) < a) (h2 : a < 2 ^ 64) : CMul a b ∨ CMulW a b := .inl (.inl ⟨h1, h2⟩)
theorem rcmul {a b : Int} (h1 : -(2 ^ 64) < b) (h2 : b < 2 ^ 64) : CMul a b ∨ CMulW a b := .inl (.inr ⟨h1, h2⟩)
/-- one statement at a time: what follows is hidden in K -/
theorem wp_seqK {a b : M Fl} {P : Fl → Env → Cel → Prop} (h : ∀ K : Fl → Env → Cel → Prop, (∀ e' c', Wp (b e' c') P → K .nx e' c') → (∀ v e' c', P (.rt v) e' c' → K (.rt v) e' c') → Wp (a e c) K) : Wp (mSeq a b e c) P := by
  rw [wp_seq]
  exact (h (fun fl e' c' => WpS fl (Wp (b e' c') P) fun v => P (.rt v) e' c') (fun _ _ z => z) (fun _ _ _ z => z))
end
local macro_rules | `(tactic| walk_at "ev") => `(tactic| (try simp only [wpf_runB, wpf_ok, List.map_cons, List.map_nil, List.length_cons, List.length_nil, List.replicate, Nat.reduceSub, Nat.reduceAdd, List.cons_append, List.nil_append, wp_seq, wp_if, wp_tv, wpt_b, wp_vt, wp_not, wp_and1, wp_and2, wp_or1, wp_or2, wp_andv1, wp_andv2, wp_orv1, wp_orv2,
  wp_ops, wp_os0, wp_os1, wp_oex, wp_c, wpz_val, wpz_own, wpd_nil, wpd_d, wp_call, wp_args0, wp_args1, wpa_val, wpa_own, wpa_cell, wp_tup', wp_lst', datas, wpdt_some, wps_nx, wps_rt, wp_nx, wp_drop, wp_ret, wp_set, wp_vals0, wp_vals1, wp_par', sets, wpsets_some, get_0, get_s, sl_val, sl_own, sl_cell, List.set_cons_zero, List.set_cons_succ,
  wpq_onm, wpq_some, wpd_sl, wpsl_some, wpq_var, wpv_val, wpv_cell, wpq_move, wpr_some, rdv_val, rdv_own, rdv_cell, rdm_val, rdm_own, rdm_cell, wpq_chain, wpq_fin,
  wb_add, wb_sub, wb_lt, wb_le, wb_gt, wb_ge, wb_abs, wb_int, wb_list, wb_listT, wb_lenL, wb_lenT, wb_eqI, wb_neI, wb_eqB, wb_neB, wb_isB, wb_isN, wb_isi, wq_mul, wq_div, wq_mod, decide_eq_true_eq, Bool.not_eq_true', decide_eq_false_iff_not, if_true, Bool.false_eq_true, if_false, Bool.not_true, Bool.not_false, eq_self, true_and, reduceCtorEq, le1000_1, le1000_2, le1000_3, le1000_4, isSub_ii, isSub_ib, tyNm]))
/-! ### whole numbers, roots -/
def isWholeP : Fn := runB 1 (mRet (mAndV [mOps (fIsi "int") [.nm 0], mVT (mNotT (mTV (mOps (fIsi "bool") [.nm 0])))]))
def IsWholeOk (F : Fn) : Prop := ∀ (i : Int) (c : Cel) (P : SV → Cel → Prop), P (.val (.bool true)) c → WpF (F [.val (.int i)] c) P
theorem isWhole_ok : IsWholeOk isWholeP := by
  intro i c P h
  unfold isWholeP
  walk_at "ev"
  exact h
def fitsWholeP (f_is_whole : Fn) : Fn := runB 3 (mRet (mAndV [mCall f_is_whole [mVar 0], mChain fLe fLe (.nm 1) (.nm 0) (.nm 2)]))
def FitsOk (F : Fn) : Prop := ∀ (i l h : Int) (c : Cel) (P : SV → Cel → Prop), P (.val (.bool (decide (l ≤ i ∧ i ≤ h)))) c → WpF (F [.val (.int i), .val (.int l), .val (.int h)] c) P
theorem fits_ok {f : Fn} (hf : IsWholeOk f) : FitsOk (fitsWholeP f) := by
  intro i l h c P k
  unfold fitsWholeP
  walk_at "ev"
  refine hf _ _ _ ?_
  walk_at "ev"
  by_cases h1 : l ≤ i
  · rw [if_pos h1]
    simpa [h1] using k
  · rw [if_neg h1]
    simpa [h1] using k
def rootP : Fn := runB 4 (mSeq (mPar [1, 2] [mC (.int 0), mOps fAdd [.nm 0, .ex (mC (.int 1))]])
  (mSeq (mWhile (mTV (mOps fGt [.ex (mOps fSub [.nm 2, .nm 1]), .ex (mC (.int 1))]))
  (mSeq (mSet 3 (mOps fDiv [.ex (mOps fAdd [.nm 1, .nm 2]), .ex (mC (.int 2))]))
  (mAsgT (.tp [.nm 1, .nm 2]) (mIf (mTV (mOps fLe [.ex (mOps fMul [.nm 3, .nm 3]), .nm 0])) (mTup [mVar 3, mVar 2]) (mTup [mVar 1, mVar 3])))) 1606938044258990275541962092341162602522202993782792835301376)
  (mRet (mMove 1))))
def RootOk (F : Fn) : Prop := ∀ (n : Int) (c : Cel) (P : SV → Cel → Prop), 0 ≤ n → n < 2 ^ 39 → (∀ r : Int, 0 ≤ r → r * r ≤ n → n < (r + 1) * (r + 1) → P (.val (.int r)) c) → WpF (F [.val (.int n)] c) P
theorem root_ok : RootOk rootP := by
  intro n c P h0 h1 k
  unfold rootP
  walk_at "ev"
  refine wp_while (fun m e c' => ∃ lo hi mid, e = [some (.val (.int n)), some (.val (.int lo)), some (.val (.int hi)), mid] ∧ c' = c ∧ 0 ≤ lo ∧ lo < hi ∧ hi ≤ n + 1 ∧ lo * lo ≤ n ∧ n < hi * hi ∧ m = (hi - lo).toNat) ?_ _ (n + 1).toNat _ c ⟨0, n + 1, none, rfl, rfl, by omega, by omega, by omega, by omega, ?_, by simp⟩ (by omega)
  · rintro m e c' ⟨lo, hi, mid, rfl, rfl, h2, h3, h4, h5, h6, rfl⟩
    walk_at "ev"
    by_cases h : 1 < hi - lo
    · rw [if_pos h]
      refine ⟨by omega, ?_⟩
      rw [wp_asgT]
      walk_at "ev"
      refine ⟨cmul (by omega) (by omega), ?_⟩
      by_cases hm : (lo + hi) / 2 * ((lo + hi) / 2) ≤ n
      · rw [if_pos hm]
        exact ⟨((hi - (lo + hi) / 2)).toNat, by omega, _, _, _, rfl, by omega, by omega, by omega, hm, h6, rfl⟩
      · rw [if_neg hm]
        exact ⟨(((lo + hi) / 2) - lo).toNat, by omega, _, _, _, rfl, by omega, by omega, by omega, h5, by omega, rfl⟩
    · rw [if_neg h]
      have e : hi = lo + 1 := by omega
      subst e
      exact k lo h2 h5 h6
  · have e : (n + 1) * (n + 1) = n * (n + 1) + 1 * (n + 1) := Int.add_mul _ _ _
    have := Int.mul_nonneg h0 (show (0 : Int) ≤ n + 1 by omega)
    omega
end Ev

/-! Shares in lowest terms; logs. -/
namespace Ev
open PySem PySem.Spec PyProof.Rows L2
section
variable {e : Env} {c : Cel}
theorem wb_neg {a : Int} {P : SV → Prop} : WpB fNeg [.int a] P = P (.val (.int (-a))) := rfl
theorem wb_max {a b : Int} {P : SV → Prop} : WpB fMax [.int a, .int b] P = P (.val (.int (if b > a then b else a))) := rfl
theorem wb_min {a b : Int} {P : SV → Prop} : WpB fMin [.int a, .int b] P = P (.val (.int (if b < a then b else a))) := rfl
theorem ixt0 {a : D} {r : List D} {P : SV → Prop} : WpB fIx [.tuple (a :: r), .int 0] P = P (.val a) := wb_ixT (i := 0) rfl
theorem ixt1 {a b : D} {r : List D} {P : SV → Prop} : WpB fIx [.tuple (a :: b :: r), .int 1] P = P (.val b) := wb_ixT (i := 1) rfl
theorem ixt2 {a b d : D} {r : List D} {P : SV → Prop} : WpB fIx [.tuple (a :: b :: d :: r), .int 2] P = P (.val d) := wb_ixT (i := 2) rfl
def WpAs (sv : SV) (t : Tgt) (e : Env) (Q : Env → Prop) : Prop := match sv with
  | .val d => WpSets (mTgt t d e) Q
  | _ => False
theorem wpas_val {d : D} {t : Tgt} {Q : Env → Prop} : WpAs (.val d) t e Q = WpSets (mTgt t d e) Q := rfl
theorem wp_asgT' {t : Tgt} {m : M SV} {P : Fl → Env → Cel → Prop} : Wp (mAsgT t m e c) P = Wp (m e c) fun sv e' c' => WpA sv fun sv => WpAs sv t e' fun e' => P .nx e' c' := by
  rw [wp_asgT]; congr 1
theorem wp_compE {own : List Nat} {it : M (List D)} {t : Tgt} {ifs : M Bool} {elt : M SV} {P : SV → Env → Cel → Prop} :
    Wp (mComp own it t ifs elt e c) P = Wp (it e c) fun ds e' c' => (ds.length ≤ 16777216 ∧ noOwn e' own = true ∧ (∀ i ∈ t.slots, i ∈ own)) ∧ Wp (compT own t ifs elt ds e' c') fun r e2 c2 => P (.own (.list r)) (restE e' e2 own) c2 := by
  unfold mComp
  rw [wp_bind]
  congr 1; funext ds e' c'
  by_cases h : ds.length ≤ 16777216 ∧ noOwn e' own = true ∧ (∀ i ∈ t.slots, i ∈ own)
  · rw [if_pos h, wp_bind, wp_noX]
    exact propext ⟨fun z => ⟨h, z⟩, fun z => z.2⟩
  · rw [if_neg h]
    exact propext ⟨fun z => z.elim, fun z => absurd z.1 h⟩
theorem tgt_nm {i : Nat} {d : D} : mTgt (.nm i) d e = some (e.set i (some (.val d))) := rfl
theorem tgt_tp {ts : List Tgt} {ds : List D} : mTgt (.tp ts) (.tuple ds) e = mTgts ts ds e := rfl
theorem tgts_nil : mTgts [] [] e = some e := rfl
theorem tgts_nm {i : Nat} {ts : List Tgt} {d : D} {ds : List D} : mTgts (.nm i :: ts) (d :: ds) e = mTgts ts ds (e.set i (some (.val d))) := rfl
theorem isSub_tt : isSub "tuple" "tuple" = true := by decide
theorem ty_tuple {ds : List D} : tyNm (.tuple ds) = "tuple" := rfl
theorem ty_int {i : Int} : tyNm (.int i) = "int" := rfl
end
def szT : Nat → D → Prop
  | 0, _ => False
  | n + 1, .tuple ds => ds.length ≤ 1000000 ∧ ∀ d ∈ ds, szT n d
  | _ + 1, .list _ => False
  | _ + 1, .dict _ => False
  | _ + 1, .str _ => False
  | _ + 1, _ => True
local macro_rules | `(tactic| walk_at "ev") => `(tactic| (try simp only [wpf_runB, wpf_ok, List.map_cons, List.map_nil, List.length_cons, List.length_nil, List.replicate, Nat.reduceSub, Nat.reduceAdd, List.cons_append, List.nil_append, wp_seq, wp_if, wp_tv, wpt_b, wp_vt, wp_not, wp_and1, wp_and2, wp_or1, wp_or2, wp_andv1, wp_andv2, wp_orv1, wp_orv2,
  wp_ops, wp_os0, wp_os1, wp_oex, wp_c, wpz_val, wpz_own, wpd_nil, wpd_d, wp_call, wp_args0, wp_args1, wpa_val, wpa_own, wpa_cell, wp_tup', wp_lst', datas, wpdt_some, wps_nx, wps_rt, wp_nx, wp_drop, wp_ret, wp_set, wp_vals0, wp_vals1, wp_par', sets, wpsets_some, get_0, get_s, sl_val, sl_own, sl_cell, List.set_cons_zero, List.set_cons_succ,
  wpq_onm, wpq_some, wpd_sl, wpsl_some, wpq_var, wpq_move, wpr_some, rdv_val, rdv_own, rdv_cell, rdm_val, rdm_own, rdm_cell, wpq_chain, wpq_fin,
  wb_add, wb_sub, wb_lt, wb_le, wb_gt, wb_ge, wb_abs, wb_int, wb_list, wb_listT, wb_lenL, wb_lenT, wb_eqI, wb_neI, wb_eqB, wb_neB, wb_isB, wb_isN, wb_isi, wq_mul, wq_div, wq_mod, decide_eq_true_eq, Bool.not_eq_true', decide_eq_false_iff_not, if_true, Bool.false_eq_true, if_false, Bool.not_true, Bool.not_false, eq_self, true_and, and_true, not_true_eq_false, not_false_eq_true, reduceCtorEq, le1000_1, le1000_2, le1000_3, le1000_4, isSub_ii, isSub_ib, isSub_tt, ty_tuple, ty_int, wb_neg, wb_max, wb_min, ixt0, ixt1, ixt2, wp_asgT', wpas_val, tgt_nm, tgt_tp, tgts_nil, tgts_nm]))
def p_divisor_in : Fn := runB 2 (mSeq (mWhile (mTV (mOps fGt [.nm 1, .ex (mC (.int 0))]))
  (mPar [0, 1] [mVar 1, mOps fMod [.nm 0, .nm 1]]) 1606938044258990275541962092341162602522202993782792835301376)
  (mRet (mMove 0)))
def p_lowered (f_divisor_in : Fn) : Fn := runB 3 (mSeq (mSet 2 (mCall f_divisor_in [mVar 0, mVar 1]))
  (mRet (mTup [mOps fDiv [.nm 0, .nm 2], mOps fDiv [.nm 1, .nm 2]])))
def p_added (f_lowered : Fn) : Fn := runB 2 (mRet (mCall f_lowered [mOps fAdd [.ex (mOps fMul [.ex (mOps fIx [.nm 0, .ex (mC (.int 0))]), .ex (mOps fIx [.nm 1, .ex (mC (.int 1))])]), .ex (mOps fMul [.ex (mOps fIx [.nm 1, .ex (mC (.int 0))]), .ex (mOps fIx [.nm 0, .ex (mC (.int 1))])])], mOps fMul [.ex (mOps fIx [.nm 0, .ex (mC (.int 1))]), .ex (mOps fIx [.nm 1, .ex (mC (.int 1))])]]))
def p_is_tuple_of : Fn := runB 3 (mRet (mAndV [mOps (fIsi "tuple") [.nm 0], mChain fLe fLe (.nm 1) (.ex (mOps fLen [.nm 0])) (.nm 2)]))
def p_fits_log (f_is_tuple_of : Fn) (f_fits_whole : Fn) : Fn := runB 1 (mSeq (mIf (mOrT [mNotT (mTV (mCall f_is_tuple_of [mVar 0, mC (.int 3), mC (.int 3)])), mNotT (mTV (mCall f_fits_whole [mOps fIx [.nm 0, .ex (mC (.int 0))], mC (.int 1), mC (.int 1000)]))])
  (mRet (mC (.bool false)))
  (mNx))
  (mRet (mAndV [mCall f_fits_whole [mOps fIx [.nm 0, .ex (mC (.int 1))], mC (.int 1), mC (.int 200)], mCall f_fits_whole [mOps fIx [.nm 0, .ex (mC (.int 2))], mC (.int 0), mC (.int 200)], mOps fLe [.ex (mOps fIx [.nm 0, .ex (mC (.int 2))]), .ex (mOps fIx [.nm 0, .ex (mC (.int 1))])]])))
def p_need_log (f_fits_log : Fn) : Fn := runB 1 (mIf (mNotT (mTV (mCall f_fits_log [mVar 0])))
  (mRaise (Str.ofString "InvalidWood"))
  (mNx))
def p_stump_in (f_lowered : Fn) : Fn := runB 4 (mSeq (mAsgT (.tp [.nm 1, .nm 2, .nm 3]) (mVar 0))
  (mRet (mCall f_lowered [mOps fMul [.nm 1, .ex (mOps fAdd [.ex (mOps fAdd [.ex (mOps fMul [.nm 2, .nm 2]), .ex (mOps fMul [.nm 2, .nm 3])]), .ex (mOps fMul [.nm 3, .nm 3])])], mC (.int 12)])))
def p_stump_content (f_need_log : Fn) (f_stump_in : Fn) : Fn := runB 1 (mSeq (mDrop (mCall f_need_log [mVar 0]))
  (mRet (mCall f_stump_in [mVar 0])))
def p__law_same (f__law_same : Fn) : Fn := runB 3 (mSeq (mIf (mTV (mOps (fIsi "tuple") [.nm 1]))
  (mSeq (mIf (mOrT [mNotT (mTV (mOps (fIsi "tuple") [.nm 0])), mTV (mOps fNe [.ex (mOps fLen [.nm 0]), .ex (mOps fLen [.nm 1])])])
  (mRet (mC (.bool false)))
  (mNx))
  (mRet (mOps fAll [.ex (mComp [2] (mRng1 (.ex (mOps fLen [.nm 1]))) (.nm 2) (mIfs []) (mCall f__law_same [mOps fIx [.nm 0, .nm 2], mOps fIx [.nm 1, .nm 2]]))])))
  (mNx))
  (mSeq (mIf (mTV (mOps fIs [.nm 1, .ex (mC .none)]))
  (mRet (mOps fIs [.nm 0, .ex (mC .none)]))
  (mNx))
  (mSeq (mIf (mTV (mOps (fIsi "bool") [.nm 1]))
  (mRet (mIf (mTV (mVar 1)) (mOps fIs [.nm 0, .ex (mC (.bool true))]) (mOps fIs [.nm 0, .ex (mC (.bool false))])))
  (mNx))
  (mSeq (mIf (mTV (mOps (fIsi "int") [.nm 1]))
  (mRet (mAndV [mOps (fIsi "int") [.nm 0], mVT (mNotT (mTV (mOps (fIsi "bool") [.nm 0]))), mOps fEq [.ex (mOps fInt [.nm 0]), .nm 1]]))
  (mNx))
  (mRet (mAndV [mOps (fIsi "str") [.nm 0], mOps fEq [.ex (mOps fStr [.nm 0]), .nm 1]]))))))
def p__law_log (f__law_roll : Fn) (f__law_some : Fn) : Fn := runB 4 (mSeq (mPar [2, 3] [mOps fAdd [.ex (mC (.int 1)), .ex (mCall f__law_roll [mVar 0, mVar 1])], mCall f__law_roll [mVar 0, mOps fAdd [.nm 1, .ex (mC (.int 1))]]])
  (mRet (mTup [mOps fAdd [.ex (mC (.int 1)), .ex (mCall f__law_roll [mVar 0, mCall f__law_some [mVar 0, mLst [mC (.int 6), mC (.int 30), mC (.int 1000)]]])], mOps fMax [.nm 2, .nm 3], mOps fMin [.nm 2, .nm 3]])))
def p__law_share : Fn := runB 4 (mSeq (mPar [2, 3] [mOps fMax [.nm 0, .ex (mOps fNeg [.nm 0])], mVar 1])
  (mSeq (mWhile (mTV (mOps fGt [.nm 3, .ex (mC (.int 0))]))
  (mPar [2, 3] [mVar 3, mOps fMod [.ex (mOps fInt [.nm 2]), .nm 3]]) 1606938044258990275541962092341162602522202993782792835301376)
  (mRet (mTup [mOps fInt [.ex (mOps fDiv [.nm 0, .nm 2])], mOps fInt [.ex (mOps fDiv [.nm 1, .nm 2])]]))))
/-! ### lowest terms -/
def low (a b : Int) : D := .tuple [.int (a / (Int.gcd a b : Int)), .int (b / (Int.gcd a b : Int))]
theorem gcd_pos {a b : Int} (hb : 0 < b) : 0 < (Int.gcd a b : Int) := by
  have : 0 < Int.gcd a b := Int.gcd_pos_of_ne_zero_right a (by omega)
  omega
theorem low_mul {a b k : Int} (hb : 0 < b) (hk : 0 < k) : low (k * a) (k * b) = low a b := by
  have hg := gcd_pos (a := a) hb
  have e : (Int.gcd (k * a) (k * b) : Int) = k * (Int.gcd a b : Int) := by
    rw [Int.gcd_mul_left, Int.natCast_mul, Int.natAbs_of_nonneg (by omega)]
  unfold low
  rw [e, Int.mul_ediv_mul_of_pos _ _ hk, Int.mul_ediv_mul_of_pos _ _ hk]
theorem low_eq {a b a' b' : Int} (hb : 0 < b) (hb' : 0 < b') (h : a * b' = a' * b) : low a b = low a' b' := by
  rw [← low_mul (a := a) hb hb', ← low_mul (a := a') hb' hb]
  congr 1
  · rw [Int.mul_comm b' a, h, Int.mul_comm]
  · rw [Int.mul_comm]
/-- its parts -/
theorem low_is {a b : Int} (ha : 0 ≤ a) (hb : 0 < b) : ∃ p q g, low a b = .tuple [.int p, .int q] ∧ 0 < g ∧ a = p * g ∧ b = q * g ∧ 0 ≤ p ∧ 0 < q ∧ p ≤ a ∧ q ≤ b ∧ g ≤ b := by
  have hg := gcd_pos (a := a) hb
  refine ⟨_, _, (Int.gcd a b : Int), rfl, hg, ?_, ?_, ?_, ?_, ?_, ?_, ?_⟩
  · rw [Int.ediv_mul_cancel (Int.gcd_dvd_left a b)]
  · rw [Int.ediv_mul_cancel (Int.gcd_dvd_right a b)]
  · exact Int.ediv_nonneg ha (by omega)
  · exact Int.ediv_pos_of_pos_of_dvd hb (by omega) (Int.gcd_dvd_right a b)
  · exact Int.ediv_le_self _ ha
  · exact Int.ediv_le_self _ (by omega)
  · exact Int.le_of_dvd hb (Int.gcd_dvd_right a b)
def DivisorOk (F : Fn) : Prop := ∀ (a b : Int) (c : Cel) (P : SV → Cel → Prop), 0 ≤ a → 0 ≤ b → b < 2 ^ 64 → P (.val (.int (Int.gcd a b))) c → WpF (F [.val (.int a), .val (.int b)] c) P
theorem gcd_step {x y : Int} (hx : 0 ≤ x) (hy : 0 < y) : Int.gcd y (x % y) = Int.gcd x y := by
  rw [Int.gcd_comm y, Int.gcd_comm x]
  obtain ⟨n, rfl⟩ := Int.eq_ofNat_of_zero_le hx
  obtain ⟨m, rfl⟩ := Int.eq_ofNat_of_zero_le (Int.le_of_lt hy)
  show Nat.gcd (n % m) m = Nat.gcd m n
  rw [Nat.gcd_rec m n]
theorem gcd_end {x y : Int} (hx : 0 ≤ x) (hy : 0 ≤ y) (h : ¬ 0 < y) : (Int.gcd x y : Int) = x := by
  have : y = 0 := by omega
  subst this
  rw [Int.gcd_zero_right]
  omega
theorem divisor_ok : DivisorOk p_divisor_in := by
  intro a b c P a0 b0 b1 k
  unfold p_divisor_in
  walk_at "ev"
  refine wp_while (fun m e c' => ∃ x y : Int, e = [some (.val (.int x)), some (.val (.int y))] ∧ c' = c ∧ 0 ≤ x ∧ 0 ≤ y ∧ Int.gcd x y = Int.gcd a b ∧ m = y.toNat) ?_ _ b.toNat _ c ⟨a, b, rfl, rfl, a0, b0, rfl, rfl⟩ (by omega)
  rintro m e c' ⟨x, y, rfl, rfl, x0, y0, hg, rfl⟩
  walk_at "ev"
  split
  · rename_i hy
    have h1 := Int.emod_lt_of_pos x hy
    have h2 := Int.emod_nonneg x (show y ≠ 0 by omega)
    exact ⟨hy, (x % y).toNat, by omega, y, x % y, rfl, by omega, h2, by rw [gcd_step x0 hy, hg], rfl⟩
  · rename_i hy
    rw [← hg, gcd_end x0 y0 hy] at k
    exact k
def LowOk (F : Fn) : Prop := ∀ (a b : Int) (c : Cel) (P : SV → Cel → Prop), 0 ≤ a → 0 < b → b < 2 ^ 64 → P (.val (low a b)) c → WpF (F [.val (.int a), .val (.int b)] c) P
theorem lowered_ok {F : Fn} (hF : DivisorOk F) : LowOk (p_lowered F) := by
  intro a b c P a0 b0 b1 k
  unfold p_lowered
  walk_at "ev"
  have hg := gcd_pos (a := a) b0
  have hl := Int.le_of_dvd b0 (Int.gcd_dvd_right a b)
  refine hF _ _ _ _ a0 (by omega) b1 ?_
  walk_at "ev"
  exact ⟨⟨hg, by omega⟩, ⟨hg, by omega⟩, k⟩
theorem share_ok : LowOk p__law_share := by
  intro a b c P a0 b0 b1 k
  unfold p__law_share
  walk_at "ev"
  have e : (if -a > a then -a else a) = a := by rw [if_neg (by omega)]
  rw [e]
  have hg := gcd_pos (a := a) b0
  have hl := Int.le_of_dvd b0 (Int.gcd_dvd_right a b)
  refine wp_while (fun m e c' => ∃ x y : Int, e = [some (.val (.int a)), some (.val (.int b)), some (.val (.int x)), some (.val (.int y))] ∧ c' = c ∧ 0 ≤ x ∧ 0 ≤ y ∧ Int.gcd x y = Int.gcd a b ∧ m = y.toNat) ?_ _ b.toNat _ c ⟨a, b, rfl, rfl, a0, by omega, rfl, rfl⟩ (by omega)
  rintro m e c' ⟨x, y, rfl, rfl, x0, y0, hg', rfl⟩
  walk_at "ev"
  split
  · rename_i hy
    have h1 := Int.emod_lt_of_pos x hy
    have h2 := Int.emod_nonneg x (show y ≠ 0 by omega)
    exact ⟨hy, (x % y).toNat, by omega, y, x % y, rfl, by omega, h2, by rw [gcd_step x0 hy, hg'], rfl⟩
  · rename_i hy
    have e2 := gcd_end x0 y0 hy
    rw [hg'] at e2
    rw [← e2]
    exact ⟨⟨hg, by omega⟩, ⟨hg, by omega⟩, k⟩
def AddedOk (F : Fn) : Prop := ∀ (a b a' b' : Int) (c : Cel) (P : SV → Cel → Prop), -(2 ^ 63) < a → a < 2 ^ 63 → -(2 ^ 63) < a' → a' < 2 ^ 63 → 0 < b → b < 2 ^ 31 → 0 < b' → b' < 2 ^ 31 → 0 ≤ a * b' + a' * b → P (.val (low (a * b' + a' * b) (b * b'))) c → WpF (F [.val (.tuple [.int a, .int b]), .val (.tuple [.int a', .int b'])] c) P
theorem added_ok {F : Fn} (hF : LowOk F) : AddedOk (p_added F) := by
  intro a b a' b' c P a0 a1 a0' a1' b0 b1 b0' b1' h k
  unfold p_added
  walk_at "ev"
  refine ⟨cmul (by omega) (by omega), cmul (by omega) (by omega), cmul (by omega) (by omega), ?_⟩
  have h1 := Int.mul_pos b0 b0'
  have h2 : b * b' ≤ 2 ^ 31 * 2 ^ 31 := Int.mul_le_mul (by omega) (by omega) (by omega) (by omega)
  exact hF _ _ _ _ h h1 (by omega) k
/-! ### logs -/
abbrev lg (l f t : Int) : D := .tuple [.int l, .int f, .int t]
def LogIs (l f t : Int) : Prop := 1 ≤ l ∧ l ≤ 1000 ∧ 1 ≤ f ∧ f ≤ 200 ∧ 0 ≤ t ∧ t ≤ f
def IsTupOk (F : Fn) : Prop := ∀ (ds : List D) (l h : Int) (c : Cel) (P : SV → Cel → Prop), P (.val (.bool (decide (l ≤ ds.length ∧ (ds.length : Int) ≤ h)))) c → WpF (F [.val (.tuple ds), .val (.int l), .val (.int h)] c) P
theorem isTup_ok : IsTupOk p_is_tuple_of := by
  intro ds l h c P k
  unfold p_is_tuple_of
  walk_at "ev"
  by_cases h1 : l ≤ ds.length
  · rw [if_pos h1]
    simpa [h1] using k
  · rw [if_neg h1]
    simpa [h1] using k
def FitsLogOk (F : Fn) : Prop := ∀ (l f t : Int) (c : Cel) (P : SV → Cel → Prop), LogIs l f t → P (.val (.bool true)) c → WpF (F [.val (lg l f t)] c) P
theorem fits_log_ok {F G : Fn} (hF : IsTupOk F) (hG : FitsOk G) : FitsLogOk (p_fits_log F G) := by
  rintro l f t c P ⟨h1, h2, h3, h4, h5, h6⟩ k
  unfold p_fits_log
  walk_at "ev"
  refine hF _ _ _ _ _ ?_
  walk_at "ev"
  walk_at "ev"
  rw [if_neg (by simp)]
  refine hG _ _ _ _ _ ?_
  simp only [h1, h2, and_self, decide_true]
  walk_at "ev"
  refine hG _ _ _ _ _ ?_
  simp only [h3, h4, and_self, decide_true]
  walk_at "ev"
  refine hG _ _ _ _ _ ?_
  simp only [h5, show t ≤ 200 by omega, and_self, decide_true]
  walk_at "ev"
  simp only [h6, decide_true]
  exact k
def NeedLogOk (F : Fn) : Prop := ∀ (l f t : Int) (c : Cel) (P : SV → Cel → Prop), LogIs l f t → (∀ v, P v c) → WpF (F [.val (lg l f t)] c) P
theorem need_log_ok {F : Fn} (hF : FitsLogOk F) : NeedLogOk (p_need_log F) := by
  intro l f t c P h k
  unfold p_need_log
  walk_at "ev"
  refine hF _ _ _ _ _ h ?_
  walk_at "ev"
  exact k _
theorem sq_le {a b : Int} (h0 : 0 ≤ a) (h : a ≤ b) : a * a ≤ b * b := Int.mul_le_mul h h h0 (by omega)
theorem mul_le {a b m n : Int} (h0 : 0 ≤ a) (h1 : a ≤ m) (h2 : 0 ≤ b) (h3 : b ≤ n) : 0 ≤ a * b ∧ a * b ≤ m * n := ⟨Int.mul_nonneg h0 h2, Int.mul_le_mul h1 h3 h2 (by omega)⟩
def StumpOk (F : Fn) : Prop := ∀ (l f t : Int) (c : Cel) (P : SV → Cel → Prop), LogIs l f t → P (.val (low (l * (f * f + f * t + t * t)) 12)) c → WpF (F [.val (lg l f t)] c) P
theorem stump_in_ok {F : Fn} (hF : LowOk F) : StumpOk (p_stump_in F) := by
  rintro l f t c P ⟨h1, h2, h3, h4, h5, h6⟩ k
  unfold p_stump_in
  walk_at "ev"
  refine ⟨cmul (by omega) (by omega), cmul (by omega) (by omega), cmul (by omega) (by omega), cmul (by omega) (by omega), ?_⟩
  have a1 := mul_le (show 0 ≤ f by omega) h4 (show 0 ≤ f by omega) h4
  have a2 := mul_le (show 0 ≤ f by omega) h4 h5 (show t ≤ 200 by omega)
  have a3 := mul_le h5 (show t ≤ 200 by omega) h5 (show t ≤ 200 by omega)
  exact hF _ _ _ _ (Int.mul_nonneg (by omega) (by omega)) (by omega) (by omega) k
theorem stump_content_ok {F G : Fn} (hF : NeedLogOk F) (hG : StumpOk G) : StumpOk (p_stump_content F G) := by
  intro l f t c P h k
  unfold p_stump_content
  walk_at "ev"
  exact hF _ _ _ _ _ h fun _ => hG _ _ _ _ _ h k
def LawLogOk (F : Fn) : Prop := ∀ (c : Cel) (high : Int) (P : SV → Cel → Prop), CI c → 1 ≤ high → high ≤ 200 → (∀ l f t c', CI c' → LogIs l f t → f ≤ high → P (.val (lg l f t)) c') → WpF (F [.cell, .val (.int high)] c) P
theorem law_log_ok {F G : Fn} (hF : RollOk F) (hG : SomeOk G) : LawLogOk (p__law_log F G) := by
  intro c high P hc h1 h2 k
  unfold p__law_log
  walk_at "ev"
  refine hF.use hc (by omega) (by omega) fun r c hc r0 r1 => ?_
  walk_at "ev"
  refine hF.use hc (by omega) (by omega) fun s c hc s0 s1 => ?_
  walk_at "ev"
  refine hG _ _ _ hc (by simp) (by simp) fun m hm c hc => ?_
  obtain ⟨m, rfl, m0, m1⟩ : ∃ k : Int, m = .int k ∧ 1 ≤ k ∧ k ≤ 1000 := by
    simp at hm; rcases hm with rfl | rfl | rfl <;> exact ⟨_, rfl, by decide, by decide⟩
  walk_at "ev"
  refine hF.use hc (by omega) (by omega) fun t c hc t0 t1 => ?_
  walk_at "ev"
  refine k _ _ _ _ hc ⟨by omega, by omega, ?_, ?_, ?_, ?_⟩ ?_ <;> (repeat' split) <;> omega
/-! ### the other comparison -/
theorem bools_all : ∀ (r : List D), (∀ d ∈ r, d = .bool true) → boolsOf r = some (r.map fun _ => true)
  | [], _ => rfl
  | a :: r, h => by
    have e := h a (by simp)
    subst e
    simp only [boolsOf, bools_all r fun d hd => h d (by simp [hd])]
    rfl
theorem compT_all {own : List Nat} {t : Tgt} {ifs : M Bool} {elt : M SV} {w0 : Env} {c : Cel} {y : D} : ∀ {ds : List D} {e : Env}, (∀ d ∈ ds, ∃ e1, mTgt t d w0 = some e1 ∧ ifs e1 c = .ok true e1 c ∧ elt e1 c = .ok (.val y) e1 c ∧ wipeE e1 own = w0) → wipeE e own = w0 → compT own t ifs elt ds e c = .ok (ds.map fun _ => y) w0 c
  | [], e, _, h => by unfold compT; rw [h]; rfl
  | d :: ds, e, k, h => by
    obtain ⟨e1, h1, h2, h3, h4⟩ := k d (by simp)
    unfold compT
    rw [h, h1]
    show mBind ifs _ e1 c = _
    unfold mBind
    rw [h2]
    show mBind (mArg elt) _ e1 c = _
    unfold mBind mArg mBind
    rw [h3]
    show mBind (compT own t ifs elt ds) _ e1 c = _
    unfold mBind
    rw [compT_all (fun d hd => k d (by simp [hd])) h4]
    rfl
theorem same2_seq {f : Fn} {d : D} {ds : List D} {c : Cel} (ht : fIsi "tuple" [d] = some (.val (.bool true))) (hlen : fLen [d] = some (.val (.int ds.length))) (hix : ∀ k : Nat, k < ds.length → fIx [d, .int k] = some (.val (ds[k]?.getD .none))) (hl : ds.length ≤ 1000000) (hf : ∀ x ∈ ds, f [.val x, .val x] c = .ok (.val (.bool true)) c) : p__law_same f [.val d, .val d] c = .ok (.val (.bool true)) c := by
  have hc : mComp [2] (mRng1 (.ex (mOps fLen [.nm 1]))) (.nm 2) (mIfs []) (mCall f [mOps fIx [.nm 0, .nm 2], mOps fIx [.nm 1, .nm 2]]) [some (.val d), some (.val d), none] c = .ok (.own (.list ((rngD 0 ds.length).map fun _ => .bool true))) [some (.val d), some (.val d), none] c := by
    have hr : mRng1 (.ex (mOps fLen [.nm 1])) [some (.val d), some (.val d), none] c = .ok (rngD 0 ds.length) [some (.val d), some (.val d), none] c := by
      have ok : okR (ds.length : Int) := ⟨by omega, by omega⟩
      simp [mRng1, mInts, mOps, mOs, mO, mBind, slotD, rds, rd, mFin, frz, hlen, intsOf, ok] <;> omega
    unfold mComp mBind
    rw [hr]
    have h2 : (rngD 0 ds.length).length ≤ 16777216 ∧ noOwn [some (.val d), some (.val d), none] [2] = true ∧ (∀ i ∈ (Tgt.nm 2).slots, i ∈ [2]) := ⟨by rw [rng_len]; omega, rfl, by intro i h; simpa [Tgt.slots] using h⟩
    simp only []
    rw [if_pos h2]
    have h3 : compT [2] (.nm 2) (mIfs []) (mCall f [mOps fIx [.nm 0, .nm 2], mOps fIx [.nm 1, .nm 2]]) (rngD 0 ds.length) [some (.val d), some (.val d), none] c = .ok ((rngD 0 ds.length).map fun _ => .bool true) [some (.val d), some (.val d), none] c := by
      refine compT_all (fun x hx => ?_) rfl
      obtain ⟨k, hk, rfl⟩ := rng_mem hx
      refine ⟨_, rfl, rfl, ?_, rfl⟩
      have hk' := hix k hk
      have hm : ds[k]?.getD .none ∈ ds := by
        rw [List.getElem?_eq_getElem hk]
        exact List.getElem_mem hk
      have hf' := hf _ hm
      generalize ds[k]?.getD .none = x at *
      simp [mCall, mArgs, mArg, mOps, mOs, mO, mBind, slotD, rds, rd, mFin, frz, hk', hf']
    unfold mNoX
    rw [h3]
    rfl
  have hall : fAll [.list ((rngD 0 ds.length).map fun _ => .bool true)] = some (.val (.bool true)) := by
    simp only [fAll, bools_all _ (show ∀ d ∈ (rngD 0 ds.length).map (fun _ => PyData.bool true), d = .bool true by simp)]
    simp
  unfold p__law_same
  generalize mComp [2] (mRng1 (.ex (mOps fLen [.nm 1]))) (.nm 2) (mIfs []) (mCall f [mOps fIx [.nm 0, .nm 2], mOps fIx [.nm 1, .nm 2]]) = G at hc ⊢
  simp [runB, mSeq, mIf, mOrT, mNotT, mTV, mOps, mOs, mO, mBind, slotD, rds, rd, mFin, frz, mC, mRet, mNx, ht, hlen, ne_int, hc, hall]
theorem same2_int {f : Fn} {i : Int} {c : Cel} : WpF (p__law_same f [.val (.int i), .val (.int i)] c) fun v c' => v = .val (.bool true) ∧ c' = c := by
  unfold p__law_same
  walk_at "ev"
  simp [isSub, isNone]
theorem same2_eq {f : Nat → Fn} (hf : ∀ n, f (n + 1) = p__law_same (f n)) (n : Nat) : ∀ (d : D) (c : Cel), szT n d → f n [.val d, .val d] c = .ok (.val (.bool true)) c := by
  induction n with
  | zero => intro d c h; exact h.elim
  | succ n ih =>
    intro d c h
    rw [hf]
    cases d with
    | dict ps => exact h.elim
    | list ds => exact h.elim
    | tuple ds =>
      exact same2_seq (ds := ds) rfl rfl (fun k hk => by
        show (match atI ds (k : Int) with | some d => some (SV.val d) | none => none) = _
        rw [atI_nat (d := ds[k]?.getD .none) (by simp [hk])]) h.1 fun x hx => ih x c (h.2 x hx)
    | none => rfl
    | bool b => cases b <;> rfl
    | int i =>
      obtain ⟨v, c', e, rfl, rfl⟩ := (same2_int (f := f n) (i := i) (c := c)).get
      exact e
    | str i => exact h.elim
theorem same2_use {f : Nat → Fn} (hf : ∀ n, f (n + 1) = p__law_same (f n)) {n : Nat} {d d' : D} {c : Cel} {P : SV → Cel → Prop} (e : d = d') (h : szT n d) (k : P (.val (.bool true)) c) : WpF (f n [.val d, .val d'] c) P := by
  subst e
  rw [same2_eq hf n d c h]
  exact k
end Ev

/-! Walks, comprehensions, slices, values asked: what the laws share. -/
namespace Ev
open PySem PySem.Spec PyProof.Rows L2
local macro_rules | `(tactic| walk_at "ev") => `(tactic| (try simp only [wpf_runB, wpf_ok, List.map_cons, List.map_nil, List.length_cons, List.length_nil, List.replicate, Nat.reduceSub, Nat.reduceAdd, List.cons_append, List.nil_append, wp_seq, wp_if, wp_tv, wpt_b, wp_vt, wp_not, wp_and1, wp_and2, wp_or1, wp_or2, wp_andv1, wp_andv2, wp_orv1, wp_orv2,
  wp_ops, wp_os0, wp_os1, wp_oex, wp_c, wpz_val, wpz_own, wpd_nil, wpd_d, wp_call, wp_args0, wp_args1, wpa_val, wpa_own, wpa_cell, wp_tup', wp_lst', datas, wpdt_some, wps_nx, wps_rt, wp_nx, wp_drop, wp_ret, wp_set, wp_vals0, wp_vals1, wp_par', sets, wpsets_some, get_0, get_s, sl_val, sl_own, sl_cell, List.set_cons_zero, List.set_cons_succ,
  wpq_onm, wpq_some, wpd_sl, wpsl_some, wpq_var, wpq_move, wpr_some, rdv_val, rdv_own, rdv_cell, rdm_val, rdm_own, rdm_cell, wpq_chain, wpq_fin,
  wb_add, wb_sub, wb_lt, wb_le, wb_gt, wb_ge, wb_abs, wb_int, wb_list, wb_listT, wb_lenL, wb_lenT, wb_eqI, wb_neI, wb_eqB, wb_neB, wb_isB, wb_isN, wb_isi, wq_mul, wq_div, wq_mod, decide_eq_true_eq, Bool.not_eq_true', decide_eq_false_iff_not, if_true, Bool.false_eq_true, if_false, Bool.not_true, Bool.not_false, eq_self, true_and, and_true, not_true_eq_false, not_false_eq_true, reduceCtorEq, le1000_1, le1000_2, le1000_3, le1000_4, isSub_ii, isSub_ib, isSub_tt, ty_tuple, ty_int, wb_neg, wb_max, wb_min, ixt0, ixt1, ixt2, wp_asgT', wpas_val, tgt_nm, tgt_tp, tgts_nil, tgts_nm]))
theorem rng_ints {n : Nat} {d : D} (h : d ∈ rngD 0 n) : ∃ k : Int, d = .int k := by
  obtain ⟨k, _, e⟩ := rng_mem h
  exact ⟨_, e⟩
def rngI (lo : Int) (n : Nat) : List Int := (List.range n).map fun k => lo + (k : Nat)
theorem rngD_I {lo : Int} {n : Nat} : rngD lo n = (rngI lo n).map .int := by simp [rngD, rngI]
theorem rngI_len {lo : Int} {n : Nat} : (rngI lo n).length = n := by simp [rngI]
theorem rngI_mem {lo z : Int} {n : Nat} : z ∈ rngI lo n ↔ lo ≤ z ∧ z < lo + n := by
  unfold rngI
  rw [List.mem_map]
  constructor
  · rintro ⟨k, hk, e⟩
    have := List.mem_range.mp hk
    omega
  · rintro ⟨h1, h2⟩
    exact ⟨(z - lo).toNat, List.mem_range.mpr (by omega), by omega⟩
theorem rngI_app {lo : Int} {m n : Nat} : rngI lo (m + n) = rngI lo m ++ rngI (lo + m) n := by
  unfold rngI
  rw [List.range_add, List.map_append, List.map_map]
  congr 1
  apply List.map_congr_left
  intro k _
  show lo + ((m + k : Nat) : Int) = lo + m + k
  omega
theorem rngI_cons {lo : Int} {n : Nat} : rngI lo (n + 1) = lo :: rngI (lo + 1) n := by
  rw [show n + 1 = 1 + n by omega, rngI_app]
  simp [rngI]
theorem rngI_snoc {lo : Int} {n : Nat} : rngI lo (n + 1) = rngI lo n ++ [lo + n] := by
  rw [rngI_app]
  simp [rngI]
theorem rngI_nil {lo : Int} : rngI lo 0 = [] := rfl
theorem rngZ {lo : Int} {n : Nat} {d : D} (h : d ∈ rngD lo n) : ∃ z : Int, d = .int z ∧ lo ≤ z ∧ z < lo + n := by
  rw [rngD_I] at h
  obtain ⟨z, hz, e⟩ := List.mem_map.mp h
  exact ⟨z, e.symm, rngI_mem.mp hz⟩
theorem okR_of {j : Int} (h0 : -1000000000 ≤ j) (h1 : j ≤ 1000000000) : okR j := ⟨by omega, by omega⟩
/-! ### comprehensions -/
theorem compG {own : List Nat} {t : Tgt} {e : Env} {c : Cel} {it : M (List D)} {ds : List D} {ifs : M Bool} {elt : M SV} {p : D → Bool} {g : D → D} {P : SV → Env → Cel → Prop} (ed : D → Env)
    (hit : Wp (it e c) fun ds' e' c' => ds' = ds ∧ e' = e ∧ c' = c) (hl : ds.length ≤ 16777216) (hno : noOwn e own = true) (hsl : ∀ i ∈ t.slots, i ∈ own) (hw : wipeE e own = e) (hre : restE e e own = e)
    (ht : ∀ d ∈ ds, mTgt t d e = some (ed d) ∧ wipeE (ed d) own = e) (hif : ∀ d ∈ ds, Wp (ifs (ed d) c) fun b e' c' => b = p d ∧ e' = ed d ∧ c' = c) (hel : ∀ d ∈ ds, p d = true → Wp (elt (ed d) c) fun sv e' c' => (sv = .val (g d) ∨ sv = .own (g d)) ∧ e' = ed d ∧ c' = c)
    (k : P (.own (.list ((ds.filter p).map g))) e c) : Wp (mComp own it t ifs elt e c) P := by
  rw [wp_compE]
  refine hit.imp ?_
  rintro ds' e' c' ⟨rfl, rfl, rfl⟩
  refine ⟨⟨hl, hno, hsl⟩, ?_⟩
  refine (wp_compT (w0 := e') (fun rest acc c => c = c' ∧ acc ++ (rest.filter p).map g = (ds'.filter p).map g ∧ ∀ d ∈ rest, d ∈ ds') ?_ _ [] _ _ hw ⟨rfl, rfl, fun d h => h⟩).imp ?_
  · rintro d rest acc c ⟨rfl, h1, h2⟩
    obtain ⟨t1, t2⟩ := ht d (h2 d (by simp))
    refine ⟨_, t1, (hif d (h2 d (by simp))).imp ?_⟩
    rintro b e1 c1 ⟨rfl, rfl, rfl⟩
    rw [List.filter_cons] at h1
    cases hp : p d with
    | true =>
      rw [if_pos rfl]
      refine (hel d (h2 d (by simp)) hp).imp ?_
      rintro sv e1 c1 ⟨hsv, rfl, rfl⟩
      rw [if_pos hp] at h1
      have r : wipeE (ed d) own = e' ∧ c1 = c1 ∧ (acc ++ [g d]) ++ (rest.filter p).map g = (ds'.filter p).map g ∧ ∀ x ∈ rest, x ∈ ds' := ⟨t2, rfl, by simpa using h1, fun x hx => h2 x (by simp [hx])⟩
      rcases hsv with rfl | rfl
      · rw [wpa_val]; exact ⟨_, rfl, r⟩
      · rw [wpa_own]; exact ⟨_, rfl, r⟩
    | false =>
      rw [if_neg (by simp)]
      rw [if_neg (by simp [hp])] at h1
      exact ⟨t2, rfl, h1, fun x hx => h2 x (by simp [hx])⟩
  · rintro r e2 c2 ⟨rfl, rfl, h, _⟩
    simp at h
    rw [h, hre]
    exact k
theorem filter_tt {α : Type} {l : List α} : l.filter (fun _ => true) = l := by
  induction l with
  | nil => rfl
  | cons a r ih => simp [List.filter_cons, ih]
theorem ifs_nil {e : Env} {c : Cel} : Wp (mIfs [] e c) fun b e' c' => b = (fun _ : D => true) .none ∧ e' = e ∧ c' = c := ⟨rfl, rfl, rfl⟩
/-- no if -/
theorem compN {own : List Nat} {t : Tgt} {e : Env} {c : Cel} {it : M (List D)} {ds : List D} {elt : M SV} {g : D → D} {P : SV → Env → Cel → Prop} (ed : D → Env)
    (hit : Wp (it e c) fun ds' e' c' => ds' = ds ∧ e' = e ∧ c' = c) (hl : ds.length ≤ 16777216) (hno : noOwn e own = true) (hsl : ∀ i ∈ t.slots, i ∈ own) (hw : wipeE e own = e) (hre : restE e e own = e)
    (ht : ∀ d ∈ ds, mTgt t d e = some (ed d) ∧ wipeE (ed d) own = e) (hel : ∀ d ∈ ds, Wp (elt (ed d) c) fun sv e' c' => (sv = .val (g d) ∨ sv = .own (g d)) ∧ e' = ed d ∧ c' = c)
    (k : P (.own (.list (ds.map g))) e c) : Wp (mComp own it t (mIfs []) elt e c) P :=
  compG (p := fun _ => true) ed hit hl hno hsl hw hre ht (fun _ _ => ⟨rfl, rfl, rfl⟩) (fun d hd _ => hel d hd) (by rw [filter_tt]; exact k)
/-- an if, whole numbers of a range, the number itself or what it gives -/
theorem compI {i : Nat} {e : Env} {c : Cel} {it : M (List D)} {ns : List Int} {ifs : M Bool} {elt : M SV} {f : Int → Bool} {g : Int → D} {P : SV → Env → Cel → Prop}
    (hit : Wp (it e c) fun ds' e' c' => ds' = ns.map .int ∧ e' = e ∧ c' = c) (hl : ns.length ≤ 16777216) (hno : noOwn e [i] = true) (hw : wipeE e [i] = e) (hre : restE e e [i] = e)
    (ht : ∀ z, wipeE (e.set i (some (.val (.int z)))) [i] = e) (hif : ∀ z ∈ ns, Wp (ifs (e.set i (some (.val (.int z)))) c) fun b e' c' => b = f z ∧ e' = e.set i (some (.val (.int z))) ∧ c' = c) (hel : ∀ z ∈ ns, f z = true → Wp (elt (e.set i (some (.val (.int z)))) c) fun sv e' c' => (sv = .val (g z) ∨ sv = .own (g z)) ∧ e' = e.set i (some (.val (.int z))) ∧ c' = c)
    (k : P (.own (.list ((ns.filter f).map g))) e c) : Wp (mComp [i] it (.nm i) ifs elt e c) P := by
  refine compG (p := fun d => match d with | .int z => f z | _ => false) (g := fun d => match d with | .int z => g z | _ => .none) (fun d => e.set i (some (.val d))) hit (by simpa using hl) hno (by intro j hj; simpa [Tgt.slots] using hj) hw hre ?_ ?_ ?_ ?_
  · intro d hd
    obtain ⟨z, _, rfl⟩ := List.mem_map.mp hd
    exact ⟨rfl, ht z⟩
  · intro d hd
    obtain ⟨z, hz, rfl⟩ := List.mem_map.mp hd
    exact hif z hz
  · intro d hd hp
    obtain ⟨z, hz, rfl⟩ := List.mem_map.mp hd
    exact hel z hz hp
  · rw [List.filter_map, List.map_map]
    exact k
/-- what is drawn: each element as it should be -/
theorem compR {own : List Nat} {t : Tgt} {e : Env} {c : Cel} {it : M (List D)} {ds : List D} {elt : M SV} {I : D → Prop} {P : SV → Env → Cel → Prop} (ed : D → Env)
    (hit : Wp (it e c) fun ds' e' c' => ds' = ds ∧ e' = e ∧ CI c') (hl : ds.length ≤ 16777216) (hno : noOwn e own = true) (hsl : ∀ i ∈ t.slots, i ∈ own) (hw : wipeE e own = e) (hre : restE e e own = e)
    (ht : ∀ d ∈ ds, mTgt t d e = some (ed d) ∧ wipeE (ed d) own = e) (hel : ∀ d ∈ ds, ∀ c, CI c → Wp (elt (ed d) c) fun sv e' c' => ∃ x, (sv = .val x ∨ sv = .own x) ∧ I x ∧ e' = ed d ∧ CI c')
    (k : ∀ r c', r.length = ds.length → (∀ x ∈ r, I x) → CI c' → P (.own (.list r)) e c') : Wp (mComp own it t (mIfs []) elt e c) P := by
  rw [wp_compE]
  refine hit.imp ?_
  rintro ds' e' c' ⟨rfl, rfl, hc⟩
  refine ⟨⟨hl, hno, hsl⟩, ?_⟩
  refine (wp_compT (w0 := e') (fun rest acc c => CI c ∧ acc.length + rest.length = ds'.length ∧ (∀ x ∈ acc, I x) ∧ ∀ d ∈ rest, d ∈ ds') ?_ _ [] _ _ hw ⟨hc, by simp, by simp, fun d h => h⟩).imp ?_
  · rintro d rest acc c ⟨hc, h1, h2, h3⟩
    obtain ⟨t1, t2⟩ := ht d (h3 d (by simp))
    refine ⟨_, t1, ?_⟩
    have e0 : ∀ Q : Bool → Env → Cel → Prop, Wp (mIfs [] (ed d) c) Q = Q true (ed d) c := fun _ => rfl
    rw [e0, if_pos rfl]
    refine (hel d (h3 d (by simp)) c hc).imp ?_
    rintro sv e1 c1 ⟨x, hsv, hx, rfl, hc1⟩
    have r : wipeE (ed d) own = e' ∧ CI c1 ∧ (acc ++ [x]).length + rest.length = ds'.length ∧ (∀ y ∈ acc ++ [x], I y) ∧ ∀ y ∈ rest, y ∈ ds' := by
      refine ⟨t2, hc1, by simp at h1 ⊢; omega, ?_, fun y hy => h3 y (by simp [hy])⟩
      intro y hy
      rcases List.mem_append.mp hy with hy | hy
      · exact h2 y hy
      · simp at hy; subst hy; exact hx
    rcases hsv with rfl | rfl
    · rw [wpa_val]; exact ⟨_, rfl, r⟩
    · rw [wpa_own]; exact ⟨_, rfl, r⟩
  · rintro r e2 c2 ⟨rfl, hc2, h, h2, _⟩
    simp at h h2
    rw [hre]
    exact k r c2 h h2 hc2
/-! ### what is walked -/
def WpSq (sv : SV) (Q : List D → Prop) : Prop := match sv with
  | .val d => (match seqD d with | some ds => Q ds | none => False)
  | _ => False
theorem wpsq_t {ds : List D} {Q : List D → Prop} : WpSq (.val (.tuple ds)) Q = Q ds := rfl
theorem wpsq_l {ds : List D} {Q : List D → Prop} : WpSq (.val (.list ds)) Q = Q ds := rfl
def WpZp (svs : List SV) (Q : List D → Prop) : Prop := match svs with
  | [.val (.list a), .val (.list b)] => Q (zipD a b)
  | [.val (.tuple a), .val (.tuple b)] => Q (zipD a b)
  | _ => False
theorem wpzp_l {a b : List D} {Q : List D → Prop} : WpZp [.val (.list a), .val (.list b)] Q = Q (zipD a b) := rfl
theorem wpzp_t {a b : List D} {Q : List D → Prop} : WpZp [.val (.tuple a), .val (.tuple b)] Q = Q (zipD a b) := rfl
def WpQ (o : Option SV) (Q : SV → Prop) : Prop := match o with | some v => Q v | none => False
theorem wpq_q {v : SV} {Q : SV → Prop} : WpQ (some v) Q = Q v := rfl
def WpI (d : D) (Q : Int → Prop) : Prop := match d with | .int i => Q i | _ => False
theorem wpi_i {i : Int} {Q : Int → Prop} : WpI (.int i) Q = Q i := rfl
section
variable {e : Env} {c : Cel}
theorem wp_seqIt {m : M SV} {P : List D → Env → Cel → Prop} : Wp (mSeqIt m e c) P = Wp (m e c) fun sv e' c' => WpA sv fun v => WpSq v fun ds => P ds e' c' := by
  unfold mSeqIt
  rw [wp_bind, wp_arg]; congr 1; funext sv e' c'; refine congrArg (WpA sv) ?_; funext v
  cases v with
  | val d => show Wp (match seqD d with | some ds => R.ok ds e' c' | none => .bad) P = (match seqD d with | some ds => P ds e' c' | none => False); cases seqD d <;> rfl
  | own d => rfl
  | cell => rfl
theorem wp_zip {m1 m2 : M SV} {P : List D → Env → Cel → Prop} : Wp (mZip m1 m2 e c) P = Wp (mArgs [m1, m2] e c) fun svs e' c' => WpZp svs fun ds => P ds e' c' := by
  unfold mZip
  rw [wp_bind]; congr 1; funext svs e' c'
  unfold WpZp
  split
  · rfl
  · rfl
  · rename_i h1 h2
    first
      | rfl
      | (split
         · exact (h1 _ _ rfl).elim
         · exact (h2 _ _ rfl).elim
         · rfl)
theorem wp_part0 {P : Option Int → Env → Cel → Prop} : Wp (mPart none e c) P = P none e c := rfl
theorem wp_part1 {o : Opnd} {P : Option Int → Env → Cel → Prop} : Wp (mPart (some o) e c) P = Wp (mO o e c) fun p e' c' => WpSl (rd e' c' p) fun d => WpI d fun i => P (some i) e' c' := by
  unfold mPart
  rw [wp_bind]; congr 1; funext p e' c'
  cases rd e' c' p with
  | none => rfl
  | some d => cases d <;> rfl
theorem rd_d {d : D} : rd e c (.d d) = some d := rfl
theorem rd_s {i : Nat} : rd e c (.s i) = slotD c e[i]? := rfl
theorem wp_slice {f : SF} {o : Opnd} {lo hi : Option Opnd} {P : SV → Env → Cel → Prop} : Wp (mSl f o lo hi e c) P = Wp (mO o e c) fun p e1 c1 => Wp (mPart lo e1 c1) fun l e2 c2 => Wp (mPart hi e2 c2) fun h e3 c3 => WpSl (rd e3 c3 p) fun d => WpQ (f d l h) fun v => P v e3 c3 := by
  unfold mSl
  rw [wp_bind]; congr 1; funext p e1 c1
  rw [wp_bind]; congr 1; funext l e2 c2
  rw [wp_bind]; congr 1; funext h e3 c3
  cases rd e3 c3 p with
  | none => rfl
  | some d =>
    show Wp (match f d l h with | some sv => R.ok sv e3 c3 | none => .bad) P = WpQ (f d l h) fun v => P v e3 c3
    cases f d l h <;> rfl
theorem wpf_slt {ds : List D} {lo hi : Option Int} {Q : SV → Prop} : WpQ (fSl (.tuple ds) lo hi) Q = Q (.val (.tuple (cutD ds lo hi))) := rfl
theorem wpf_sll {ds : List D} {lo hi : Option Int} {Q : SV → Prop} : WpQ (fSl (.list ds) lo hi) Q = Q (.own (.list (cutD ds lo hi))) := rfl
theorem wp_rng2 {o1 o2 : Opnd} {P : List D → Env → Cel → Prop} {i j : Int} (hi : okR i) (hj : okR j) (h : Wp (mOs [o1, o2] e c) fun ps e' c' => WpD e' c' ps fun ds => ds = [.int i, .int j] ∧ P (rngD i (j - i).toNat) e' c') : Wp (mRng2 o1 o2 e c) P := by
  unfold mRng2 mInts
  rw [wp_bind, wp_bind]
  refine h.imp fun ps e' c' z => ?_
  unfold WpD at z
  cases hr : rds e' c' ps with
  | none => rw [hr] at z; exact z.elim
  | some ds =>
    rw [hr] at z
    obtain ⟨rfl, z⟩ := z
    show Wp (if okR i ∧ okR j then R.ok (rngD i (j - i).toNat) e' c' else .bad) P
    rw [if_pos ⟨hi, hj⟩]
    exact z
end
/-! ### slices -/
theorem sIx_nat {n d k : Nat} (h : k ≤ n) : HT.sIx n d (some (k : Int)) = k := by rw [HT.sIx_nat]; omega
theorem cut_to {ds : List D} {k : Int} (h0 : 0 ≤ k) : cutD ds none (some k) = ds.take k.toNat := by
  obtain ⟨k, rfl⟩ := Int.eq_ofNat_of_zero_le h0
  unfold cutD
  rw [show HT.sIx ds.length 0 none = 0 from rfl, HT.sIx_nat, List.drop_zero, Nat.sub_zero]
  show ds.take (min k ds.length) = ds.take k
  by_cases h : k ≤ ds.length
  · rw [Nat.min_eq_left h]
  · rw [Nat.min_eq_right (by omega), List.take_length, List.take_of_length_le (by omega)]
theorem cut_from {ds : List D} {k : Int} (h0 : 0 ≤ k) : cutD ds (some k) none = ds.drop k.toNat := by
  obtain ⟨k, rfl⟩ := Int.eq_ofNat_of_zero_le h0
  unfold cutD
  rw [show HT.sIx ds.length ds.length none = ds.length from rfl, HT.sIx_nat]
  show (ds.drop (min k ds.length)).take (ds.length - min k ds.length) = ds.drop k
  by_cases h : k ≤ ds.length
  · rw [Nat.min_eq_left h, List.take_of_length_le (by simp)]
  · rw [Nat.min_eq_right (by omega)]
    simp; omega
theorem cut_last {ds : List D} : ∃ x, cutD ds (some (-1)) none = x ∧ x.length ≤ 1 ∧ ∀ d ∈ x, d ∈ ds := by
  refine ⟨_, rfl, ?_, ?_⟩
  · unfold cutD
    simp only [HT.sIx]
    simp
    omega
  · intro d hd
    unfold cutD at hd
    exact List.mem_of_mem_drop (List.mem_of_mem_take hd)
theorem cut_mem {ds : List D} {lo hi : Option Int} {d : D} (h : d ∈ cutD ds lo hi) : d ∈ ds := by
  unfold cutD at h
  exact List.mem_of_mem_drop (List.mem_of_mem_take h)
theorem cut_len {ds : List D} {lo hi : Option Int} : (cutD ds lo hi).length ≤ ds.length := by
  unfold cutD
  simp
  omega
/-! ### operations by values -/
theorem wb_addL {a b : List D} {P : SV → Prop} (h : a.length + b.length ≤ 16777216) : WpB fAdd [.list a, .list b] P = P (.own (.list (a ++ b))) := by
  unfold WpB fAdd; simp [h]
theorem wb_addT {a b : List D} {P : SV → Prop} (h : a.length + b.length ≤ 16777216) : WpB fAdd [.tuple a, .tuple b] P = P (.val (.tuple (a ++ b))) := by
  unfold WpB fAdd; simp [h]
theorem wb_mulT {a : List D} {k : Int} {P : SV → Prop} (h0 : -1000 ≤ k) (h1 : k ≤ 1000) (h2 : a.length ≤ 1000) : WpB fMul [.tuple a, .int k] P = P (.val (.tuple (List.replicate k.toNat a).flatten)) := by
  unfold WpB fMul; simp only [h0, h1, h2, and_self, if_true]
theorem wb_sum {q : List Int} {P : SV → Prop} : WpB fSum [.list (q.map .int)] P = P (.val (.int q.sum)) := by
  have e : intsOf (q.map PyData.int) = some q := by
    induction q with
    | nil => rfl
    | cons a r ih => simp [intsOf, ih]
  unfold WpB fSum
  simp only [e]
theorem wb_sumT {q : List Int} {P : SV → Prop} : WpB fSum [.tuple (q.map .int)] P = P (.val (.int q.sum)) := by
  have e : intsOf (q.map PyData.int) = some q := by
    induction q with
    | nil => rfl
    | cons a r ih => simp [intsOf, ih]
  unfold WpB fSum
  simp only [e]
theorem bools_map : ∀ q : List Bool, boolsOf (q.map PyData.bool) = some q
  | [] => rfl
  | b :: r => by simp [boolsOf, bools_map r]
theorem wb_all {q : List Bool} {P : SV → Prop} : WpB fAll [.list (q.map .bool)] P = P (.val (.bool (q.all id))) := by
  unfold WpB fAll
  simp only [bools_map]
theorem wb_any {q : List Bool} {P : SV → Prop} : WpB fAny [.list (q.map .bool)] P = P (.val (.bool (q.any id))) := by
  unfold WpB fAny
  simp only [bools_map]
theorem wb_tupL {ds : List D} {P : SV → Prop} : WpB fTuple [.list ds] P = P (.val (.tuple ds)) := rfl
theorem wb_tupT {ds : List D} {P : SV → Prop} : WpB fTuple [.tuple ds] P = P (.val (.tuple ds)) := rfl
theorem wb_revT {ds : List D} {P : SV → Prop} : WpB fRev [.tuple ds] P = P (.val (.tuple ds.reverse)) := rfl
theorem wb_revL {ds : List D} {P : SV → Prop} : WpB fRev [.list ds] P = P (.own (.list ds.reverse)) := rfl
/-! ### alike -/
theorem lay_all {ds : List D} (h : ∀ d ∈ ds, PyData.canLay0 d = true) : PyData.canLayAll0 ds = true := by
  induction ds with
  | nil => rfl
  | cons a r ih => simp [PyData.canLayAll0, h a (by simp), ih fun d hd => h d (by simp [hd])]
theorem dep_all {ds : List D} {n : Nat} (h : ∀ d ∈ ds, PyData.depth d ≤ n) : PyData.depthAll ds ≤ n := by
  induction ds with
  | nil => simp [PyData.depthAll]
  | cons a r ih =>
    have h1 := h a (by simp)
    have h2 := ih fun d hd => h d (by simp [hd])
    simp [PyData.depthAll]
    omega
/-- plain data, not deep -/
def Pl (n : Nat) (d : D) : Prop := PyData.canLay0 d = true ∧ PyData.depth d ≤ n
theorem Pl.mono {n m : Nat} {d : D} (h : Pl n d) (hm : n ≤ m) : Pl m d := ⟨h.1, Nat.le_trans h.2 hm⟩
theorem pl_int {n : Nat} {i : Int} : Pl n (.int i) := ⟨rfl, by simp [PyData.depth]⟩
theorem pl_bool {n : Nat} {i : Bool} : Pl n (.bool i) := ⟨rfl, by simp [PyData.depth]⟩
theorem pl_none {n : Nat} : Pl n .none := ⟨rfl, by simp [PyData.depth]⟩
theorem pl_list {n : Nat} {ds : List D} (h : ∀ d ∈ ds, Pl n d) : Pl (n + 1) (.list ds) :=
  ⟨by simp only [PyData.canLay0]; exact lay_all fun d hd => (h d hd).1, by simp only [PyData.depth]; have := dep_all fun d hd => (h d hd).2; omega⟩
theorem pl_tup {n : Nat} {ds : List D} (h : ∀ d ∈ ds, Pl n d) : Pl (n + 1) (.tuple ds) :=
  ⟨by simp only [PyData.canLay0]; exact lay_all fun d hd => (h d hd).1, by simp only [PyData.depth]; have := dep_all fun d hd => (h d hd).2; omega⟩
theorem Pl.shp {n : Nat} {d : D} (h : Pl n d) (hn : n ≤ 64) : SeqAt.shaped d = true := by
  unfold SeqAt.shaped
  rw [h.1]
  simp
  exact Nat.le_trans h.2 hn
theorem wb_eqP {n : Nat} {a b : D} {P : SV → Prop} (ha : Pl n a) (hb : Pl n b) (hn : n ≤ 64) : WpB fEq [a, b] P = P (.val (.bool (PyData.eqv a b))) := by
  unfold WpB fEq eqOk
  simp [ha.shp hn, hb.shp hn]
theorem wb_neP {n : Nat} {a b : D} {P : SV → Prop} (ha : Pl n a) (hb : Pl n b) (hn : n ≤ 64) : WpB fNe [a, b] P = P (.val (.bool (!PyData.eqv a b))) := by
  unfold WpB fNe eqOk
  simp [ha.shp hn, hb.shp hn]
theorem pl_nil {n : Nat} : Pl (n + 1) (.list []) := pl_list (by simp)
theorem wb_neN {n : Nat} {ds : List D} {P : SV → Prop} (h : ∀ d ∈ ds, Pl n d) (hn : n ≤ 60) : WpB fNe [.list ds, .list []] P = P (.val (.bool (!ds.isEmpty))) := by
  rw [wb_neP (pl_list h) pl_nil (by omega)]
  cases ds <;> simp [PyData.eqv, PyData.eqvAll]
theorem wb_eqN {n : Nat} {ds : List D} {P : SV → Prop} (h : ∀ d ∈ ds, Pl n d) (hn : n ≤ 60) : WpB fEq [.list ds, .list []] P = P (.val (.bool ds.isEmpty)) := by
  rw [wb_eqP (pl_list h) pl_nil (by omega)]
  cases ds <;> simp [PyData.eqv, PyData.eqvAll]
theorem wb_neT {n : Nat} {ds : List D} {P : SV → Prop} (h : ∀ d ∈ ds, Pl n d) (hn : n ≤ 60) : WpB fNe [.tuple ds, .tuple []] P = P (.val (.bool (!ds.isEmpty))) := by
  rw [wb_neP (pl_tup h) (pl_tup (n := n) (by simp)) (by omega)]
  cases ds <;> simp [PyData.eqv, PyData.eqvAll]
theorem wb_eqT {n : Nat} {ds : List D} {P : SV → Prop} (h : ∀ d ∈ ds, Pl n d) (hn : n ≤ 60) : WpB fEq [.tuple ds, .tuple []] P = P (.val (.bool ds.isEmpty)) := by
  rw [wb_eqP (pl_tup h) (pl_tup (n := n) (by simp)) (by omega)]
  cases ds <;> simp [PyData.eqv, PyData.eqvAll]
/-! ### values asked: whole numbers, tuples -/
def isWholeB : Fn := runB 1 (mRet (mAndV [mOps (fIsi "int") [.nm 0], mVT (mNotT (mTV (mOps (fIsi "bool") [.nm 0])))]))
def fitsWholeB (f_is_whole : Fn) : Fn := runB 3 (mRet (mAndV [mCall f_is_whole [mVar 0], mChain fLe fLe (.nm 1) (.nm 0) (.nm 2)]))
def isTupB : Fn := runB 3 (mRet (mAndV [mOps (fIsi "tuple") [.nm 0], mChain fLe fLe (.nm 1) (.ex (mOps fLen [.nm 0])) (.nm 2)]))
def wI (d : D) : Bool := isSub (tyNm d) "int" && !isSub (tyNm d) "bool"
def wh (d : D) (l h : Int) : Bool := match d with
  | .int i => decide (l ≤ i ∧ i ≤ h)
  | _ => false
def IsWholeG (F : Fn) : Prop := ∀ (d : D) (c : Cel) (P : SV → Cel → Prop), P (.val (.bool (wI d))) c → WpF (F [.val d] c) P
theorem isWhole_g : IsWholeG isWholeB := by
  intro d c P k
  unfold isWholeB
  simp only [wpf_runB, List.map_cons, List.map_nil, List.length_cons, List.length_nil, List.replicate, Nat.reduceSub, Nat.reduceAdd, List.cons_append, List.nil_append, wp_ret, wp_andv1, wp_andv2, wp_tv, wp_vt, wp_not, wp_ops, wp_os0, wp_os1, wpq_onm, get_0, sl_val, wpq_some, wpd_sl, wpsl_some, wpd_nil, wb_isi, wpt_b, wps_rt]
  unfold wI at k
  cases h : isSub (tyNm d) "int" <;> simp only [h, Bool.true_and, Bool.false_and, if_true, Bool.false_eq_true, if_false] at k ⊢ <;> exact k
theorem wI_int {i : Int} : wI (.int i) = true := by simp [wI, isSub, tyNm]
theorem wI_not {d : D} (h : ∀ i, d ≠ .int i) : wI d = false := by
  cases d with
  | int i => exact absurd rfl (h i)
  | none => simp [wI, isSub, tyNm]
  | bool b => simp [wI, isSub, tyNm]
  | str b => simp [wI, isSub, tyNm]
  | list b => simp [wI, isSub, tyNm]
  | tuple b => simp [wI, isSub, tyNm]
  | dict b => simp [wI, isSub, tyNm]
def FitsG (F : Fn) : Prop := ∀ (d : D) (l h : Int) (c : Cel) (P : SV → Cel → Prop), P (.val (.bool (wh d l h))) c → WpF (F [.val d, .val (.int l), .val (.int h)] c) P
theorem fits_g {f : Fn} (hf : IsWholeG f) : FitsG (fitsWholeB f) := by
  intro d l h c P k
  unfold fitsWholeB
  walk_at "ev"
  refine hf _ _ _ ?_
  by_cases hd : ∃ i, d = .int i
  · obtain ⟨i, rfl⟩ := hd
    rw [wI_int]
    walk_at "ev"
    have k : P (.val (.bool (decide (l ≤ i ∧ i ≤ h)))) c := k
    by_cases h1 : l ≤ i
    · rw [if_pos h1]
      simpa [h1] using k
    · rw [if_neg h1]
      simpa [h1] using k
  · have hn : ∀ i, d ≠ .int i := fun i e => hd ⟨i, e⟩
    rw [wI_not hn]
    walk_at "ev"
    have e : wh d l h = false := by
      cases d with
      | int i => exact absurd rfl (hn i)
      | _ => rfl
    rw [e] at k
    exact k
theorem FitsG.ok {F : Fn} (h : FitsG F) : FitsOk F := fun i l h' c P k => h _ _ _ _ _ k
theorem FitsG.yes {F : Fn} (hF : FitsG F) {i l h : Int} {c : Cel} {P : SV → Cel → Prop} (h1 : l ≤ i) (h2 : i ≤ h) (k : P (.val (.bool true)) c) : WpF (F [.val (.int i), .val (.int l), .val (.int h)] c) P :=
  hF _ _ _ _ _ (by rw [show wh (.int i) l h = true from by simp [wh, h1, h2]]; exact k)
theorem wh_wI {d : D} {l h : Int} (w : wh d l h = true) : ∃ i, d = .int i ∧ l ≤ i ∧ i ≤ h := by
  cases d with
  | int i => exact ⟨i, rfl, by simpa [wh] using w⟩
  | _ => cases w
theorem wh_int {i l h : Int} : wh (.int i) l h = decide (l ≤ i ∧ i ≤ h) := rfl
def tpN (d : D) (l h : Int) : Bool := match d with
  | .tuple ds => decide (l ≤ ds.length ∧ (ds.length : Int) ≤ h)
  | _ => false
def isTp' (d : D) : Bool := match d with | .tuple _ => true | _ => false
theorem sub_tup {d : D} : isSub (tyNm d) "tuple" = isTp' d := by cases d <;> simp [isSub, tyNm, isTp']
def TupG (F : Fn) : Prop := ∀ (d : D) (l h : Int) (c : Cel) (P : SV → Cel → Prop), P (.val (.bool (tpN d l h))) c → WpF (F [.val d, .val (.int l), .val (.int h)] c) P
theorem tup_g : TupG isTupB := by
  intro d l h c P k
  unfold isTupB
  cases d with
  | tuple ds =>
    walk_at "ev"
    have k : P (.val (.bool (decide (l ≤ ds.length ∧ (ds.length : Int) ≤ h)))) c := k
    by_cases h1 : l ≤ ds.length
    · rw [if_pos h1]
      simpa [h1] using k
    · rw [if_neg h1]
      simpa [h1] using k
  | _ =>
    simp only [wpf_runB, List.map_cons, List.map_nil, List.length_cons, List.length_nil, List.replicate, Nat.reduceSub, Nat.reduceAdd, List.cons_append, List.nil_append, wp_ret, wp_andv1, wp_andv2, wp_tv, wp_ops, wp_os0, wp_os1, wpq_onm, get_0, sl_val, wpq_some, wpd_sl, wpsl_some, wpd_nil, wb_isi, wpt_b, wps_rt, sub_tup, isTp', Bool.false_eq_true, if_false]
    exact k
theorem szI {n : Nat} {q : List Int} (h : q.length ≤ 1000) : szOk (n + 2) (.tuple (q.map PyData.int)) := by
  refine ⟨by simp; omega, fun d hd => ?_⟩
  obtain ⟨z, _, rfl⟩ := List.mem_map.mp hd
  trivial
theorem low_one {s b : Int} (h : 0 < b) : low (s * b) b = .tuple [.int s, .int 1] := by
  rw [low_eq (a' := s) (b' := 1) h (by omega) (by omega)]
  unfold low
  rw [Int.gcd_one_right]
  simp
theorem bool_of {b b' : Bool} {P : SV → Prop} (h : b = b') (k : P (.val (.bool b'))) : P (.val (.bool b)) := by subst h; exact k
/-! ### append -/
def WpL (o : Option (Option SV)) (Q : List D → Prop) : Prop := match o with
  | some (some (.own (.list xs))) => Q xs
  | _ => False
theorem wpl_l {xs : List D} {Q : List D → Prop} : WpL (some (some (.own (.list xs)))) Q = Q xs := rfl
def WpOne (ds : List D) (Q : D → Prop) : Prop := match ds with
  | [d] => Q d
  | _ => False
theorem wpone {d : D} {Q : D → Prop} : WpOne [d] Q = Q d := rfl
section
variable {e : Env} {c : Cel}
theorem wp_append {j : Nat} {ms : List (M SV)} {P : SV → Env → Cel → Prop} (h : WpL e[j]? fun _ => Wp (mArgs ms e c) fun svs e' c' => WpL e'[j]? fun xs => WpDt (datas svs) fun ds => WpOne ds fun d => xs.length < 16777216 ∧ P (.val .none) (e'.set j (some (.own (.list (xs ++ [d]))))) c') : Wp (mMeth j isLst mAppend ms e c) P := by
  unfold mMeth
  rw [wp_bind]
  unfold mOwn
  unfold WpL at h
  match hj : e[j]?, h with
  | some (some (.own (.list xs))), h =>
    show Wp (R.ok () e c) fun _ e' c' => Wp (mBind (mArgs ms) (methF j mAppend) e' c') P
    rw [wp_ok, wp_bind]
    refine h.imp fun svs e' c' z => ?_
    unfold methF
    match hj' : e'[j]?, z with
    | some (some (.own (.list ys))), z =>
      dsimp only at z ⊢
      cases hd : datas svs with
      | none => rw [hd] at z; exact z.elim
      | some ds =>
        rw [hd] at z
        match ds, z with
        | [d], z =>
          obtain ⟨z1, z2⟩ := z
          show Wp (match (if ys.length < 16777216 then some (PyData.list (ys ++ [d]), PyData.none) else none) with | some (x', d) => R.ok (.val d) (e'.set j (some (.own x'))) c' | none => .bad) P
          rw [if_pos z1]
          exact z2
theorem wp_appendE {j : Nat} {m : M SV} {P : SV → Env → Cel → Prop} : Wp (mMeth j isLst mAppend [m] e c) P = (WpL e[j]? fun _ => Wp (mArgs [m] e c) fun svs e' c' => WpL e'[j]? fun xs => WpDt (datas svs) fun ds => WpOne ds fun d => xs.length < 16777216 ∧ P (.val .none) (e'.set j (some (.own (.list (xs ++ [d]))))) c') := by
  refine propext ⟨fun h => ?_, wp_append⟩
  unfold mMeth at h
  rw [wp_bind] at h
  unfold mOwn at h
  unfold WpL
  match hj : e[j]? with
  | none => rw [hj] at h; exact h
  | some none => rw [hj] at h; exact h
  | some (some (.val _)) => rw [hj] at h; exact h
  | some (some .cell) => rw [hj] at h; exact h
  | some (some (.own x)) =>
    rw [hj] at h
    cases x with
    | list xs =>
      have h : Wp (mBind (mArgs [m]) (methF j mAppend) e c) P := h
      rw [wp_bind] at h
      refine h.imp fun svs e' c' z => ?_
      unfold methF at z
      match hj' : e'[j]? with
      | none => rw [hj'] at z; exact z
      | some none => rw [hj'] at z; exact z
      | some (some (.val _)) => rw [hj'] at z; exact z
      | some (some .cell) => rw [hj'] at z; exact z
      | some (some (.own y)) =>
        rw [hj'] at z
        dsimp only at z
        cases hd : datas svs with
        | none => rw [hd] at z; cases y <;> exact z
        | some ds =>
          rw [hd] at z
          dsimp only at z
          cases y with
          | list ys =>
            match ds, z with
            | [], z => exact z
            | [d], z =>
              by_cases hl : ys.length < 16777216
              · have z : Wp (match (if ys.length < 16777216 then some (PyData.list (ys ++ [d]), PyData.none) else none) with | some (x', d) => R.ok (.val d) (e'.set j (some (.own x'))) c' | none => .bad) P := z
                rw [if_pos hl] at z
                exact ⟨hl, z⟩
              · have z : Wp (match (if ys.length < 16777216 then some (PyData.list (ys ++ [d]), PyData.none) else none) with | some (x', d) => R.ok (.val d) (e'.set j (some (.own x'))) c' | none => .bad) P := z
                rw [if_neg hl] at z
                exact z.elim
            | _ :: _ :: _, z => exact z
          | none => exact z
          | bool _ => exact z
          | int _ => exact z
          | str _ => exact z
          | tuple _ => exact z
          | dict _ => exact z
    | none => exact h
    | bool _ => exact h
    | int _ => exact h
    | str _ => exact h
    | tuple _ => exact h
    | dict _ => exact h
end
/-! ### loops, what follows being hidden -/
section
variable {e : Env} {c : Cel}
theorem wp_hide {m : M Fl} {I : Env → Cel → Prop} {R : SV → Env → Cel → Prop} (h : ∀ K : Fl → Env → Cel → Prop, (∀ e' c', I e' c' → K .nx e' c') → (∀ v e' c', R v e' c' → K (.rt v) e' c') → Wp (m e c) K) : Wp (m e c) fun fl e' c' => WpS fl (I e' c') (fun v => R v e' c') :=
  h _ (fun _ _ z => z) (fun _ _ _ z => z)
theorem wp_forH {t : Tgt} {body : M Fl} {P : Fl → Env → Cel → Prop} (I : List D → Env → Cel → Prop) {ds : List D} (h : I ds e c)
    (hb : ∀ d ds e c, I (d :: ds) e c → ∀ K : Fl → Env → Cel → Prop, (∀ e' c', I ds e' c' → K .nx e' c') → (∀ v e' c', P (.rt v) e' c' → K (.rt v) e' c') → ∃ e1, mTgt t d e = some e1 ∧ Wp (body e1 c) K) (h0 : ∀ e c, I [] e c → P .nx e c) : Wp (forT t body ds e c) P :=
  wp_forI I (fun d ds e c i => hb d ds e c i (fun fl e' c' => WpS fl (I ds e' c') fun v => P (.rt v) e' c') (fun _ _ z => z) (fun _ _ _ z => z)) h0 ds e c h
theorem wp_whileH {t : M Bool} {body : M Fl} {P : Fl → Env → Cel → Prop} {n : Nat} (I : Nat → Env → Cel → Prop) (k : Nat) (h : I k e c) (hk : k < n)
    (hb : ∀ k e c, I k e c → ∀ (K : Fl → Env → Cel → Prop) (X : Env → Cel → Prop), (∀ k' e' c', k' < k → I k' e' c' → K .nx e' c') → (∀ v e' c', P (.rt v) e' c' → K (.rt v) e' c') → (∀ e' c', P .nx e' c' → X e' c') → Wp (t e c) fun b e' c' => if b = true then Wp (body e' c') K else X e' c') : Wp (mWhile t body n e c) P :=
  wp_while I (fun k e c i => hb k e c i (fun fl e' c' => WpS fl (∃ k', k' < k ∧ I k' e' c') fun v => P (.rt v) e' c') (fun e' c' => P .nx e' c') (fun k' _ _ h1 h2 => ⟨k', h1, h2⟩) (fun _ _ _ z => z) (fun _ _ z => z)) n k e c h hk
end
theorem wb_ixTI {ds : List D} {i : Int} {d : D} {P : SV → Prop} (h0 : 0 ≤ i) (h : ds[i.toNat]? = some d) : WpB fIx [.tuple ds, .int i] P = P (.val d) := by
  obtain ⟨k, rfl⟩ := Int.eq_ofNat_of_zero_le h0
  exact wb_ixT (by simpa using h)
theorem wb_ixLI {ds : List D} {i : Int} {d : D} {P : SV → Prop} (h0 : 0 ≤ i) (h : ds[i.toNat]? = some d) : WpB fIx [.list ds, .int i] P = P (.val d) := by
  obtain ⟨k, rfl⟩ := Int.eq_ofNat_of_zero_le h0
  exact wb_ixL (by simpa using h)
theorem wb_ixTL {ds : List D} {d : D} {P : SV → Prop} (h : ds.getLast? = some d) : WpB fIx [.tuple ds, .int (-1)] P = P (.val d) := by
  have hl : 0 < ds.length := by cases ds <;> simp at h ⊢
  have e : atI ds (-1) = some d := by
    unfold atI ixN
    rw [if_neg (by omega), if_pos (by omega)]
    show ds[(-1 + (ds.length : Int)).toNat]? = _
    rw [show (-1 + (ds.length : Int)).toNat = ds.length - 1 by omega, ← List.getLast?_eq_getElem?]
    exact h
  unfold WpB fIx; simp only [e]
theorem wb_ixLL {ds : List D} {d : D} {P : SV → Prop} (h : ds.getLast? = some d) : WpB fIx [.list ds, .int (-1)] P = P (.val d) := by
  have hl : 0 < ds.length := by cases ds <;> simp at h ⊢
  have e : atI ds (-1) = some d := by
    unfold atI ixN
    rw [if_neg (by omega), if_pos (by omega)]
    show ds[(-1 + (ds.length : Int)).toNat]? = _
    rw [show (-1 + (ds.length : Int)).toNat = ds.length - 1 by omega, ← List.getLast?_eq_getElem?]
    exact h
  unfold WpB fIx; simp only [e]
/-! ### range as a value -/
section
variable {e : Env} {c : Cel}
theorem wp_rgv1 {tu : Bool} {o : Opnd} {P : SV → Env → Cel → Prop} : Wp (mRgv1 tu o e c) P = Wp (mO o e c) fun p e' c' => WpSl (rd e' c' p) fun d => WpI d fun j => okRg 0 j ∧ P (seqSV tu (rngD 0 (j - 0).toNat)) e' c' := by
  unfold mRgv1
  rw [wp_bind]; congr 1; funext p e' c'
  cases rd e' c' p with
  | none => rfl
  | some d =>
    cases d with
    | int j =>
      show Wp (if okRg 0 j then R.ok (seqSV tu (rngD 0 (j - 0).toNat)) e' c' else .bad) P = (okRg 0 j ∧ P (seqSV tu (rngD 0 (j - 0).toNat)) e' c')
      by_cases h : okRg 0 j
      · rw [if_pos h]; exact propext ⟨fun z => ⟨h, z⟩, fun z => z.2⟩
      · rw [if_neg h]; exact propext ⟨fun z => z.elim, fun z => absurd z.1 h⟩
    | _ => rfl
theorem wp_rgv2 {tu : Bool} {o1 o2 : Opnd} {P : SV → Env → Cel → Prop} : Wp (mRgv2 tu o1 o2 e c) P = Wp (mO o1 e c) fun p1 e1 c1 => Wp (mO o2 e1 c1) fun p2 e' c' => WpSl (rd e' c' p1) fun d => WpSl (rd e' c' p2) fun d2 => WpI d fun i => WpI d2 fun j => okRg i j ∧ P (seqSV tu (rngD i (j - i).toNat)) e' c' := by
  unfold mRgv2
  rw [wp_bind]; congr 1; funext p e' c'
  rw [wp_bind]; congr 1; funext p2 e' c'
  cases h1 : rd e' c' p with
  | none => rfl
  | some d =>
    cases h2 : rd e' c' p2 with
    | none => cases d <;> rfl
    | some d2 =>
      cases d with
      | int i =>
        cases d2 with
        | int j =>
          show Wp (if okRg i j then R.ok (seqSV tu (rngD i (j - i).toNat)) e' c' else .bad) P = (okRg i j ∧ P (seqSV tu (rngD i (j - i).toNat)) e' c')
          by_cases h : okRg i j
          · rw [if_pos h]; exact propext ⟨fun z => ⟨h, z⟩, fun z => z.2⟩
          · rw [if_neg h]; exact propext ⟨fun z => z.elim, fun z => absurd z.1 h⟩
        | _ => rfl
      | _ => rfl
end
theorem seq_tt {ds : List D} : seqSV true ds = .val (.tuple ds) := rfl
theorem seq_ff {ds : List D} : seqSV false ds = .own (.list ds) := rfl
theorem okRg_of {i j : Int} (h0 : -1000000 ≤ i) (h1 : i ≤ 1000000) (h2 : -1000000 ≤ j) (h3 : j ≤ 1000000) : okRg i j := ⟨by omega, by omega, by omega, by omega, by omega⟩
theorem eqv_ints : ∀ q : List Int, PyData.eqvAll (q.map PyData.int) (q.map PyData.int) = true
  | [] => rfl
  | a :: r => by
    rw [List.map_cons, PyData.eqvAll, eqv_int, eqv_ints r]
    simp
theorem eqv_intsL (q : List Int) : PyData.eqv (.list (q.map .int)) (.list (q.map .int)) = true := by rw [PyData.eqv]; exact eqv_ints q
theorem eqv_intsT (q : List Int) : PyData.eqv (.tuple (q.map .int)) (.tuple (q.map .int)) = true := by rw [PyData.eqv]; exact eqv_ints q
/-! ### rising lists -/
theorem rngI_pw {lo : Int} : ∀ {n : Nat}, (rngI lo n).Pairwise (· < ·)
  | 0 => .nil
  | n + 1 => by
    rw [rngI_snoc, List.pairwise_append]
    refine ⟨rngI_pw, List.pairwise_singleton _ _, fun x hx y hy => ?_⟩
    have := rngI_mem.mp hx
    simp at hy
    omega
theorem rising_eq {q r : List Int} (hq : q.Pairwise (· < ·)) (hr : r.Pairwise (· < ·)) (h : ∀ z, z ∈ q ↔ z ∈ r) : q = r := by
  have nq : q.Nodup := hq.imp fun {a b} h => by omega
  have nr : r.Nodup := hr.imp fun {a b} h => by omega
  have p : q.Perm r := (List.perm_ext_iff_of_nodup nq nr).mpr h
  exact List.Perm.eq_of_pairwise (fun a b _ _ h1 h2 => by omega) hq hr p
/-- what an interval's test leaves of a range is a range -/
theorem filt_conv {f : Int → Bool} {lo : Int} {n : Nat} (hf : ∀ x y z, f x = true → f y = true → x ≤ z → z ≤ y → f z = true) {q : List Int} (hq : q = (rngI lo n).filter f) {a b : Int} (ha : q.head? = some a) (hb : q.getLast? = some b) : q = rngI a (b + 1 - a).toNat := by
  have pw : q.Pairwise (· < ·) := by rw [hq]; exact rngI_pw.filter f
  have ma : a ∈ q := List.mem_of_head? ha
  have mb : b ∈ q := List.mem_of_getLast? hb
  have hmin : ∀ z ∈ q, a ≤ z := by
    intro z hz
    cases q with
    | nil => cases hz
    | cons x r =>
      simp at ha
      subst ha
      rcases List.mem_cons.mp hz with rfl | hz
      · omega
      · have := (List.pairwise_cons.mp pw).1 z hz; omega
  have hmax : ∀ z ∈ q, z ≤ b := by
    intro z hz
    obtain ⟨l, e⟩ : ∃ l, q = l ++ [b] := by
      rw [List.getLast?_eq_some_iff] at hb
      exact hb
    rw [e] at hz pw
    rw [List.pairwise_append] at pw
    rcases List.mem_append.mp hz with hz | hz
    · have := pw.2.2 z hz b (by simp); omega
    · simp at hz; omega
  refine rising_eq pw rngI_pw fun z => ⟨fun hz => rngI_mem.mpr ⟨hmin z hz, by have := hmax z hz; have := hmin z hz; omega⟩, fun hz => ?_⟩
  obtain ⟨z0, z1⟩ := rngI_mem.mp hz
  rw [hq, List.mem_filter] at ma mb ⊢
  have h1 := rngI_mem.mp ma.1
  have h2 := rngI_mem.mp mb.1
  exact ⟨rngI_mem.mpr ⟨by omega, by omega⟩, hf a b z ma.2 mb.2 z0 (by omega)⟩
/-- the greatest number of a begin 1, .. that a test lets -/
def topI (f : Int → Bool) : Nat → Int
  | 0 => 0
  | n + 1 => if f ((n + 1 : Nat) : Int) = true then ((n + 1 : Nat) : Int) else topI f n
theorem topI_last {f : Int → Bool} : ∀ {n : Nat}, (match ((rngI 1 n).filter f).getLast? with | some z => z | none => 0) = topI f n
  | 0 => rfl
  | n + 1 => by
    rw [rngI_snoc, List.filter_append]
    unfold topI
    have e : (1 : Int) + n = ((n + 1 : Nat) : Int) := by omega
    rw [e]
    generalize ((n + 1 : Nat) : Int) = z
    rw [List.filter_cons, List.filter_nil]
    cases h : f z with
    | true => rw [if_pos rfl, if_pos rfl, List.getLast?_append]; rfl
    | false =>
      rw [if_neg (by simp), if_neg (by simp), ← topI_last (n := n), List.append_nil]
theorem topI_eq {f : Int → Bool} {k : Nat} (hk : k = 0 ∨ f (k : Int) = true) : ∀ {n : Nat}, k ≤ n → (∀ i : Nat, k < i → i ≤ n → f (i : Int) = false) → topI f n = k
  | 0, h, _ => by
    have : k = 0 := by omega
    subst this
    rfl
  | n + 1, h, hn => by
    unfold topI
    by_cases e : k = n + 1
    · subst e
      rcases hk with hk | hk
      · omega
      · rw [if_pos hk]
    · rw [if_neg (by rw [hn (n + 1) (by omega) (by omega)]; simp), topI_eq hk (by omega) fun i h1 h2 => hn i h1 (by omega)]
theorem rows_of {F : Fn} {c : Cel} (h : WpF (F [] c) fun v c' => v = .val (.bool true) ∧ c' = c) : F [] c = .ok (.val (.bool true)) c := by
  obtain ⟨v, c', e, rfl, rfl⟩ := h.get
  exact e
/-- where the walk itself changes the environment (a list of one's own that is walked by name) -/
theorem compN0 {own : List Nat} {t : Tgt} {e0 : Env} {c : Cel} {it : M (List D)} {ds : List D} {elt : M SV} {g : D → D} {P : SV → Env → Cel → Prop} (e : Env) (ed : D → Env)
    (hit : Wp (it e0 c) fun ds' e' c' => ds' = ds ∧ e' = e ∧ c' = c) (hl : ds.length ≤ 16777216) (hno : noOwn e own = true) (hsl : ∀ i ∈ t.slots, i ∈ own) (hw : wipeE e own = e) (hre : restE e e own = e)
    (ht : ∀ d ∈ ds, mTgt t d e = some (ed d) ∧ wipeE (ed d) own = e) (hel : ∀ d ∈ ds, Wp (elt (ed d) c) fun sv e' c' => (sv = .val (g d) ∨ sv = .own (g d)) ∧ e' = ed d ∧ c' = c)
    (k : P (.own (.list (ds.map g))) e c) : Wp (mComp own it t (mIfs []) elt e0 c) P := by
  have h := compN (it := fun e' c' => .ok ds e' c') (P := P) (elt := elt) ed (e := e) (c := c) ⟨rfl, rfl, rfl⟩ hl hno hsl hw hre ht hel k
  rw [wp_compE] at h ⊢
  refine hit.imp ?_
  rintro ds' e' c' ⟨rfl, rfl, rfl⟩
  exact h
/-- a comprehension whose own names bear something before -/
theorem compNW {own : List Nat} {t : Tgt} {e : Env} {c : Cel} {it : M (List D)} {ds : List D} {elt : M SV} {g : D → D} {P : SV → Env → Cel → Prop} (w0 : Env) (ed : D → Env)
    (hit : Wp (it e c) fun ds' e' c' => ds' = ds ∧ e' = e ∧ c' = c) (hl : ds.length ≤ 16777216) (hno : noOwn e own = true) (hsl : ∀ i ∈ t.slots, i ∈ own) (hw : wipeE e own = w0) (hre : restE e w0 own = e)
    (ht : ∀ d ∈ ds, mTgt t d w0 = some (ed d) ∧ wipeE (ed d) own = w0) (hel : ∀ d ∈ ds, Wp (elt (ed d) c) fun sv e' c' => (sv = .val (g d) ∨ sv = .own (g d)) ∧ e' = ed d ∧ c' = c)
    (k : P (.own (.list (ds.map g))) e c) : Wp (mComp own it t (mIfs []) elt e c) P := by
  rw [wp_compE]
  refine hit.imp ?_
  rintro ds' e' c' ⟨rfl, rfl, rfl⟩
  refine ⟨⟨hl, hno, hsl⟩, ?_⟩
  refine (wp_compT (w0 := w0) (fun rest acc c => c = c' ∧ acc ++ rest.map g = ds'.map g ∧ ∀ d ∈ rest, d ∈ ds') ?_ _ [] _ _ hw ⟨rfl, rfl, fun d h => h⟩).imp ?_
  · rintro d rest acc c ⟨rfl, h1, h2⟩
    obtain ⟨t1, t2⟩ := ht d (h2 d (by simp))
    refine ⟨_, t1, ?_⟩
    have e0 : ∀ Q : Bool → Env → Cel → Prop, Wp (mIfs [] (ed d) c) Q = Q true (ed d) c := fun _ => rfl
    rw [e0, if_pos rfl]
    refine (hel d (h2 d (by simp))).imp ?_
    rintro sv e1 c1 ⟨hsv, rfl, rfl⟩
    have r : wipeE (ed d) own = w0 ∧ c1 = c1 ∧ (acc ++ [g d]) ++ rest.map g = ds'.map g ∧ ∀ x ∈ rest, x ∈ ds' := ⟨t2, rfl, by simpa using h1, fun x hx => h2 x (by simp [hx])⟩
    rcases hsv with rfl | rfl
    · rw [wpa_val]; exact ⟨_, rfl, r⟩
    · rw [wpa_own]; exact ⟨_, rfl, r⟩
  · rintro r e2 c2 ⟨rfl, rfl, h, _⟩
    simp at h
    rw [h, hre]
    exact k
theorem ints_of_map : ∀ q : List Int, intsOf (q.map PyData.int) = some q
  | [] => rfl
  | a :: r => by simp [intsOf, ints_of_map r]
theorem wb_sorted {q : List Int} {P : SV → Prop} : WpB fSorted [.list (q.map .int)] P = P (.own (.list ((sortI q).map .int))) := by
  unfold WpB fSorted
  simp only [ints_of_map]
theorem sortI_perm (q : List Int) : (sortI q).Perm q := List.mergeSort_perm _ _
theorem sortI_le (q : List Int) : (sortI q).Pairwise (· ≤ ·) := by
  have := List.pairwise_mergeSort (le := fun (a b : Int) => decide (a ≤ b)) (by intro a b c; simp; omega) (by intro a b; simp; omega) q
  exact this.imp (by simp)
theorem all_bool {ds : List D} {f : D → Bool} {P : SV → Prop} : WpB fAll [.list (ds.map fun d => .bool (f d))] P = P (.val (.bool (ds.all f))) := by
  have e : (ds.map fun d => PyData.bool (f d)) = (ds.map f).map PyData.bool := by rw [List.map_map]; rfl
  rw [e, wb_all, List.all_map]
  rfl
theorem isT_bool {b : Bool} : isSub (tyNm (.bool b)) "bool" = true ∧ isSub (tyNm (.bool b)) "int" = true := by constructor <;> simp [isSub, tyNm]
theorem isT_int {b : Int} : isSub (tyNm (.int b)) "bool" = false ∧ isSub (tyNm (.int b)) "int" = true := by constructor <;> simp [isSub, tyNm]
theorem tp_two {d : D} (h : tpN d 2 2 = true) : ∃ x y, d = .tuple [x, y] := by
  cases d with
  | tuple xs =>
    simp [tpN] at h
    match xs, h with
    | [x, y], _ => exact ⟨x, y, rfl⟩
    | [], h => simp at h
    | [_], h => simp at h
    | _ :: _ :: _ :: _, h => simp at h; omega
  | _ => cases h
theorem last_app {q : List Int} {b : Int} (h : q.getLast? = some b) : ∃ l, q = l ++ [b] := by
  rw [List.getLast?_eq_some_iff] at h
  exact h
theorem compR0 {own : List Nat} {t : Tgt} {e0 : Env} {c : Cel} {it : M (List D)} {ds : List D} {elt : M SV} {I : D → Prop} {P : SV → Env → Cel → Prop} (e : Env) (ed : D → Env)
    (hit : Wp (it e0 c) fun ds' e' c' => ds' = ds ∧ e' = e ∧ CI c') (hl : ds.length ≤ 16777216) (hno : noOwn e own = true) (hsl : ∀ i ∈ t.slots, i ∈ own) (hw : wipeE e own = e) (hre : restE e e own = e)
    (ht : ∀ d ∈ ds, mTgt t d e = some (ed d) ∧ wipeE (ed d) own = e) (hel : ∀ d ∈ ds, ∀ c, CI c → Wp (elt (ed d) c) fun sv e' c' => ∃ x, (sv = .val x ∨ sv = .own x) ∧ I x ∧ e' = ed d ∧ CI c')
    (k : ∀ r c', r.length = ds.length → (∀ x ∈ r, I x) → CI c' → P (.own (.list r)) e c') : Wp (mComp own it t (mIfs []) elt e0 c) P := by
  rw [wp_compE]
  refine hit.imp ?_
  rintro ds' e' c' ⟨rfl, rfl, hc⟩
  have h := compR (it := fun e' c' => .ok ds' e' c') (P := P) (elt := elt) (I := I) ed (e := e') (c := c') ⟨rfl, rfl, hc⟩ hl hno hsl hw hre ht hel k
  rw [wp_compE] at h
  exact h
theorem compRQ {own : List Nat} {t : Tgt} {e : Env} {c : Cel} {it : M (List D)} {elt : M SV} {I : D → Prop} {a b : Nat} {P : SV → Env → Cel → Prop} (ed : D → Env)
    (hit : Wp (it e c) fun ds' e' c' => a ≤ ds'.length ∧ ds'.length ≤ b ∧ e' = e ∧ CI c') (hl : b ≤ 16777216) (hno : noOwn e own = true) (hsl : ∀ i ∈ t.slots, i ∈ own) (hw : wipeE e own = e) (hre : restE e e own = e)
    (ht : ∀ d, mTgt t d e = some (ed d) ∧ wipeE (ed d) own = e) (hel : ∀ d, ∀ c, CI c → Wp (elt (ed d) c) fun sv e' c' => ∃ x, (sv = .val x ∨ sv = .own x) ∧ I x ∧ e' = ed d ∧ CI c')
    (k : ∀ r c', a ≤ r.length → r.length ≤ b → (∀ x ∈ r, I x) → CI c' → P (.own (.list r)) e c') : Wp (mComp own it t (mIfs []) elt e c) P := by
  rw [wp_compE]
  refine hit.imp ?_
  rintro ds' e' c' ⟨h1, h2, rfl, hc⟩
  have h := compR (it := fun e' c' => .ok ds' e' c') (P := P) (elt := elt) (I := I) ed (e := e') (c := c') ⟨rfl, rfl, hc⟩ (by omega) hno hsl hw hre (fun d _ => ht d) (fun d _ => hel d) (fun r c' hr hi hc => k r c' (by omega) (by omega) hi hc)
  rw [wp_compE] at h
  exact h
theorem ints_ex {p : Int → Prop} : ∀ {rs : List D}, (∀ d ∈ rs, ∃ z : Int, d = .int z ∧ p z) → ∃ q : List Int, rs = q.map .int ∧ ∀ z ∈ q, p z
  | [], _ => ⟨[], rfl, by simp⟩
  | x :: xs, h => by
    obtain ⟨zs, e, hz⟩ := ints_ex (rs := xs) fun y hy => h y (by simp [hy])
    obtain ⟨y, rfl, h2⟩ := h x (by simp)
    refine ⟨y :: zs, by rw [e]; rfl, fun u hu => ?_⟩
    rcases List.mem_cons.mp hu with rfl | hu
    · exact h2
    · exact hz u hu
theorem cut_ne {ds : List D} {a b : Int} (h0 : 0 ≤ a) (h1 : a < ds.length) (h2 : a < b) : 1 ≤ (cutD ds (some a) (some b)).length := by
  obtain ⟨a, rfl⟩ := Int.eq_ofNat_of_zero_le h0
  obtain ⟨b, rfl⟩ := Int.eq_ofNat_of_zero_le (show 0 ≤ b by omega)
  unfold cutD
  rw [HT.sIx_nat, HT.sIx_nat]
  simp
  omega
theorem zip_ints {a b : List Int} : zipD (a.map .int) (b.map .int) = (a.zip b).map fun p => .tuple [.int p.1, .int p.2] := by
  unfold zipD
  rw [List.zip_map, List.map_map]
  rfl
theorem compG0 {own : List Nat} {t : Tgt} {e0 : Env} {c : Cel} {it : M (List D)} {ds : List D} {ifs : M Bool} {elt : M SV} {p : D → Bool} {g : D → D} {P : SV → Env → Cel → Prop} (e : Env) (ed : D → Env)
    (hit : Wp (it e0 c) fun ds' e' c' => ds' = ds ∧ e' = e ∧ c' = c) (hl : ds.length ≤ 16777216) (hno : noOwn e own = true) (hsl : ∀ i ∈ t.slots, i ∈ own) (hw : wipeE e own = e) (hre : restE e e own = e)
    (ht : ∀ d ∈ ds, mTgt t d e = some (ed d) ∧ wipeE (ed d) own = e) (hif : ∀ d ∈ ds, Wp (ifs (ed d) c) fun b e' c' => b = p d ∧ e' = ed d ∧ c' = c) (hel : ∀ d ∈ ds, p d = true → Wp (elt (ed d) c) fun sv e' c' => (sv = .val (g d) ∨ sv = .own (g d)) ∧ e' = ed d ∧ c' = c)
    (k : P (.own (.list ((ds.filter p).map g))) e c) : Wp (mComp own it t ifs elt e0 c) P := by
  have h := compG (it := fun e' c' => .ok ds e' c') (P := P) (elt := elt) (ifs := ifs) (p := p) ed (e := e) (c := c) ⟨rfl, rfl, rfl⟩ hl hno hsl hw hre ht hif hel k
  rw [wp_compE] at h ⊢
  refine hit.imp ?_
  rintro ds' e' c' ⟨rfl, rfl, rfl⟩
  exact h
/-! ### index, stores into one's own lists and dicts, sets -/
section
variable {e : Env} {c : Cel}
theorem wp_index {j : Nat} {m : M SV} {P : SV → Env → Cel → Prop} (h : WpL e[j]? fun _ => Wp (m e c) fun sv e' c' => WpL e'[j]? fun xs => ∃ (is : List Int) (y : Int) (k : Nat), xs = is.map PyData.int ∧ sv = .val (.int y) ∧ is.findIdx? (fun z => decide (z = y)) = some k ∧ P (.val (.int k)) (e'.set j (some (.own (.list xs)))) c') : Wp (mMeth j isLst mIndex [m] e c) P := by
  unfold mMeth
  rw [wp_bind]
  unfold mOwn
  unfold WpL at h
  match hj : e[j]?, h with
  | some (some (.own (.list xs))), h =>
    show Wp (R.ok () e c) fun _ e' c' => Wp (mBind (mArgs [m]) (methF j mIndex) e' c') P
    rw [wp_ok, wp_bind, wp_args1]
    refine h.imp fun sv e' c' z => ?_
    match hj' : e'[j]?, z with
    | some (some (.own (.list ys))), z =>
      obtain ⟨is, y, k, rfl, rfl, hk, z⟩ := z
      rw [wpa_val, wp_args0]
      unfold methF
      rw [hj']
      have e1 : intsOf (is.map PyData.int) = some is := ints_of_map is
      show Wp (match mIndex (.list (is.map PyData.int)) [.int y] with | some (x', d) => R.ok (.val d) (e'.set j (some (.own x'))) c' | none => .bad) P
      unfold mIndex
      simp only [e1, hk]
      exact z
theorem wp_storeL {j : Nat} {m : M SV} {oi : Opnd} {P : Fl → Env → Cel → Prop} (h : Wp (m e c) fun sv e1 c1 => WpA sv fun v => WpL e1[j]? fun _ => Wp (mO oi e1 c1) fun p e2 c2 => WpL e2[j]? fun xs => WpSl (rd e2 c2 p) fun di => WpI di fun i => ∃ d, v = .val d ∧ 0 ≤ i ∧ i < xs.length ∧ P .nx (e2.set j (some (.own (.list (xs.set i.toNat d))))) c2) : Wp (mStore j putL m oi e c) P := by
  unfold mStore
  rw [wp_bind, wp_arg]
  refine h.imp fun sv e1 c1 z => ?_
  have go : ∀ v, (WpL e1[j]? fun _ => Wp (mO oi e1 c1) fun p e2 c2 => WpL e2[j]? fun xs => WpSl (rd e2 c2 p) fun di => WpI di fun i => ∃ d, v = SV.val d ∧ 0 ≤ i ∧ i < xs.length ∧ P .nx (e2.set j (some (.own (.list (xs.set i.toNat d))))) c2) → Wp (mBind (mHas j) (fun _ => mBind (mO oi) fun p => fun e c => match v, rd e c p with | .val d, some di => putIx j putL d di e c | _, _ => .bad) e1 c1) P := by
    intro v z
    rw [wp_bind]
    unfold mHas
    unfold WpL at z
    match hj : e1[j]?, z with
    | some (some (.own (.list xs))), z =>
      show Wp (R.ok () e1 c1) _
      rw [wp_ok, wp_bind]
      refine z.imp fun p e2 c2 z => ?_
      match hj2 : e2[j]?, z with
      | some (some (.own (.list ys))), z =>
        have z : WpSl (rd e2 c2 p) fun di => WpI di fun i => ∃ d, v = SV.val d ∧ 0 ≤ i ∧ i < ys.length ∧ P .nx (e2.set j (some (.own (.list (ys.set i.toNat d))))) c2 := z
        cases hr : rd e2 c2 p with
        | none => rw [hr] at z; exact z.elim
        | some di =>
          rw [hr] at z
          cases di with
          | int i =>
            obtain ⟨d, rfl, i0, i1, z⟩ := z
            unfold putIx
            rw [hj2]
            obtain ⟨k, rfl⟩ := Int.eq_ofNat_of_zero_le i0
            have e5 : ixN ys.length (k : Int) = some k := by
              unfold ixN
              rw [if_pos (by omega), if_pos (by omega)]
              simp
            show Wp (match putL (.list ys) (.int k) d with | some x' => R.ok .nx (e2.set j (some (.own x'))) c2 | none => .bad) P
            unfold putL
            simp only [e5]
            exact z
          | none => exact z.elim
          | bool _ => exact z.elim
          | str _ => exact z.elim
          | list _ => exact z.elim
          | tuple _ => exact z.elim
          | dict _ => exact z.elim
  cases sv with
  | val d => exact go _ z
  | own d => exact go _ z
  | cell => exact go _ z
def WpDc (o : Option (Option SV)) (Q : List (D × D) → Prop) : Prop := match o with
  | some (some (.own (.dict xs))) => Q xs
  | _ => False
theorem wpdc {xs : List (D × D)} {Q : List (D × D) → Prop} : WpDc (some (some (.own (.dict xs)))) Q = Q xs := rfl
theorem wp_storeD {j : Nat} {m : M SV} {oi : Opnd} {P : Fl → Env → Cel → Prop} (h : Wp (m e c) fun sv e1 c1 => WpA sv fun v => WpDc e1[j]? fun _ => Wp (mO oi e1 c1) fun p e2 c2 => WpDc e2[j]? fun xs => WpSl (rd e2 c2 p) fun di => WpI di fun i => ∃ d, v = .val d ∧ xs.length < 16777216 ∧ P .nx (e2.set j (some (.own (.dict (putD xs i d))))) c2) : Wp (mStore j putL m oi e c) P := by
  unfold mStore
  rw [wp_bind, wp_arg]
  refine h.imp fun sv e1 c1 z => ?_
  have go : ∀ v, (WpDc e1[j]? fun _ => Wp (mO oi e1 c1) fun p e2 c2 => WpDc e2[j]? fun xs => WpSl (rd e2 c2 p) fun di => WpI di fun i => ∃ d, v = SV.val d ∧ xs.length < 16777216 ∧ P .nx (e2.set j (some (.own (.dict (putD xs i d))))) c2) → Wp (mBind (mHas j) (fun _ => mBind (mO oi) fun p => fun e c => match v, rd e c p with | .val d, some di => putIx j putL d di e c | _, _ => .bad) e1 c1) P := by
    intro v z
    rw [wp_bind]
    unfold mHas
    unfold WpDc at z
    match hj : e1[j]?, z with
    | some (some (.own (.dict xs))), z =>
      show Wp (R.ok () e1 c1) _
      rw [wp_ok, wp_bind]
      refine z.imp fun p e2 c2 z => ?_
      match hj2 : e2[j]?, z with
      | some (some (.own (.dict ys))), z =>
        have z : WpSl (rd e2 c2 p) fun di => WpI di fun i => ∃ d, v = SV.val d ∧ ys.length < 16777216 ∧ P .nx (e2.set j (some (.own (.dict (putD ys i d))))) c2 := z
        cases hr : rd e2 c2 p with
        | none => rw [hr] at z; exact z.elim
        | some di =>
          rw [hr] at z
          cases di with
          | int i =>
            obtain ⟨d, rfl, i1, z⟩ := z
            unfold putIx
            rw [hj2]
            show Wp (match putL (.dict ys) (.int i) d with | some x' => R.ok .nx (e2.set j (some (.own x'))) c2 | none => .bad) P
            unfold putL
            simp only [i1, if_true]
            exact z
          | none => exact z.elim
          | bool _ => exact z.elim
          | str _ => exact z.elim
          | list _ => exact z.elim
          | tuple _ => exact z.elim
          | dict _ => exact z.elim
  cases sv with
  | val d => exact go _ z
  | own d => exact go _ z
  | cell => exact go _ z
end
def mxI : List Int → Int
  | [] => 0
  | a :: r => listMax a r
theorem wb_max1 {q : List Int} {P : SV → Prop} (h : q ≠ []) : WpB fMax [.list (q.map .int)] P = P (.val (.int (mxI q))) := by
  cases q with
  | nil => exact absurd rfl h
  | cons a r =>
    have e := ints_of_map (a :: r)
    unfold WpB fMax
    simp only [e]
    rfl
theorem wb_newD {P : SV → Prop} : WpB fNewD [] P = P (.own (.dict [])) := rfl
theorem wb_sortSet {q : List Int} {P : SV → Prop} (h : q.length < 62) : WpB fSortSet [.tuple (q.map .int)] P = P (.own (.list ((sortI (ddI q)).map .int))) := by
  unfold WpB fSortSet
  simp only [ints_of_map q, h, if_true]
theorem wb_lenSet {q : List Int} {P : SV → Prop} (h : q.length < 62) : WpB fLenSet [.tuple (q.map .int)] P = P (.val (.int (ddI q).length)) := by
  unfold WpB fLenSet
  simp only [ints_of_map q, h, if_true]
/-- a dict of whole keys, all with the same -/
def dctI (v : D) (ks : List Int) : List (D × D) := ks.map fun k => (.int k, v)
theorem dct_keys {v : D} {ks : List Int} : (dctI v ks).map (·.1) = ks.map PyData.int := by
  unfold dctI
  rw [List.map_map]
  rfl
theorem dct_put {v : D} {ks : List Int} {k : Int} : putD (dctI v ks) k v = dctI v (if k ∈ ks then ks else ks ++ [k]) := by
  unfold putD
  have e : ((dctI v ks).any fun p => isKey k p.1) = decide (k ∈ ks) := by
    unfold dctI
    rw [List.any_map]
    apply Bool.eq_iff_iff.mpr
    simp [isKey]
  rw [e]
  by_cases h : k ∈ ks
  · rw [if_pos (by simpa using h), if_pos h]
    unfold dctI
    rw [List.map_map]
    refine List.map_congr_left fun a _ => ?_
    simp
  · rw [if_neg (by simpa using h), if_neg h]
    unfold dctI
    rw [List.map_append]
    rfl
theorem wb_sortedDct {v : D} {ks : List Int} {P : SV → Prop} (h : ks.length < 64) : WpB fSorted [.dict (dctI v ks)] P = P (.own (.list ((sortI ks).map .int))) := by
  unfold WpB fSorted
  simp only [dct_keys, ints_of_map ks, h, if_true]
theorem wb_sortedT {q : List Int} {P : SV → Prop} : WpB fSorted [.tuple (q.map .int)] P = P (.own (.list ((sortI q).map .int))) := by
  unfold WpB fSorted; simp only [ints_of_map]
theorem wb_mulL {a : List D} {k : Int} {P : SV → Prop} (h0 : -1000 ≤ k) (h1 : k ≤ 1000) (h2 : a.length ≤ 1000) : WpB fMul [.list a, .int k] P = P (.own (.list (List.replicate k.toNat a).flatten)) := by
  unfold WpB fMul; simp only [h0, h1, h2, and_self, if_true]
end Ev

namespace Ev
open PySem PySem.Spec PyProof.Rows L2
def b_is_whole : Fn := runB 1 (mRet (mAndV [mOps (fIsi "int") [.nm 0], mVT (mNotT (mTV (mOps (fIsi "bool") [.nm 0])))]))

def b_fits_whole (f_is_whole : Fn) : Fn := runB 3 (mRet (mAndV [mCall f_is_whole [mVar 0], mChain fLe fLe (.nm 1) (.nm 0) (.nm 2)]))

def b_is_tuple_of : Fn := runB 3 (mRet (mAndV [mOps (fIsi "tuple") [.nm 0], mChain fLe fLe (.nm 1) (.ex (mOps fLen [.nm 0])) (.nm 2)]))

def b_divisor_in : Fn := runB 2 (mSeq (mSet 0 (mOps fAbs [.nm 0]))
  (mSeq (mWhile (mTV (mOps fGt [.nm 1, .ex (mC (.int 0))]))
  (mPar [0, 1] [mVar 1, mOps fMod [.nm 0, .nm 1]]) 1606938044258990275541962092341162602522202993782792835301376)
  (mRet (mMove 0))))

def b_lowered (f_divisor_in : Fn) : Fn := runB 3 (mSeq (mSet 2 (mCall f_divisor_in [mVar 0, mVar 1]))
  (mRet (mTup [mOps fDiv [.nm 0, .nm 2], mOps fDiv [.nm 1, .nm 2]])))

def b_fits_wagon (f_is_tuple_of : Fn) (f_fits_whole : Fn) : Fn := runB 2 (mSeq (mIf (mOrT [mNotT (mTV (mCall f_is_tuple_of [mVar 0, mC (.int 4), mC (.int 4)])), mNotT (mTV (mCall f_fits_whole [mOps fIx [.nm 0, .ex (mC (.int 0))], mC (.int 1), mC (.int 1000)]))])
  (mRet (mC (.bool false)))
  (mNx))
  (mSeq (mIf (mOrT [mNotT (mTV (mOps fAll [.ex (mComp [1] (mSeqIt (mSl fSl (.nm 0) (some (.ex (mC (.int 1)))) (some (.ex (mC (.int 3)))))) (.nm 1) (mIfs []) (mCall f_fits_whole [mVar 1, mC (.int 0), mOps fIx [.nm 0, .ex (mC (.int 0))]]))])), mTV (mOps fGe [.ex (mOps fIx [.nm 0, .ex (mC (.int 1))]), .ex (mOps fIx [.nm 0, .ex (mC (.int 2))])])])
  (mRet (mC (.bool false)))
  (mNx))
  (mRet (mCall f_fits_whole [mOps fIx [.nm 0, .ex (mC (.int 3))], mC (.int 0), mC (.int 1000000)]))))

def b_need_wagon (f_fits_wagon : Fn) : Fn := runB 1 (mIf (mNotT (mTV (mCall f_fits_wagon [mVar 0])))
  (mRaise (Str.ofString "InvalidTable"))
  (mNx))

def b_fits_good (f_is_tuple_of : Fn) (f_fits_whole : Fn) : Fn := runB 2 (mRet (mAndV [mCall f_is_tuple_of [mVar 1, mC (.int 2), mC (.int 2)], mCall f_fits_whole [mOps fIx [.nm 1, .ex (mC (.int 0))], mC (.int 0), mOps fIx [.nm 0, .ex (mC (.int 0))]], mCall f_fits_whole [mOps fIx [.nm 1, .ex (mC (.int 1))], mC (.int 1), mC (.int 1000)]]))

def b_fits_goods (f_is_tuple_of : Fn) (f_fits_good : Fn) : Fn := runB 3 (mRet (mAndV [mCall f_is_tuple_of [mVar 1, mC (.int 0), mC (.int 20)], mOps fAll [.ex (mComp [2] (mSeqIt (mVar 1)) (.nm 2) (mIfs []) (mCall f_fits_good [mVar 0, mVar 2]))]]))

def b_need_goods (f_need_wagon : Fn) (f_fits_goods : Fn) : Fn := runB 2 (mSeq (mDrop (mCall f_need_wagon [mVar 0]))
  (mIf (mNotT (mTV (mCall f_fits_goods [mVar 0, mVar 1])))
  (mRaise (Str.ofString "InvalidPlan"))
  (mNx)))

def b_need_number (f_fits_whole : Fn) : Fn := runB 2 (mIf (mNotT (mTV (mCall f_fits_whole [mVar 1, mC (.int 0), mOps fSub [.ex (mOps fLen [.nm 0]), .ex (mC (.int 1))]])))
  (mRaise (Str.ofString "InvalidNumber"))
  (mNx))

def b_levers_in : Fn := runB 7 (mSeq (mPar [2, 3] [mOps fIx [.nm 0, .ex (mC (.int 1))], mOps fIx [.nm 0, .ex (mC (.int 2))]])
  (mSeq (mSet 4 (mOps fSum [.ex (mComp [5, 6] (mSeqIt (mVar 1)) (.tp [.nm 5, .nm 6]) (mIfs []) (mOps fMul [.nm 6, .ex (mOps fSub [.nm 3, .nm 5])]))]))
  (mRet (mTup [mVar 4, mOps fSum [.ex (mComp [5, 6] (mSeqIt (mVar 1)) (.tp [.nm 5, .nm 6]) (mIfs []) (mOps fMul [.nm 6, .ex (mOps fSub [.nm 5, .nm 2])]))]]))))

def b_does_hold (f_levers_in : Fn) : Fn := runB 4 (mSeq (mSet 2 (mOps fSub [.ex (mOps fIx [.nm 0, .ex (mC (.int 2))]), .ex (mOps fIx [.nm 0, .ex (mC (.int 1))])]))
  (mRet (mOps fAll [.ex (mComp [3] (mSeqIt (mCall f_levers_in [mVar 0, mVar 1])) (.nm 3) (mIfs []) (mChain fLe fLe (.ex (mC (.int 0))) (.nm 3) (.ex (mOps fMul [.ex (mOps fIx [.nm 0, .ex (mC (.int 3))]), .nm 2]))))])))

def b_moved_to : Fn := runB 3 (mRet (mOps fAdd [.ex (mOps fAdd [.ex (mSl fSl (.nm 0) none (some (.nm 1))), .ex (mTup [mTup [mVar 2, mOps fIx [.ex (mOps fIx [.nm 0, .nm 1]), .ex (mC (.int 1))]]])]), .ex (mSl fSl (.nm 0) (some (.ex (mOps fAdd [.nm 1, .ex (mC (.int 1))]))) none)]))

def b_axle_loads (f_need_goods : Fn) (f_levers_in : Fn) (f_lowered : Fn) : Fn := runB 5 (mSeq (mDrop (mCall f_need_goods [mVar 0, mVar 1]))
  (mSeq (mSet 2 (mOps fSub [.ex (mOps fIx [.nm 0, .ex (mC (.int 2))]), .ex (mOps fIx [.nm 0, .ex (mC (.int 1))])]))
  (mSeq (mAsgT (.tp [.nm 3, .nm 4]) (mCall f_levers_in [mVar 0, mVar 1]))
  (mRet (mTup [mCall f_lowered [mVar 3, mVar 2], mCall f_lowered [mVar 4, mVar 2]])))))

def b_places_of (f_need_goods : Fn) (f_need_number : Fn) (f_does_hold : Fn) (f_moved_to : Fn) : Fn := runB 4 (mSeq (mDrop (mCall f_need_goods [mVar 0, mVar 1]))
  (mSeq (mDrop (mCall f_need_number [mVar 1, mVar 2]))
  (mRet (mOps fTuple [.ex (mComp [3] (mRng1 (.ex (mOps fAdd [.ex (mOps fIx [.nm 0, .ex (mC (.int 0))]), .ex (mC (.int 1))]))) (.nm 3) (mIfs [mTV (mCall f_does_hold [mVar 0, mCall f_moved_to [mVar 1, mVar 2, mVar 3]])]) (mVar 3))]))))

def b_least_shift (f_need_goods : Fn) (f_does_hold : Fn) (f_moved_to : Fn) : Fn := runB 6 (mSeq (mDrop (mCall f_need_goods [mVar 0, mVar 1]))
  (mSeq (mSet 2 (mLst []))
  (mSeq (mFor (mRng1 (.ex (mOps fLen [.nm 1]))) (.nm 3)
  (mSeq (mSet 4 (mComp [5] (mRng1 (.ex (mOps fAdd [.ex (mOps fIx [.nm 0, .ex (mC (.int 0))]), .ex (mC (.int 1))]))) (.nm 5) (mIfs [mTV (mCall f_does_hold [mVar 0, mCall f_moved_to [mVar 1, mVar 3, mVar 5]])]) (mVar 5)))
  (mAug 2 (.ex (mComp [5] (mSeqIt (mVar 4)) (.nm 5) (mIfs []) (mTup [mOps fAbs [.ex (mOps fSub [.nm 5, .ex (mOps fIx [.ex (mOps fIx [.nm 1, .nm 3]), .ex (mC (.int 0))])])], mVar 3, mVar 5]))))))
  (mRet (mIf (mTV (mOps fNe [.nm 2, .ex (mLst [])])) (mOps fMin [.nm 2]) (mC .none))))))

def b_even_places (f_need_goods : Fn) (f_need_number : Fn) (f_lowered : Fn) : Fn := runB 8 (mSeq (mDrop (mCall f_need_goods [mVar 0, mVar 1]))
  (mSeq (mDrop (mCall f_need_number [mVar 1, mVar 2]))
  (mSeq (mSet 3 (mOps fAdd [.ex (mSl fSl (.nm 1) none (some (.nm 2))), .ex (mSl fSl (.nm 1) (some (.ex (mOps fAdd [.nm 2, .ex (mC (.int 1))]))) none)]))
  (mSeq (mSet 4 (mOps fIx [.ex (mOps fIx [.nm 1, .nm 2]), .ex (mC (.int 1))]))
  (mSeq (mSet 5 (mOps fSub [.ex (mOps fSum [.ex (mComp [6, 7] (mSeqIt (mVar 1)) (.tp [.nm 6, .nm 7]) (mIfs []) (mOps fMul [.nm 7, .ex (mOps fAdd [.ex (mOps fIx [.nm 0, .ex (mC (.int 1))]), .ex (mOps fIx [.nm 0, .ex (mC (.int 2))])])]))]), .ex (mOps fMul [.ex (mC (.int 2)), .ex (mOps fSum [.ex (mComp [6, 7] (mSeqIt (mVar 3)) (.tp [.nm 6, .nm 7]) (mIfs []) (mOps fMul [.nm 6, .nm 7]))])])]))
  (mRet (mCall f_lowered [mVar 5, mOps fMul [.ex (mC (.int 2)), .nm 4]])))))))

def b__law_cup : Fn := runB 2 (mSeq (mSet 1 (mOps fAbs [.ex (mOps fIx [.ex (mOps fAdd [.ex (mOps fList [.nm 0]), .ex (mLst [mC (.int 0)])]), .ex (mC (.int 0))])]))
  (mRet (mLst [mIf (mTV (mOps fGe [.nm 1, .ex (mOps fPow [.ex (mC (.int 10)), .ex (mC (.int 18))])])) (mOps fDiv [.nm 1, .ex (mC (.int 199))]) (mC (.int 0)), mOps fAdd [.ex (mOps fMod [.ex (mOps fInt [.ex (mOps fAdd [.ex (mOps fMul [.nm 1, .ex (mC (.int 4561))]), .ex (mC (.int 6563))])]), .ex (mC (.int 2041177399))]), .ex (mC (.int 3203))]])))

def b__law_roll : Fn := runB 4 (mSeq (mIf (mTV (mOps fGt [.ex (mOps fIx [.nm 0, .ex (mC (.int 0))]), .ex (mC (.int 0))]))
  (mSeq (mSet 2 (mOps fMod [.ex (mOps fInt [.ex (mOps fIx [.nm 0, .ex (mC (.int 0))])]), .nm 1]))
  (mSeq (mStore 0 putL (mOps fDiv [.ex (mOps fIx [.nm 0, .ex (mC (.int 0))]), .nm 1]) (.ex (mC (.int 0))))
  (mRet (mMove 2))))
  (mNx))
  (mSeq (mStore 0 putL (mOps fMod [.ex (mOps fInt [.ex (mOps fAdd [.ex (mOps fMul [.ex (mOps fIx [.nm 0, .ex (mC (.int 1))]), .ex (mC (.int 35581))]), .ex (mC (.int 8191))])]), .ex (mC (.int 2147483423))]) (.ex (mC (.int 1))))
  (mSeq (mSet 3 (mOps fMod [.ex (mOps fInt [.ex (mOps fMul [.ex (mOps fIx [.nm 0, .ex (mC (.int 1))]), .ex (mOps fAdd [.ex (mOps fIx [.nm 0, .ex (mC (.int 1))]), .ex (mC (.int 5261))])])]), .ex (mC (.int 2147483587))]))
  (mRet (mOps fMod [.ex (mOps fInt [.ex (mOps fDiv [.nm 3, .ex (mC (.int 2593))])]), .nm 1])))))

def b__law_some (f__law_roll : Fn) : Fn := runB 2 (mRet (mOps fIx [.nm 1, .ex (mCall f__law_roll [mVar 0, mOps fLen [.nm 1]])]))

def b__law_same (f__law_same : Fn) : Fn := runB 3 (mSeq (mIf (mOrT [mTV (mOps (fIsi "tuple") [.nm 1]), mTV (mOps (fIsi "list") [.nm 1])])
  (mSeq (mIf (mOrT [mTV (mOps fNe [.ex (mOps (fIsi "tuple") [.nm 0]), .ex (mOps (fIsi "tuple") [.nm 1])]), mTV (mOps fNe [.ex (mOps (fIsi "list") [.nm 0]), .ex (mOps (fIsi "list") [.nm 1])]), mTV (mOps fNe [.ex (mOps fLen [.nm 0]), .ex (mOps fLen [.nm 1])])])
  (mRet (mC (.bool false)))
  (mNx))
  (mRet (mOps fEq [.ex (mComp [2] (mRng1 (.ex (mOps fLen [.nm 1]))) (.nm 2) (mIfs [mNotT (mTV (mCall f__law_same [mOps fIx [.nm 0, .nm 2], mOps fIx [.nm 1, .nm 2]]))]) (mC (.int 1))), .ex (mLst [])])))
  (mNx))
  (mSeq (mIf (mTV (mOps fIs [.nm 1, .ex (mC .none)]))
  (mRet (mOps fIs [.nm 0, .ex (mC .none)]))
  (mNx))
  (mSeq (mIf (mTV (mOps (fIsi "bool") [.nm 1]))
  (mRet (mIf (mTV (mVar 1)) (mOps fIs [.nm 0, .ex (mC (.bool true))]) (mOps fIs [.nm 0, .ex (mC (.bool false))])))
  (mNx))
  (mSeq (mIf (mTV (mOps (fIsi "int") [.nm 1]))
  (mRet (mAndV [mOps (fIsi "int") [.nm 0], mVT (mNotT (mTV (mOps (fIsi "bool") [.nm 0]))), mOps fEq [.ex (mOps fInt [.nm 0]), .nm 1]]))
  (mNx))
  (mRet (mAndV [mOps (fIsi "str") [.nm 0], mOps fEq [.ex (mOps fStr [.nm 0]), .nm 1]]))))))

def b__law_lowered : Fn := runB 4 (mSeq (mPar [2, 3] [mOps fMax [.nm 0, .ex (mOps fNeg [.nm 0])], mVar 1])
  (mSeq (mWhile (mTV (mOps fGt [.nm 3, .ex (mC (.int 0))]))
  (mPar [2, 3] [mVar 3, mOps fMod [.ex (mOps fInt [.nm 2]), .nm 3]]) 1606938044258990275541962092341162602522202993782792835301376)
  (mRet (mTup [mOps fInt [.ex (mOps fDiv [.nm 0, .nm 2])], mOps fInt [.ex (mOps fDiv [.nm 1, .nm 2])]]))))

def b__law_wagon (f__law_roll : Fn) (f__law_some : Fn) : Fn := runB 4 (mSeq (mSet 1 (mOps fAdd [.ex (mC (.int 1)), .ex (mCall f__law_roll [mVar 0, mCall f__law_some [mVar 0, mLst [mC (.int 8), mC (.int 20), mC (.int 1000)]]])]))
  (mSeq (mSet 2 (mCall f__law_roll [mVar 0, mVar 1]))
  (mSeq (mSet 3 (mOps fAdd [.ex (mOps fAdd [.nm 2, .ex (mC (.int 1))]), .ex (mCall f__law_roll [mVar 0, mOps fSub [.nm 1, .nm 2]])]))
  (mRet (mTup [mVar 1, mVar 2, mVar 3, mCall f__law_roll [mVar 0, mCall f__law_some [mVar 0, mLst [mC (.int 30), mC (.int 3000), mOps fAdd [.ex (mOps fPow [.ex (mC (.int 10)), .ex (mC (.int 6))]), .ex (mC (.int 1))]]]]])))))

def b__law_goods (f__law_roll : Fn) (f__law_some : Fn) : Fn := runB 7 (mSeq (mSet 4 (mLst []))
  (mSeq (mFor (mRng1 (.ex (mCall f__law_roll [mVar 0, mOps fAdd [.nm 2, .ex (mC (.int 1))]]))) (.nm 5)
  (mSeq (mSet 6 (mCall f__law_some [mVar 0, mLst [mCall f__law_roll [mVar 0, mOps fAdd [.ex (mOps fIx [.nm 1, .ex (mC (.int 0))]), .ex (mC (.int 1))]], mOps fAdd [.ex (mOps fIx [.nm 1, .ex (mC (.int 1))]), .ex (mCall f__law_roll [mVar 0, mOps fAdd [.ex (mOps fSub [.ex (mOps fIx [.nm 1, .ex (mC (.int 2))]), .ex (mOps fIx [.nm 1, .ex (mC (.int 1))])]), .ex (mC (.int 1))]])]]]))
  (mDrop (mMeth 4 isLst mAppend [mTup [mVar 6, mOps fAdd [.ex (mC (.int 1)), .ex (mCall f__law_roll [mVar 0, mVar 3])]]]))))
  (mRet (mOps fTuple [.nm 4]))))

def b__law_levers : Fn := runB 6 (mSeq (mPar [2, 3] [mC (.int 0), mC (.int 0)])
  (mSeq (mFor (mSeqIt (mVar 1)) (.tp [.nm 4, .nm 5])
  (mPar [2, 3] [mOps fAdd [.nm 2, .ex (mOps fMul [.nm 5, .ex (mOps fSub [.ex (mOps fIx [.nm 0, .ex (mC (.int 2))]), .nm 4])])], mOps fAdd [.nm 3, .ex (mOps fMul [.nm 5, .ex (mOps fSub [.nm 4, .ex (mOps fIx [.nm 0, .ex (mC (.int 1))])])])]]))
  (mRet (mTup [mVar 2, mVar 3]))))

def b__law_holds (f__law_levers : Fn) : Fn := runB 5 (mSeq (mAsgT (.tp [.nm 2, .nm 3]) (mCall f__law_levers [mVar 0, mVar 1]))
  (mSeq (mSet 4 (mOps fMul [.ex (mOps fIx [.nm 0, .ex (mC (.int 3))]), .ex (mOps fSub [.ex (mOps fIx [.nm 0, .ex (mC (.int 2))]), .ex (mOps fIx [.nm 0, .ex (mC (.int 1))])])]))
  (mRet (mAndV [mChain fLe fLe (.ex (mC (.int 0))) (.nm 2) (.nm 4), mChain fLe fLe (.ex (mC (.int 0))) (.nm 3) (.nm 4)]))))

def b__law_rows_right (f_least_shift : Fn) (f_even_places : Fn) (f_axle_loads : Fn) (f__law_same : Fn) : Fn := runB 3 (mSeq (mSet 0 (mTup [mC (.int 10), mC (.int 2), mC (.int 8), mC (.int 100)]))
  (mSeq (mSet 1 (mTup [mTup [mC (.int 0), mC (.int 6)], mTup [mC (.int 8), mC (.int 6)]]))
  (mSeq (mSet 2 (mTup [mCall f_least_shift [mVar 0, mVar 1], mCall f_even_places [mVar 0, mTup [mTup [mC (.int 5), mC (.int 10)], mTup [mC (.int 2), mC (.int 5)]], mC (.int 1)], mCall f_axle_loads [mVar 0, mSl fSl (.nm 1) none (some (.ex (mC (.int 1))))]]))
  (mRet (mCall f__law_same [mVar 2, mTup [mTup [mC (.int 0), mC (.int 0), mC (.int 0)], mTup [mC (.int 5), mC (.int 1)], mTup [mTup [mC (.int 8), mC (.int 1)], mTup [mOps fNeg [.ex (mC (.int 2))], mC (.int 1)]]]])))))

def b_law (f__law_cup : Fn) (f__law_rows_right : Fn) (f__law_wagon : Fn) (f__law_goods : Fn) (f__law_some : Fn) (f__law_holds : Fn) (f__law_same : Fn) (f_places_of : Fn) (f_even_places : Fn) (f__law_lowered : Fn) (f_least_shift : Fn) (f__law_roll : Fn) (f_axle_loads : Fn) : Fn := runB 19 (mSeq (mSetCup 1 (mCall f__law_cup [mVar 0]))
  (mSeq (mIf (mNotT (mTV (mCall f__law_rows_right [])))
  (mRet (mC (.bool false)))
  (mNx))
  (mSeq (mFor (mRng1 (.ex (mC (.int 6)))) (.nm 2)
  (mSeq (mSet 3 (mCall f__law_wagon [mVar 1]))
  (mSeq (mSet 3 (mIf (mTV (mOps fLt [.ex (mOps fIx [.nm 3, .ex (mC (.int 1))]), .ex (mOps fMin [.ex (mOps fIx [.nm 3, .ex (mC (.int 2))]), .ex (mC (.int 40))])])) (mTup [mOps fMin [.ex (mOps fIx [.nm 3, .ex (mC (.int 0))]), .ex (mC (.int 40))], mOps fMin [.ex (mOps fIx [.nm 3, .ex (mC (.int 1))]), .ex (mC (.int 39))], mOps fMin [.ex (mOps fIx [.nm 3, .ex (mC (.int 2))]), .ex (mC (.int 40))], mOps fIx [.nm 3, .ex (mC (.int 3))]]) (mTup [mC (.int 40), mC (.int 3), mC (.int 30), mOps fIx [.nm 3, .ex (mC (.int 3))]])))
  (mSeq (mSet 4 (mCall f__law_goods [mVar 1, mVar 3, mC (.int 6), mCall f__law_some [mVar 1, mLst [mC (.int 9), mC (.int 300)]]]))
  (mSeq (mSet 5 (mC .none))
  (mSeq (mFor (mRng1 (.ex (mOps fLen [.nm 4]))) (.nm 6)
  (mSeq (mSet 7 (mLst []))
  (mSeq (mFor (mRng1 (.ex (mOps fAdd [.ex (mOps fIx [.nm 3, .ex (mC (.int 0))]), .ex (mC (.int 1))]))) (.nm 8)
  (mIf (mTV (mCall f__law_holds [mVar 3, mOps fAdd [.ex (mOps fAdd [.ex (mSl fSl (.nm 4) none (some (.nm 6))), .ex (mTup [mTup [mVar 8, mOps fIx [.ex (mOps fIx [.nm 4, .nm 6]), .ex (mC (.int 1))]]])]), .ex (mSl fSl (.nm 4) (some (.ex (mOps fAdd [.nm 6, .ex (mC (.int 1))]))) none)]]))
  (mSeq (mDrop (mMeth 7 isLst mAppend [mVar 8]))
  (mSeq (mSet 9 (mTup [mOps fAbs [.ex (mOps fSub [.nm 8, .ex (mOps fIx [.ex (mOps fIx [.nm 4, .nm 6]), .ex (mC (.int 0))])])], mVar 6, mVar 8]))
  (mSet 5 (mIf (mOrT [mTV (mOps fIs [.nm 5, .ex (mC .none)]), mTV (mOps fLt [.nm 9, .nm 5])]) (mVar 9) (mVar 5)))))
  (mNx)))
  (mSeq (mIf (mNotT (mTV (mCall f__law_same [mCall f_places_of [mVar 3, mVar 4, mVar 6], mOps fTuple [.nm 7]])))
  (mRet (mC (.bool false)))
  (mNx))
  (mSeq (mAsgT (.tp [.nm 10, .nm 11]) (mCall f_even_places [mVar 3, mVar 4, mVar 6]))
  (mSeq (mPar [12, 13] [mC (.int 0), mC (.int 0)])
  (mSeq (mFor (mEnum (mVar 4)) (.tp [.nm 14, .tp [.nm 8, .nm 15]])
  (mSeq (mSet 16 (mIf (mTV (mOps fEq [.nm 14, .nm 6])) (mVar 10) (mOps fMul [.nm 8, .nm 11])))
  (mPar [12, 13] [mOps fAdd [.nm 12, .ex (mOps fMul [.nm 15, .ex (mOps fSub [.ex (mOps fMul [.ex (mOps fIx [.nm 3, .ex (mC (.int 2))]), .nm 11]), .nm 16])])], mOps fAdd [.nm 13, .ex (mOps fMul [.nm 15, .ex (mOps fSub [.nm 16, .ex (mOps fMul [.ex (mOps fIx [.nm 3, .ex (mC (.int 1))]), .nm 11])])])]])))
  (mIf (mOrT [mTV (mOps fNe [.nm 12, .nm 13]), mNotT (mTV (mCall f__law_same [mTup [mVar 10, mVar 11], mCall f__law_lowered [mVar 10, mVar 11]]))])
  (mRet (mC (.bool false)))
  (mNx)))))))))
  (mIf (mNotT (mTV (mCall f__law_same [mCall f_least_shift [mVar 3, mVar 4], mVar 5])))
  (mRet (mC (.bool false)))
  (mNx))))))))
  (mSeq (mSet 17 (mCall f__law_roll [mVar 1, mC (.int 400)]))
  (mSeq (mSet 18 (mTup [mCall f_even_places [mTup [mC (.int 1000), mC (.int 100), mC (.int 900), mC (.int 5)], mTup [mTup [mVar 17, mC (.int 7)]], mC (.int 0)], mCall f_axle_loads [mTup [mC (.int 1000), mC (.int 100), mC (.int 900), mC (.int 5)], mTup [mTup [mC (.int 500), mC (.int 7)]]], mCall f_least_shift [mTup [mC (.int 1), mC (.int 0), mC (.int 1), mC (.int 0)], mTup []]]))
  (mRet (mCall f__law_same [mVar 18, mTup [mTup [mC (.int 500), mC (.int 1)], mTup [mTup [mC (.int 7), mC (.int 2)], mTup [mC (.int 7), mC (.int 2)]], mC .none]])))))))

def topS (i : Nat) : Stmt := PySem.Challenge.pw_timberyard_k57_whole_moves_on_wagons.main.body.getD i (.Pass ⟨0, 0, 0, 0⟩)
def tDefs : List Def := [⟨"is_whole", ["value"], ["value"]⟩,
  ⟨"fits_whole", ["value", "low", "high"], ["value", "low", "high"]⟩,
  ⟨"is_tuple_of", ["value", "least", "most"], ["value", "least", "most"]⟩,
  ⟨"divisor_in", ["one", "other"], ["one", "other"]⟩,
  ⟨"lowered", ["above", "below"], ["above", "below", "common"]⟩,
  ⟨"fits_wagon", ["value"], ["value", "place"]⟩,
  ⟨"need_wagon", ["value"], ["value"]⟩,
  ⟨"fits_good", ["wagon", "value"], ["wagon", "value"]⟩,
  ⟨"fits_goods", ["wagon", "value"], ["wagon", "value", "good"]⟩,
  ⟨"need_goods", ["wagon", "goods"], ["wagon", "goods"]⟩,
  ⟨"need_number", ["goods", "number"], ["goods", "number"]⟩,
  ⟨"levers_in", ["wagon", "goods"], ["wagon", "goods", "first", "last", "one", "place", "weight"]⟩,
  ⟨"does_hold", ["wagon", "goods"], ["wagon", "goods", "apart", "load"]⟩,
  ⟨"moved_to", ["goods", "number", "place"], ["goods", "number", "place"]⟩,
  ⟨"axle_loads", ["wagon", "goods"], ["wagon", "goods", "apart", "one", "other"]⟩,
  ⟨"places_of", ["wagon", "goods", "number"], ["wagon", "goods", "number", "place"]⟩,
  ⟨"least_shift", ["wagon", "goods"], ["wagon", "goods", "rows", "number", "some", "place"]⟩,
  ⟨"even_places", ["wagon", "goods", "number"], ["wagon", "goods", "number", "rest", "weight", "sums", "place", "own"]⟩,
  ⟨"_law_cup", ["script"], ["script", "cell"]⟩,
  ⟨"_law_roll", ["cup", "many"], ["cup", "many", "found", "deep"]⟩,
  ⟨"_law_some", ["cup", "things"], ["cup", "things"]⟩,
  ⟨"_law_same", ["told", "due"], ["told", "due", "at"]⟩,
  ⟨"_law_lowered", ["above", "below"], ["above", "below", "one", "other"]⟩,
  ⟨"_law_wagon", ["cup"], ["cup", "length", "first", "last"]⟩,
  ⟨"_law_goods", ["cup", "wagon", "many", "heavy"], ["cup", "wagon", "many", "heavy", "found", "good", "place"]⟩,
  ⟨"_law_levers", ["wagon", "goods"], ["wagon", "goods", "one", "other", "place", "weight"]⟩,
  ⟨"_law_holds", ["wagon", "goods"], ["wagon", "goods", "one", "other", "most"]⟩,
  ⟨"_law_rows_right", [], ["wagon", "goods", "told"]⟩,
  ⟨"law", ["script"], ["script", "cup", "turn", "wagon", "goods", "best", "number", "some", "place", "row", "above", "below", "one", "other", "at", "weight", "own", "far", "told"]⟩]
def tStmts : List Stmt := [topS 7, topS 8, topS 9, topS 14, topS 15, topS 16, topS 17, topS 18, topS 19, topS 20, topS 21, topS 22, topS 23, topS 24, topS 25, topS 26, topS 27, topS 28, topS 30, topS 31, topS 32, topS 33, topS 34, topS 35, topS 36, topS 37, topS 38, topS 39, topS 40]
def tConsts : List (Str × D) := [("LONGEST", (.int 1000)), ("GOODS", (.int 20)), ("HEAVY", (.int 1000)), ("LIMIT", (.int 1000000))]
def tExcs : List Str := ["InvalidPlan", "InvalidTable", "InvalidNumber"]
def tab : Tab := ⟨tDefs, tConsts, tExcs⟩
abbrev ev (n j : Nat) : Fn := evN tab tStmts n j
theorem e_is_whole (n : Nat) : ev (n + 1) 0 = b_is_whole  := by kernel_rfl
theorem e_fits_whole (n : Nat) : ev (n + 1) 1 = b_fits_whole (ev n 0) := by kernel_rfl
theorem e_is_tuple_of (n : Nat) : ev (n + 1) 2 = b_is_tuple_of  := by kernel_rfl
theorem e_divisor_in (n : Nat) : ev (n + 1) 3 = b_divisor_in  := by kernel_rfl
theorem e_lowered (n : Nat) : ev (n + 1) 4 = b_lowered (ev n 3) := by kernel_rfl
theorem e_fits_wagon (n : Nat) : ev (n + 1) 5 = b_fits_wagon (ev n 2) (ev n 1) := by kernel_rfl
theorem e_need_wagon (n : Nat) : ev (n + 1) 6 = b_need_wagon (ev n 5) := by kernel_rfl
theorem e_fits_good (n : Nat) : ev (n + 1) 7 = b_fits_good (ev n 2) (ev n 1) := by kernel_rfl
theorem e_fits_goods (n : Nat) : ev (n + 1) 8 = b_fits_goods (ev n 2) (ev n 7) := by kernel_rfl
theorem e_need_goods (n : Nat) : ev (n + 1) 9 = b_need_goods (ev n 6) (ev n 8) := by kernel_rfl
theorem e_need_number (n : Nat) : ev (n + 1) 10 = b_need_number (ev n 1) := by kernel_rfl
theorem e_levers_in (n : Nat) : ev (n + 1) 11 = b_levers_in  := by kernel_rfl
theorem e_does_hold (n : Nat) : ev (n + 1) 12 = b_does_hold (ev n 11) := by kernel_rfl
theorem e_moved_to (n : Nat) : ev (n + 1) 13 = b_moved_to  := by kernel_rfl
theorem e_axle_loads (n : Nat) : ev (n + 1) 14 = b_axle_loads (ev n 9) (ev n 11) (ev n 4) := by kernel_rfl
theorem e_places_of (n : Nat) : ev (n + 1) 15 = b_places_of (ev n 9) (ev n 10) (ev n 12) (ev n 13) := by kernel_rfl
theorem e_least_shift (n : Nat) : ev (n + 1) 16 = b_least_shift (ev n 9) (ev n 12) (ev n 13) := by kernel_rfl
theorem e_even_places (n : Nat) : ev (n + 1) 17 = b_even_places (ev n 9) (ev n 10) (ev n 4) := by kernel_rfl
theorem e__law_cup (n : Nat) : ev (n + 1) 18 = b__law_cup  := by kernel_rfl
theorem e__law_roll (n : Nat) : ev (n + 1) 19 = b__law_roll  := by kernel_rfl
theorem e__law_some (n : Nat) : ev (n + 1) 20 = b__law_some (ev n 19) := by kernel_rfl
theorem e__law_same (n : Nat) : ev (n + 1) 21 = b__law_same (ev n 21) := by kernel_rfl
theorem e__law_lowered (n : Nat) : ev (n + 1) 22 = b__law_lowered  := by kernel_rfl
theorem e__law_wagon (n : Nat) : ev (n + 1) 23 = b__law_wagon (ev n 19) (ev n 20) := by kernel_rfl
theorem e__law_goods (n : Nat) : ev (n + 1) 24 = b__law_goods (ev n 19) (ev n 20) := by kernel_rfl
theorem e__law_levers (n : Nat) : ev (n + 1) 25 = b__law_levers  := by kernel_rfl
theorem e__law_holds (n : Nat) : ev (n + 1) 26 = b__law_holds (ev n 25) := by kernel_rfl
theorem e__law_rows_right (n : Nat) : ev (n + 1) 27 = b__law_rows_right (ev n 16) (ev n 17) (ev n 14) (ev n 21) := by kernel_rfl
theorem e_law (n : Nat) : ev (n + 1) 28 = b_law (ev n 18) (ev n 27) (ev n 23) (ev n 24) (ev n 20) (ev n 26) (ev n 21) (ev n 15) (ev n 17) (ev n 22) (ev n 16) (ev n 19) (ev n 14) := by kernel_rfl
end Ev
namespace Ev
open PySem PySem.Spec PyProof.Rows L2
local macro_rules | `(tactic| walk_at "ev") => `(tactic| (try simp only [wpf_runB, wpf_ok, List.map_cons, List.map_nil, List.length_cons, List.length_nil, List.replicate, Nat.reduceSub, Nat.reduceAdd, List.cons_append, List.nil_append, wp_seq, wp_if, wp_tv, wpt_b, wp_vt, wp_not, wp_and1, wp_and2, wp_or1, wp_or2, wp_andv1, wp_andv2, wp_orv1, wp_orv2,
  wp_ops, wp_os0, wp_os1, wp_oex, wp_c, wpz_val, wpz_own, wpd_nil, wpd_d, wp_call, wp_args0, wp_args1, wpa_val, wpa_own, wpa_cell, wp_tup', wp_lst', datas, wpdt_some, wps_nx, wps_rt, wp_nx, wp_drop, wp_ret, wp_set, wp_vals0, wp_vals1, wp_par', sets, wpsets_some, get_0, get_s, sl_val, sl_own, sl_cell, List.set_cons_zero, List.set_cons_succ,
  wpq_onm, wpq_some, wpd_sl, wpsl_some, wpq_var, wpq_move, wpr_some, rdv_val, rdv_own, rdv_cell, rdm_val, rdm_own, rdm_cell, wpq_chain, wpq_fin,
  wb_add, wb_sub, wb_lt, wb_le, wb_gt, wb_ge, wb_abs, wb_int, wb_list, wb_listT, wb_lenL, wb_lenT, wb_eqI, wb_neI, wb_eqB, wb_neB, wb_isB, wb_isN, wb_isi, wq_mul, wq_div, wq_mod, decide_eq_true_eq, Bool.not_eq_true', decide_eq_false_iff_not, if_true, Bool.false_eq_true, if_false, Bool.not_true, Bool.not_false, eq_self, true_and, and_true, not_true_eq_false, not_false_eq_true, reduceCtorEq, le1000_1, le1000_2, le1000_3, le1000_4, isSub_ii, isSub_ib, isSub_tt, ty_tuple, ty_int, wb_neg, wb_max, wb_min, ixt0, ixt1, ixt2, wp_asgT', wpas_val, tgt_nm, tgt_tp, tgts_nil, tgts_nm, wp_seqIt, wpsq_t, wpsq_l, wp_zip, wpzp_l, wpzp_t, wp_slice, wp_part0, wp_part1, rd_d, rd_s, wpi_i, wpq_q, wpf_slt, wpf_sll, wb_tupL, wb_tupT, wb_revT, wb_revL, wp_appendE, wpl_l, wpone, wp_rgv1, wp_rgv2, seq_tt, seq_ff]))
local macro_rules | `(tactic| walk_at "sd") => `(tactic| repeat (first | refine ⟨cmul (by omega) (by omega), ?_⟩ | refine ⟨rcmul (by omega) (by omega), ?_⟩ | refine ⟨(show _ ∧ _ from ⟨by omega, by omega⟩), ?_⟩ | refine ⟨by omega, ?_⟩))
local macro_rules | `(tactic| walk_at "cj") => `(tactic| repeat ((with_reducible refine And.intro ?_ ?_); (first | omega | exact okRg_of (by omega) (by omega) (by omega) (by omega) | exact okR_of (by omega) (by omega) | exact cmul (by omega) (by omega) | exact rcmul (by omega) (by omega))))
/-! ### wagons, goods -/
structure Wg (L f l m : Int) : Prop where
  L0 : 1 ≤ L
  L1 : L ≤ 1000
  f0 : 0 ≤ f
  fl : f < l
  l1 : l ≤ L
  m0 : 0 ≤ m
  m1 : m ≤ 1000000
abbrev wg (L f l m : Int) : D := .tuple [.int L, .int f, .int l, .int m]
abbrev gp (p : Int × Int) : D := .tuple [.int p.1, .int p.2]
def GoodsOk (L : Int) (gs : List (Int × Int)) : Prop := ∀ p ∈ gs, 0 ≤ p.1 ∧ p.1 ≤ L ∧ 1 ≤ p.2 ∧ p.2 ≤ 1000
def ltI (b c : D) : Bool := match b, c with
  | .int x, .int y => decide (x < y)
  | _, _ => false
def okW (v : D) : Bool := match v with
  | .tuple [.int L, b, c, d] => decide (1 ≤ L ∧ L ≤ 1000) && (wh b 0 L && wh c 0 L && ltI b c) && wh d 0 1000000
  | _ => false
theorem okW_eq {L : Int} {b c d : D} : okW (.tuple [.int L, b, c, d]) = (decide (1 ≤ L ∧ L ≤ 1000) && (wh b 0 L && wh c 0 L && ltI b c) && wh d 0 1000000) := rfl
theorem okW_wg {L f l m : Int} (h : Wg L f l m) : okW (wg L f l m) = true := by
  rw [okW_eq]
  simp [wh, ltI, h.L0, h.L1, h.f0, h.fl, h.m0, h.m1, h.l1]
  have := h.fl; have := h.l1; have := h.f0
  omega
def FwG (F : Fn) : Prop := ∀ (v : D) (c : Cel) (P : SV → Cel → Prop), P (.val (.bool (okW v))) c → WpF (F [.val v] c) P
theorem tp_four {d : D} (h : tpN d 4 4 = true) : ∃ x y z w, d = .tuple [x, y, z, w] := by
  cases d with
  | tuple xs =>
    simp [tpN] at h
    match xs, h with
    | [x, y, z, w], _ => exact ⟨x, y, z, w, rfl⟩
    | [], h => simp at h
    | [_], h => simp at h
    | [_, _], h => simp at h
    | [_, _, _], h => simp at h
    | _ :: _ :: _ :: _ :: _ :: _, h => simp at h; omega
  | _ => cases h
theorem ixt3 {x y z w : D} {P : SV → Prop} : WpB fIx [.tuple [x, y, z, w], .int 3] P = P (.val w) := rfl
theorem okW_no {d : D} (h : tpN d 4 4 = false) : okW d = false := by
  unfold okW
  split
  · simp [tpN] at h
  · rfl
theorem fits_wagon_ok {F G : Fn} (hF : TupG F) (hG : FitsG G) : FwG (b_fits_wagon F G) := by
  intro v c P k
  unfold b_fits_wagon
  rw [wpf_runB]
  refine wp_seqK fun K hn hr => ?_
  walk_at "ev"
  refine hF _ _ _ _ _ ?_
  walk_at "ev"
  by_cases ht : tpN v 4 4 = false
  · rw [if_pos ht]
    refine hr _ _ _ ?_
    rw [okW_no ht] at k
    exact k
  rw [if_neg ht]
  rw [Bool.not_eq_false] at ht
  obtain ⟨x, b, cc, d, rfl⟩ := tp_four ht
  walk_at "ev"
  refine hG _ _ _ _ _ ?_
  walk_at "ev"
  by_cases hx : wh x 1 1000 = false
  · rw [if_pos hx]
    refine hr _ _ _ ?_
    have e : okW (.tuple [x, b, cc, d]) = false := by
      cases x with
      | int L => rw [okW_eq]; rw [wh_int] at hx; rw [hx]; rfl
      | _ => rfl
    rw [e] at k
    exact k
  rw [if_neg hx]
  rw [Bool.not_eq_false] at hx
  obtain ⟨L, rfl, L0, L1⟩ := wh_wI hx
  rw [okW_eq, show decide (1 ≤ L ∧ L ≤ 1000) = true from by simp [L0, L1], Bool.true_and] at k
  refine hn _ _ ?_
  clear hn hr K
  refine wp_seqK fun K hn hr => ?_
  walk_at "ev"
  refine compN (ds := [b, cc]) (g := fun d => .bool (wh d 0 L)) (fun u => [some (.val (.tuple [.int L, b, cc, d])), some (.val u)]) ?_ (by simp) rfl (by simp [Tgt.slots]) rfl rfl (fun _ _ => ⟨rfl, rfl⟩) (fun u _ => ?_) ?_
  · walk_at "ev"
    rfl
  · walk_at "ev"
    refine hG _ _ _ _ _ ?_
    walk_at "ev"
    exact .inl trivial
  walk_at "ev"
  rw [show WpB fAll [.list [.bool (wh b 0 L), .bool (wh cc 0 L)]] = fun P => P (.val (.bool (wh b 0 L && (wh cc 0 L && true)))) from rfl]
  walk_at "ev"
  rw [Bool.and_true]
  by_cases h1 : (wh b 0 L && wh cc 0 L) = false
  · rw [if_pos h1]
    refine hr _ _ _ ?_
    rw [h1] at k
    exact k
  rw [if_neg h1]
  rw [Bool.not_eq_false] at h1
  rw [h1, Bool.true_and] at k
  rw [Bool.and_eq_true] at h1
  obtain ⟨y, rfl, _, _⟩ := wh_wI h1.1
  obtain ⟨z, rfl, _, _⟩ := wh_wI h1.2
  walk_at "ev"
  have k : P (.val (.bool (decide (y < z) && wh d 0 1000000))) c := k
  by_cases h2 : z ≤ y
  · rw [if_pos h2]
    refine hr _ _ _ ?_
    rw [show decide (y < z) = false from by simp; omega] at k
    exact k
  rw [if_neg h2]
  refine hn _ _ ?_
  walk_at "ev"
  rw [show WpB fIx [.tuple [.int L, .int y, .int z, d], .int 3] = fun P => P (.val d) from rfl]
  walk_at "ev"
  refine hG _ _ _ _ _ ?_
  rw [show decide (y < z) = true from by simp; omega, Bool.true_and] at k
  exact k
def okG (L : Int) (d : D) : Bool := match d with
  | .tuple [x, y] => wh x 0 L && wh y 1 1000
  | _ => false
def okGs (L : Int) (v : D) : Bool := match v with
  | .tuple ds => decide (0 ≤ (ds.length : Int) ∧ (ds.length : Int) ≤ 20) && ds.all (okG L)
  | _ => false
theorem okGs_eq {L : Int} {ds : List D} : okGs L (.tuple ds) = (decide (0 ≤ (ds.length : Int) ∧ (ds.length : Int) ≤ 20) && ds.all (okG L)) := rfl
theorem okG_no {L : Int} {d : D} (h : tpN d 2 2 = false) : okG L d = false := by
  unfold okG
  split
  · simp [tpN] at h
  · rfl
def FgOk (F : Fn) : Prop := ∀ (L f l m : Int) (v : D) (c : Cel) (P : SV → Cel → Prop), P (.val (.bool (okG L v))) c → WpF (F [.val (wg L f l m), .val v] c) P
theorem fits_good_ok {F G : Fn} (hF : TupG F) (hG : FitsG G) : FgOk (b_fits_good F G) := by
  intro L f l m v c P k
  unfold b_fits_good
  walk_at "ev"
  refine hF _ _ _ _ _ ?_
  by_cases ht : tpN v 2 2 = false
  · rw [okG_no ht] at k
    rw [ht]
    walk_at "ev"
    exact k
  rw [Bool.not_eq_false] at ht
  rw [ht]
  obtain ⟨x, y, rfl⟩ := tp_two ht
  walk_at "ev"
  refine hG _ _ _ _ _ ?_
  walk_at "ev"
  have k : P (.val (.bool (wh x 0 L && wh y 1 1000))) c := k
  cases h : wh x 0 L with
  | false =>
    rw [h] at k
    rw [if_neg (by simp)]
    exact k
  | true =>
    rw [h, Bool.true_and] at k
    rw [if_pos rfl]
    exact hG _ _ _ _ _ k
def FgsOk (F : Fn) : Prop := ∀ (L f l m : Int) (v : D) (c : Cel) (P : SV → Cel → Prop), (∀ ds, v = .tuple ds → ds.length ≤ 1000) → P (.val (.bool (okGs L v))) c → WpF (F [.val (wg L f l m), .val v] c) P
theorem fits_goods_ok {F G : Fn} (hF : TupG F) (hG : FgOk G) : FgsOk (b_fits_goods F G) := by
  intro L f l m v c P hl k
  unfold b_fits_goods
  walk_at "ev"
  refine hF _ _ _ _ _ ?_
  walk_at "ev"
  by_cases ht : tpN v 0 20 = false
  · rw [ht]
    rw [if_neg (by simp)]
    have e : okGs L v = false := by
      unfold okGs
      split
      · rename_i ds
        have h : decide (0 ≤ (ds.length : Int) ∧ (ds.length : Int) ≤ 20) = false := ht
        rw [h, Bool.false_and]
      · rfl
    rw [e] at k
    exact k
  rw [Bool.not_eq_false] at ht
  rw [if_pos ht]
  obtain ⟨ds, rfl⟩ : ∃ ds, v = .tuple ds := by
    cases v with
    | tuple ds => exact ⟨ds, rfl⟩
    | _ => cases ht
  have h : decide (0 ≤ (ds.length : Int) ∧ (ds.length : Int) ≤ 20) = true := ht
  rw [okGs_eq, h, Bool.true_and] at k
  refine compN (ds := ds) (g := fun d => .bool (okG L d)) (fun u => [some (.val (wg L f l m)), some (.val (.tuple ds)), some (.val u)]) ?_ (by have := hl ds rfl; omega) rfl (by simp [Tgt.slots]) rfl rfl (fun _ _ => ⟨rfl, rfl⟩) (fun u _ => ?_) ?_
  · walk_at "ev"
  · walk_at "ev"
    refine hG _ _ _ _ _ _ _ ?_
    walk_at "ev"
    exact .inl trivial
  walk_at "ev"
  rw [all_bool]
  exact k

theorem okGs_yes {L : Int} {gs : List (Int × Int)} (h : GoodsOk L gs) (hl : gs.length ≤ 20) : okGs L (.tuple (gs.map gp)) = true := by
  rw [okGs_eq, Bool.and_eq_true]
  refine ⟨by simp; omega, ?_⟩
  rw [List.all_eq_true]
  intro d hd
  obtain ⟨p, hp, rfl⟩ := List.mem_map.mp hd
  obtain ⟨h1, h2, h3, h4⟩ := h p hp
  show (wh (.int p.1) 0 L && wh (.int p.2) 1 1000) = true
  simp [wh, h1, h2, h3, h4]
def NgOk (F : Fn) : Prop := ∀ (L f l m : Int) (gs : List (Int × Int)) (c : Cel) (P : SV → Cel → Prop), Wg L f l m → GoodsOk L gs → gs.length ≤ 20 → (∀ v, P v c) → WpF (F [.val (wg L f l m), .val (.tuple (gs.map gp))] c) P
def NwOk (F : Fn) : Prop := ∀ (L f l m : Int) (c : Cel) (P : SV → Cel → Prop), Wg L f l m → (∀ v, P v c) → WpF (F [.val (wg L f l m)] c) P
theorem need_wagon_ok {F : Fn} (hF : FwG F) : NwOk (b_need_wagon F) := by
  intro L f l m c P h k
  unfold b_need_wagon
  walk_at "ev"
  refine hF _ _ _ ?_
  rw [okW_wg h]
  walk_at "ev"
  exact k _
theorem need_goods_ok {F G : Fn} (hF : NwOk F) (hG : FgsOk G) : NgOk (b_need_goods F G) := by
  intro L f l m gs c P h hg hl k
  unfold b_need_goods
  walk_at "ev"
  refine hF _ _ _ _ _ _ h fun _ => hG _ _ _ _ _ _ _ (fun _ e => by cases e; simp; omega) ?_
  rw [okGs_yes hg hl]
  walk_at "ev"
  exact k _
def lev1 (l : Int) (gs : List (Int × Int)) : Int := (gs.map fun p => p.2 * (l - p.1)).sum
def lev2 (f : Int) (gs : List (Int × Int)) : Int := (gs.map fun p => p.2 * (p.1 - f)).sum
/-- goods of any whole numbers that are not great -/
def GoodsW (gs : List (Int × Int)) : Prop := ∀ p ∈ gs, -2000 ≤ p.2 ∧ p.2 ≤ 2000
def LevOk (F : Fn) : Prop := ∀ (L f l m : Int) (gs : List (Int × Int)) (c : Cel) (P : SV → Cel → Prop), GoodsW gs → gs.length ≤ 1000 → P (.val (.tuple [.int (lev1 l gs), .int (lev2 f gs)])) c → WpF (F [.val (wg L f l m), .val (.tuple (gs.map gp))] c) P
theorem lev_sum {gs : List (Int × Int)} {g : Int × Int → Int} : (gs.map gp).map (fun d => match d with | .tuple [.int a, .int b] => PyData.int (g (a, b)) | _ => .none) = (gs.map g).map PyData.int := by
  rw [List.map_map, List.map_map]
  rfl
theorem levers_in_ok : LevOk b_levers_in := by
  intro L f l m gs c P hg hl k
  unfold b_levers_in
  walk_at "ev"
  refine compN (ds := gs.map gp) (g := fun d => match d with | .tuple [.int a, .int b] => PyData.int (b * (l - a)) | _ => .none) (fun d => match d with | .tuple [x, y] => [some (.val (wg L f l m)), some (.val (.tuple (gs.map gp))), some (.val (.int f)), some (.val (.int l)), none, some (.val x), some (.val y)] | _ => []) ?_ (by simp; omega) rfl (by simp [Tgt.slots, slotsL]) rfl rfl ?_ ?_ ?_
  · walk_at "ev"
  · intro d hd
    obtain ⟨p, hp, rfl⟩ := List.mem_map.mp hd
    exact ⟨rfl, rfl⟩
  · intro d hd
    obtain ⟨p, hp, rfl⟩ := List.mem_map.mp hd
    have := hg p hp
    walk_at "ev"
    walk_at "sd"
    exact .inl trivial
  walk_at "ev"
  rw [lev_sum (g := fun p => p.2 * (l - p.1)), wb_sum]
  walk_at "ev"
  refine compN (ds := gs.map gp) (g := fun d => match d with | .tuple [.int a, .int b] => PyData.int (b * (a - f)) | _ => .none) (fun d => match d with | .tuple [x, y] => [some (.val (wg L f l m)), some (.val (.tuple (gs.map gp))), some (.val (.int f)), some (.val (.int l)), some (.val (.int (lev1 l gs))), some (.val x), some (.val y)] | _ => []) ?_ (by simp; omega) rfl (by simp [Tgt.slots, slotsL]) rfl rfl ?_ ?_ ?_
  · walk_at "ev"
  · intro d hd
    obtain ⟨p, hp, rfl⟩ := List.mem_map.mp hd
    exact ⟨rfl, rfl⟩
  · intro d hd
    obtain ⟨p, hp, rfl⟩ := List.mem_map.mp hd
    have := hg p hp
    walk_at "ev"
    walk_at "sd"
    exact .inl trivial
  walk_at "ev"
  rw [lev_sum (g := fun p => p.2 * (p.1 - f)), wb_sum]
  walk_at "ev"
  exact k
theorem lev_nil {x : Int} : lev1 x [] = 0 ∧ lev2 x [] = 0 := ⟨rfl, rfl⟩
theorem lev_snoc {x : Int} {gs : List (Int × Int)} {p : Int × Int} : lev1 x (gs ++ [p]) = lev1 x gs + p.2 * (x - p.1) ∧ lev2 x (gs ++ [p]) = lev2 x gs + p.2 * (p.1 - x) := by
  simp [lev1, lev2]
theorem lev_cons {x : Int} {gs : List (Int × Int)} {p : Int × Int} : lev1 x (p :: gs) = p.2 * (x - p.1) + lev1 x gs ∧ lev2 x (p :: gs) = p.2 * (p.1 - x) + lev2 x gs := by
  simp [lev1, lev2]
theorem law_levers_ok : LevOk b__law_levers := by
  intro L f l m gs c P hg hl k
  unfold b__law_levers
  walk_at "ev"
  rw [wp_for]
  walk_at "ev"
  refine wp_forH (fun rest e c' => ∃ (qs : List (Int × Int)) (x y : Int) (o4 o5 : Option SV), rest = qs.map gp ∧ GoodsW qs ∧ c' = c ∧ e = [some (.val (wg L f l m)), some (.val (.tuple (gs.map gp))), some (.val (.int x)), some (.val (.int y)), o4, o5] ∧ x + lev1 l qs = lev1 l gs ∧ y + lev2 f qs = lev2 f gs) ⟨gs, 0, 0, none, none, rfl, hg, rfl, rfl, by omega, by omega⟩ ?_ ?_
  · rintro d rest e c' ⟨qs, x, y, o4, o5, hq, hw, rfl, rfl, h1, h2⟩ K hn hr
    cases qs with
    | nil => cases hq
    | cons p qs =>
      rw [List.map_cons, List.cons.injEq] at hq
      obtain ⟨rfl, rfl⟩ := hq
      rw [lev_cons.1] at h1
      rw [lev_cons.2] at h2
      have hp := hw p (by simp)
      refine ⟨_, rfl, ?_⟩
      walk_at "ev"
      walk_at "sd"
      exact hn _ _ ⟨qs, _, _, _, _, rfl, fun u hu => hw u (by simp [hu]), rfl, rfl, by omega, by omega⟩
  · rintro e c' ⟨qs, x, y, o4, o5, hq, hw, rfl, rfl, h1, h2⟩
    cases qs with
    | cons p qs => cases hq
    | nil =>
      rw [lev_nil.1] at h1
      rw [lev_nil.2] at h2
      walk_at "ev"
      rw [show x = lev1 l gs by omega, show y = lev2 f gs by omega]
      exact k
def hold (f l m : Int) (gs : List (Int × Int)) : Bool := decide (0 ≤ lev1 l gs ∧ lev1 l gs ≤ m * (l - f)) && decide (0 ≤ lev2 f gs ∧ lev2 f gs ≤ m * (l - f))
def HoldOk (F : Fn) : Prop := ∀ (L f l m : Int) (gs : List (Int × Int)) (c : Cel) (P : SV → Cel → Prop), Wg L f l m → GoodsW gs → gs.length ≤ 1000 → P (.val (.bool (hold f l m gs))) c → WpF (F [.val (wg L f l m), .val (.tuple (gs.map gp))] c) P
theorem chainE {a b x : Int} : (if a ≤ x then decide (x ≤ b) else false) = decide (a ≤ x ∧ x ≤ b) := by
  by_cases h : a ≤ x <;> simp [h]
theorem does_hold_ok {F : Fn} (hF : LevOk F) : HoldOk (b_does_hold F) := by
  intro L f l m gs c P h hg hl k
  have := h.m0; have := h.m1
  unfold b_does_hold
  walk_at "ev"
  refine compN (ds := [.int (lev1 l gs), .int (lev2 f gs)]) (g := fun d => match d with | .int x => .bool (decide (0 ≤ x ∧ x ≤ m * (l - f))) | _ => .none) (fun d => [some (.val (wg L f l m)), some (.val (.tuple (gs.map gp))), some (.val (.int (l - f))), some (.val d)]) ?_ (by simp) rfl (by simp [Tgt.slots]) rfl rfl (fun _ _ => ⟨rfl, rfl⟩) ?_ ?_
  · walk_at "ev"
    refine hF _ _ _ _ _ _ _ hg hl ?_
    walk_at "ev"
  · intro d hd
    obtain ⟨x, rfl⟩ : ∃ x : Int, d = .int x := by
      simp at hd; rcases hd with rfl | rfl <;> exact ⟨_, rfl⟩
    walk_at "ev"
    rw [ixt3]
    walk_at "ev"
    by_cases h0 : 0 ≤ x
    · rw [if_pos h0]
      walk_at "sd"
      simp [h0]
    · rw [if_neg h0]
      simp [h0]
  walk_at "ev"
  rw [show ∀ a b : Bool, WpB fAll [.list [.bool a, .bool b]] = fun P => P (.val (.bool (a && (b && true)))) from fun _ _ => rfl]
  walk_at "ev"
  rw [Bool.and_true]
  exact k
theorem law_holds_ok {F : Fn} (hF : LevOk F) : HoldOk (b__law_holds F) := by
  intro L f l m gs c P h hg hl k
  have := h.m0; have := h.m1
  unfold b__law_holds
  rw [wpf_runB]
  refine wp_seqK fun K hn hr => ?_
  walk_at "ev"
  refine hF _ _ _ _ _ _ _ hg hl ?_
  walk_at "ev"
  refine hn _ _ ?_
  clear hn hr K
  refine wp_seqK fun K hn hr => ?_
  walk_at "ev"
  rw [ixt3]
  walk_at "ev"
  walk_at "sd"
  refine hn _ _ ?_
  clear hn hr K
  walk_at "ev"
  unfold hold at k
  generalize lev1 l gs = x at *
  generalize lev2 f gs = y at *
  generalize m * (l - f) = M at *
  by_cases h1 : 0 ≤ x
  · rw [if_pos h1]
    by_cases h2 : x ≤ M
    · simp only [h1, h2, and_self, decide_true, Bool.true_and] at k ⊢
      by_cases h3 : 0 ≤ y
      · simp only [h3, true_and, if_true] at k ⊢
        exact k
      · simp only [h3, false_and, decide_false, if_false] at k ⊢
        exact k
    · simp only [h1, h2, and_false, decide_false, Bool.false_and] at k ⊢
      exact k
  · simp only [h1, false_and, decide_false, Bool.false_and, if_false] at k ⊢
    exact k

theorem goods_w {L : Int} {gs : List (Int × Int)} (h : GoodsOk L gs) {z w : Int} (h0 : 0 ≤ w) (h1 : w ≤ 1000) : GoodsW (gs ++ [(z, w)]) := by
  intro p hp
  rcases List.mem_append.mp hp with hp | hp
  · have := h p hp; omega
  · simp at hp; subst hp; simp; omega
theorem gp_snoc {gs : List (Int × Int)} {z w : Int} : gs.map gp ++ [.tuple [.int z, .int w]] = (gs ++ [(z, w)]).map gp := by simp
def LwgOk (F : Fn) : Prop := ∀ (c : Cel) (P : SV → Cel → Prop), CI c → (∀ L f l m c', CI c' → Wg L f l m → P (.val (wg L f l m)) c') → WpF (F [.cell] c) P
theorem law_wagon_ok {F G : Fn} (hF : RollOk F) (hG : SomeOk G) : LwgOk (b__law_wagon F G) := by
  intro c P hc k
  unfold b__law_wagon
  rw [wpf_runB]
  refine wp_seqK fun K hn hr => ?_
  walk_at "ev"
  refine hG _ _ _ hc (by simp) (by simp) fun d hd c hc => ?_
  obtain ⟨q, rfl, q0, q1⟩ : ∃ k : Int, d = .int k ∧ 1 ≤ k ∧ k ≤ 1000 := by
    simp at hd; rcases hd with rfl | rfl | rfl <;> exact ⟨_, rfl, by decide, by decide⟩
  walk_at "ev"
  refine hF.use hc (by omega) (by omega) fun r c hc r0 r1 => ?_
  walk_at "ev"
  refine hn _ _ ?_
  clear hn hr K
  generalize hL : 1 + r = L
  refine wp_seqK fun K hn hr => ?_
  walk_at "ev"
  refine hF.use hc (by omega) (by omega) fun f c hc f0 f1 => ?_
  walk_at "ev"
  refine hn _ _ ?_
  clear hn hr K
  refine wp_seqK fun K hn hr => ?_
  walk_at "ev"
  refine hF.use hc (by omega) (by omega) fun s c hc s0 s1 => ?_
  walk_at "ev"
  refine hn _ _ ?_
  clear hn hr K
  walk_at "ev"
  rw [show WpB fPow [.int 10, .int 6] = fun P => P (.val (.int 1000000)) from by funext P; unfold WpB fPow; simp]
  walk_at "ev"
  refine hG _ _ _ hc (by simp) (by simp) fun d hd c hc => ?_
  obtain ⟨t, rfl, t0, t1⟩ : ∃ k : Int, d = .int k ∧ 1 ≤ k ∧ k ≤ 1000001 := by
    simp at hd; rcases hd with rfl | rfl | rfl <;> exact ⟨_, rfl, by decide, by decide⟩
  walk_at "ev"
  refine hF.use hc (by omega) (by omega) fun m c hc m0 m1 => ?_
  walk_at "ev"
  walk_at "sd"
  exact k _ _ _ _ _ hc ⟨by omega, by omega, by omega, by omega, by omega, by omega, by omega⟩
def LgsOk (F : Fn) : Prop := ∀ (c : Cel) (L f l m many heavy : Int) (P : SV → Cel → Prop), CI c → Wg L f l m → 0 ≤ many → many ≤ 20 → 1 ≤ heavy → heavy ≤ 1000 → (∀ gs c', CI c' → GoodsOk L gs → (gs.length : Int) ≤ many → P (.val (.tuple (gs.map gp))) c') → WpF (F [.cell, .val (wg L f l m), .val (.int many), .val (.int heavy)] c) P
theorem law_goods_ok {F G : Fn} (hF : RollOk F) (hG : SomeOk G) : LgsOk (b__law_goods F G) := by
  intro c L f l m many heavy P hc h n0 n1 h0 h1 k
  obtain ⟨L0, L1, f0, fl, l1, m0, m1⟩ := h
  unfold b__law_goods
  walk_at "ev"
  refine ⟨by omega, ?_⟩
  rw [wp_for, wp_rng1]
  walk_at "ev"
  refine hF.use hc (by omega) (by omega) fun r c hc r0 r1 => ?_
  walk_at "ev"
  refine ⟨okR_of (by omega) (by omega), ?_⟩
  refine wp_forH (fun rest e c => ∃ (gs : List (Int × Int)) (o5 o6 : Option SV), CI c ∧ GoodsOk L gs ∧ gs.length + rest.length = r.toNat ∧ e = [some .cell, some (.val (wg L f l m)), some (.val (.int many)), some (.val (.int heavy)), some (.own (.list (gs.map gp))), o5, o6]) ⟨[], none, none, hc, (fun p hp => by cases hp), by rw [rng_len]; simp, rfl⟩ ?_ ?_
  · rintro d rest e c ⟨gs, o5, o6, hc, hg, hl, rfl⟩ K hn hr
    refine ⟨_, rfl, ?_⟩
    refine wp_seqK fun K1 hn1 hr1 => ?_
    walk_at "ev"
    refine hF.use hc (by omega) (by omega) fun x c hc x0 x1 => ?_
    walk_at "ev"
    refine hF.use hc (by omega) (by omega) fun y c hc y0 y1 => ?_
    walk_at "ev"
    refine hG _ _ _ hc (by simp) (by simp) fun d hd c hc => ?_
    obtain ⟨q, rfl, q0, q1⟩ : ∃ k : Int, d = .int k ∧ 0 ≤ k ∧ k ≤ L := by
      simp at hd; rcases hd with rfl | rfl
      · exact ⟨_, rfl, by omega, by omega⟩
      · exact ⟨_, rfl, by omega, by omega⟩
    walk_at "ev"
    refine hn1 _ _ ?_
    clear hn1 hr1 K1
    walk_at "ev"
    refine hF.use hc (by omega) (by omega) fun w c hc w0 w1 => ?_
    walk_at "ev"
    refine ⟨by simp at hl ⊢; omega, hn _ _ ⟨gs ++ [(q, 1 + w)], some (.val d), some (.val (.int q)), hc, ?_, by simp at hl ⊢; omega, by rw [← gp_snoc]⟩⟩
    intro p hp
    rcases List.mem_append.mp hp with hp | hp
    · exact hg p hp
    · simp at hp; subst hp; simp; omega
  · rintro e c ⟨gs, o5, o6, hc, hg, hl, rfl⟩
    walk_at "ev"
    exact k _ _ hc hg (by simp at hl; omega)
/-! ### shares, of any whole number -/
def LowZ (F : Fn) : Prop := ∀ (a b : Int) (c : Cel) (P : SV → Cel → Prop), 0 < b → b < 2 ^ 64 → P (.val (low a b)) c → WpF (F [.val (.int a), .val (.int b)] c) P
def DivZ (F : Fn) : Prop := ∀ (a b : Int) (c : Cel) (P : SV → Cel → Prop), 0 ≤ b → b < 2 ^ 64 → P (.val (.int (Int.gcd a b))) c → WpF (F [.val (.int a), .val (.int b)] c) P
theorem gcd_abs {a b x : Int} (h : x = a ∨ x = -a) : Int.gcd x b = Int.gcd a b := by
  rcases h with rfl | rfl
  · rfl
  · exact Int.neg_gcd
theorem divisor_z : DivZ b_divisor_in := by
  intro a b c P b0 b1 k
  unfold b_divisor_in
  walk_at "ev"
  have hx : 0 ≤ (if a < 0 then -a else a) ∧ ((if a < 0 then -a else a) = a ∨ (if a < 0 then -a else a) = -a) := by split <;> omega
  generalize (if a < 0 then -a else a) = x at hx
  refine wp_while (fun m e c' => ∃ u v : Int, e = [some (.val (.int u)), some (.val (.int v))] ∧ c' = c ∧ 0 ≤ u ∧ 0 ≤ v ∧ Int.gcd u v = Int.gcd a b ∧ m = v.toNat) ?_ _ b.toNat _ c ⟨x, b, rfl, rfl, hx.1, b0, gcd_abs hx.2, rfl⟩ (by omega)
  rintro m e c' ⟨u, v, rfl, rfl, u0, v0, hg, rfl⟩
  walk_at "ev"
  split
  · rename_i hy
    have h1 := Int.emod_lt_of_pos u hy
    have h2 := Int.emod_nonneg u (show v ≠ 0 by omega)
    exact ⟨hy, (u % v).toNat, by omega, v, u % v, rfl, by omega, h2, by rw [gcd_step u0 hy, hg], rfl⟩
  · rename_i hy
    rw [← hg, gcd_end u0 v0 hy] at k
    exact k

theorem low_g {a b : Int} (h : 0 < b) : 0 < (Int.gcd a b : Int) ∧ (Int.gcd a b : Int) ≤ b := ⟨gcd_pos h, Int.le_of_dvd h (Int.gcd_dvd_right a b)⟩
theorem lowered_z {F : Fn} (hF : DivZ F) : LowZ (b_lowered F) := by
  intro a b c P b0 b1 k
  unfold b_lowered
  walk_at "ev"
  have := low_g (a := a) b0
  refine hF _ _ _ _ (by omega) b1 ?_
  walk_at "ev"
  exact ⟨⟨by omega, by omega⟩, ⟨by omega, by omega⟩, k⟩
theorem law_lowered_z : LowZ b__law_lowered := by
  intro a b c P b0 b1 k
  unfold b__law_lowered
  walk_at "ev"
  have hx : 0 ≤ (if -a > a then -a else a) ∧ ((if -a > a then -a else a) = a ∨ (if -a > a then -a else a) = -a) := by split <;> omega
  generalize (if -a > a then -a else a) = x at hx
  have hg0 := low_g (a := a) b0
  refine wp_while (fun m e c' => ∃ u v : Int, e = [some (.val (.int a)), some (.val (.int b)), some (.val (.int u)), some (.val (.int v))] ∧ c' = c ∧ 0 ≤ u ∧ 0 ≤ v ∧ Int.gcd u v = Int.gcd a b ∧ m = v.toNat) ?_ _ b.toNat _ c ⟨x, b, rfl, rfl, hx.1, by omega, gcd_abs hx.2, rfl⟩ (by omega)
  rintro m e c' ⟨u, v, rfl, rfl, u0, v0, hg, rfl⟩
  walk_at "ev"
  split
  · rename_i hy
    have h1 := Int.emod_lt_of_pos u hy
    have h2 := Int.emod_nonneg u (show v ≠ 0 by omega)
    exact ⟨hy, (u % v).toNat, by omega, v, u % v, rfl, by omega, h2, by rw [gcd_step u0 hy, hg], rfl⟩
  · rename_i hy
    have e2 := gcd_end u0 v0 hy
    rw [hg] at e2
    rw [← e2]
    exact ⟨⟨by omega, by omega⟩, ⟨by omega, by omega⟩, k⟩
def AxOk (F : Fn) : Prop := ∀ (L f l m : Int) (gs : List (Int × Int)) (c : Cel) (P : SV → Cel → Prop), Wg L f l m → GoodsOk L gs → gs.length ≤ 20 → P (.val (.tuple [low (lev1 l gs) (l - f), low (lev2 f gs) (l - f)])) c → WpF (F [.val (wg L f l m), .val (.tuple (gs.map gp))] c) P
theorem goods_w' {L : Int} {gs : List (Int × Int)} (h : GoodsOk L gs) : GoodsW gs := fun p hp => by have := h p hp; omega
theorem axle_loads_ok {F G H : Fn} (hF : NgOk F) (hG : LevOk G) (hH : LowZ H) : AxOk (b_axle_loads F G H) := by
  intro L f l m gs c P h hg hl k
  have := h.fl; have := h.l1; have := h.L1; have := h.f0
  unfold b_axle_loads
  walk_at "ev"
  refine hF _ _ _ _ _ _ _ h hg hl fun _ => hG _ _ _ _ _ _ _ (goods_w' hg) (by omega) ?_
  walk_at "ev"
  refine hH _ _ _ _ (by omega) (by omega) ?_
  unfold low
  walk_at "ev"
  refine hH _ _ _ _ (by omega) (by omega) ?_
  unfold low
  walk_at "ev"
  exact k
theorem compIW {i : Nat} {e w0 : Env} {c : Cel} {it : M (List D)} {ns : List Int} {ifs : M Bool} {elt : M SV} {f : Int → Bool} {g : Int → D} {P : SV → Env → Cel → Prop}
    (hit : Wp (it e c) fun ds' e' c' => ds' = ns.map .int ∧ e' = e ∧ c' = c) (hl : ns.length ≤ 16777216) (hno : noOwn e [i] = true) (hw : wipeE e [i] = w0) (hre : restE e w0 [i] = e)
    (ht : ∀ z, wipeE (w0.set i (some (.val (.int z)))) [i] = w0) (hif : ∀ z ∈ ns, Wp (ifs (w0.set i (some (.val (.int z)))) c) fun b e' c' => b = f z ∧ e' = w0.set i (some (.val (.int z))) ∧ c' = c) (hel : ∀ z ∈ ns, f z = true → Wp (elt (w0.set i (some (.val (.int z)))) c) fun sv e' c' => (sv = .val (g z) ∨ sv = .own (g z)) ∧ e' = w0.set i (some (.val (.int z))) ∧ c' = c)
    (k : P (.own (.list ((ns.filter f).map g))) e c) : Wp (mComp [i] it (.nm i) ifs elt e c) P := by
  rw [wp_compE]
  refine hit.imp ?_
  rintro ds' e' c' ⟨rfl, rfl, rfl⟩
  refine ⟨⟨by simpa using hl, hno, by simp [Tgt.slots]⟩, ?_⟩
  refine (wp_compT (w0 := w0) (fun rest acc c => c = c' ∧ ∃ r : List Int, rest = r.map .int ∧ acc ++ (r.filter f).map g = (ns.filter f).map g ∧ ∀ z ∈ r, z ∈ ns) ?_ _ [] _ _ hw ⟨rfl, ns, rfl, rfl, fun z h => h⟩).imp ?_
  · rintro d rest acc c ⟨rfl, r, h0, h1, h2⟩
    cases r with
    | nil => cases h0
    | cons z r =>
      rw [List.map_cons, List.cons.injEq] at h0
      obtain ⟨rfl, rfl⟩ := h0
      refine ⟨_, rfl, (hif z (h2 z (by simp))).imp ?_⟩
      rintro b e1 c1 ⟨rfl, rfl, rfl⟩
      rw [List.filter_cons] at h1
      cases hp : f z with
      | true =>
        rw [if_pos rfl]
        refine (hel z (h2 z (by simp)) hp).imp ?_
        rintro sv e1 c1 ⟨hsv, rfl, rfl⟩
        rw [if_pos hp] at h1
        have rr : wipeE (w0.set i (some (.val (.int z)))) [i] = w0 ∧ c1 = c1 ∧ ∃ r' : List Int, r.map PyData.int = r'.map .int ∧ (acc ++ [g z]) ++ (r'.filter f).map g = (ns.filter f).map g ∧ ∀ x ∈ r', x ∈ ns := ⟨ht z, rfl, r, rfl, by simpa using h1, fun x hx => h2 x (by simp [hx])⟩
        rcases hsv with rfl | rfl
        · rw [wpa_val]; exact ⟨_, rfl, rr⟩
        · rw [wpa_own]; exact ⟨_, rfl, rr⟩
      | false =>
        rw [if_neg (by simp)]
        rw [if_neg (by simp [hp])] at h1
        exact ⟨ht z, rfl, r, rfl, h1, fun x hx => h2 x (by simp [hx])⟩
  · rintro r e2 c2 ⟨rfl, rfl, r', h0, h, _⟩
    have e : r' = [] := by cases r' with | nil => rfl | cons _ _ => cases h0
    subst e
    simp at h
    rw [h, hre]
    exact k
theorem wp_testH {t : M Bool} {e : Env} {c : Cel} (b : Bool) {A B : Env → Cel → Prop} (h : Wp (t e c) fun b' e' c' => b' = b ∧ e' = e ∧ c' = c) (k : if b = true then A e c else B e c) : Wp (t e c) fun b e' c' => if b = true then A e' c' else B e' c' := by
  refine h.imp ?_
  rintro b' e' c' ⟨rfl, rfl, rfl⟩
  exact k
theorem pl_ints {q : List Int} {n : Nat} : ∀ d ∈ q.map PyData.int, Pl n d := fun d hd => by obtain ⟨x, _, rfl⟩ := List.mem_map.mp hd; exact pl_int
def NiOk (l h : Int) (F : Fn) : Prop := ∀ (a : Int) (c : Cel) (P : SV → Cel → Prop), l ≤ a → a ≤ h → (∀ v, P v c) → WpF (F [.val (.int a)] c) P
/-! ### min of rows -/
theorem ints_map : ∀ q : List Int, intsOf (q.map PyData.int) = some q
  | [] => rfl
  | a :: r => by rw [List.map_cons, intsOf, ints_map r]
theorem tups_map : ∀ nss : List (List Int), tupsOf (nss.map fun ns => PyData.tuple (ns.map PyData.int)) = some nss
  | [] => rfl
  | n :: r => by rw [List.map_cons, tupsOf, tups_map r, tupOf, ints_map n]
theorem wb_minT {t : List Int} {ts : List (List Int)} {P : SV → Prop} : WpB fMin [.list ((t :: ts).map fun ns => PyData.tuple (ns.map PyData.int))] P = P (.val (.tuple ((lexMin t ts).map PyData.int))) := by
  have e := tups_map (t :: ts)
  have e2 : intsOf ((t :: ts).map fun ns => PyData.tuple (ns.map PyData.int)) = none := rfl
  unfold WpB fMin
  simp only [e2, e]
/-- the first of the best -/
def bst (S : Int → Int) (lo : Int) : Nat → Int
  | 0 => lo
  | n + 1 => if S (bst S lo n) < S (lo + n + 1) then lo + n + 1 else bst S lo n
theorem bst_in {S : Int → Int} {lo : Int} : ∀ {n : Nat}, lo ≤ bst S lo n ∧ bst S lo n ≤ lo + n
  | 0 => ⟨Int.le_refl _, by simp [bst]⟩
  | n + 1 => by
    obtain ⟨h1, h2⟩ := bst_in (S := S) (lo := lo) (n := n)
    unfold bst
    split
    · omega
    · omega
theorem lexMin_snoc (t : List Int) (ts : List (List Int)) (x : List Int) : lexMin t (ts ++ [x]) = if HT.lexLt x (lexMin t ts) then x else lexMin t ts := by
  unfold lexMin
  rw [List.foldl_append, List.foldl_cons, List.foldl_nil]
theorem lexLt_row {S : Int → Int} {tl : Int → List Int} {x b : Int} (h : b < x) : HT.lexLt (-S x :: x :: tl x) (-S b :: b :: tl b) = decide (S b < S x) := by
  rw [HT.lexLt_cons, HT.lexLt_cons]
  by_cases h1 : S b < S x
  · rw [if_neg (by omega)]; simp [h1]
  · by_cases h2 : -S x = -S b
    · rw [if_pos h2, if_neg (by omega)]; simp; omega
    · rw [if_neg h2]; simp [h1]
theorem lexMin_bst (S : Int → Int) (tl : Int → List Int) (lo : Int) : ∀ n : Nat, lexMin (-S lo :: lo :: tl lo) ((rngI (lo + 1) n).map fun i => -S i :: i :: tl i) = -S (bst S lo n) :: bst S lo n :: tl (bst S lo n)
  | 0 => rfl
  | n + 1 => by
    obtain ⟨h1, h2⟩ := bst_in (S := S) (lo := lo) (n := n)
    rw [rngI_snoc, List.map_append, List.map_cons, List.map_nil, lexMin_snoc, lexMin_bst S tl lo n, lexLt_row (by omega)]
    rw [show lo + 1 + (n : Int) = lo + n + 1 by omega]
    show _ = -S (if S (bst S lo n) < S (lo + n + 1) then lo + n + 1 else bst S lo n) :: (if S (bst S lo n) < S (lo + n + 1) then lo + n + 1 else bst S lo n) :: tl (if S (bst S lo n) < S (lo + n + 1) then lo + n + 1 else bst S lo n)
    by_cases h : S (bst S lo n) < S (lo + n + 1)
    · simp only [h, decide_true, if_true]
    · simp only [h, decide_false, if_false, Bool.false_eq_true]
theorem wb_minB {S : Int → Int} {lo : Int} {m : Nat} {P : SV → Prop} (hm : 0 < m) : WpB fMin [.list ((rngI lo m).map fun i => PyData.tuple [.int (-S i), .int i])] P = P (.val (.tuple [.int (-S (bst S lo (m - 1))), .int (bst S lo (m - 1))])) := by
  obtain ⟨n, rfl⟩ : ∃ n, m = n + 1 := ⟨m - 1, by omega⟩
  have e : ((rngI lo (n + 1)).map fun i => PyData.tuple [.int (-S i), .int i]) = ((-S lo :: lo :: []) :: (rngI (lo + 1) n).map fun i => -S i :: i :: []).map fun ns => PyData.tuple (ns.map PyData.int) := by
    rw [rngI_cons, List.map_cons, List.map_cons, List.map_map]
    rfl
  rw [e, wb_minT, lexMin_bst S (fun _ => []) lo n]
  rfl
theorem wb_minB3 {S T : Int → Int} {lo : Int} {m : Nat} {P : SV → Prop} (hm : 0 < m) : WpB fMin [.list ((rngI lo m).map fun i => PyData.tuple [.int (-S i), .int i, .int (T i)])] P = P (.val (.tuple [.int (-S (bst S lo (m - 1))), .int (bst S lo (m - 1)), .int (T (bst S lo (m - 1)))])) := by
  obtain ⟨n, rfl⟩ : ∃ n, m = n + 1 := ⟨m - 1, by omega⟩
  have e : ((rngI lo (n + 1)).map fun i => PyData.tuple [.int (-S i), .int i, .int (T i)]) = ((-S lo :: lo :: [T lo]) :: (rngI (lo + 1) n).map fun i => -S i :: i :: [T i]).map fun ns => PyData.tuple (ns.map PyData.int) := by
    rw [rngI_cons, List.map_cons, List.map_cons, List.map_map]
    rfl
  rw [e, wb_minT, lexMin_bst S (fun i => [T i]) lo n]
  rfl
/-- the best so far, as a law tells it -/
def bestD (S : Int → Int) (lo : Int) : Nat → D
  | 0 => .none
  | m + 1 => .tuple [.int (S (bst S lo m)), .int (bst S lo m)]
/-! ### run rules: enumerate, += of a list, tuples compared -/
section
variable {e : Env} {c : Cel}
theorem wp_enum {m : M SV} {P : List D → Env → Cel → Prop} (h : Wp (m e c) fun sv e' c' => ∃ ds, sv = .val (.tuple ds) ∧ P (enumD 0 ds) e' c') : Wp (mEnum m e c) P := by
  unfold mEnum
  rw [wp_bind, wp_args1]
  refine h.imp ?_
  rintro sv e' c' ⟨ds, rfl, z⟩
  rw [wpa_val, wp_args0]
  exact z
theorem wp_augL {j : Nat} {o : Opnd} {P : Fl → Env → Cel → Prop} (h : WpL e[j]? fun _ => Wp (mO o e c) fun p e2 c2 => WpL e2[j]? fun xs => WpSl (rd e2 c2 p) fun d => ∃ ys, d = .list ys ∧ xs.length + ys.length ≤ 16777216 ∧ P .nx (e2.set j (some (.own (.list (xs ++ ys))))) c2) : Wp (mAug j o e c) P := by
  unfold mAug
  unfold WpL at h
  match hj : e[j]?, h with
  | some (some (.own (.list xs))), h =>
    show Wp (mAugL j o e c) P
    unfold mAugL
    rw [wp_bind]
    unfold mHas
    rw [hj]
    show Wp (R.ok () e c) _
    rw [wp_ok, wp_bind]
    refine h.imp fun p e2 c2 z => ?_
    match hj2 : e2[j]?, z with
    | some (some (.own (.list ys))), z =>
      have z : WpSl (rd e2 c2 p) fun d => ∃ zs, d = .list zs ∧ ys.length + zs.length ≤ 16777216 ∧ P .nx (e2.set j (some (.own (.list (ys ++ zs))))) c2 := z
      cases hr : rd e2 c2 p with
      | none => rw [hr] at z; exact z.elim
      | some d =>
        rw [hr] at z
        obtain ⟨zs, rfl, h1, z⟩ := z
        show Wp (if ys.length + zs.length ≤ 16777216 then R.ok .nx (e2.set j (some (.own (.list (ys ++ zs))))) c2 else .bad) P
        rw [if_pos h1]
        exact z
end
theorem wb_ltT {p q : List Int} {P : SV → Prop} : WpB fLt [.tuple (p.map .int), .tuple (q.map .int)] P = P (.val (.bool (HT.lexLt p q))) := by
  unfold WpB fLt
  simp only [ints_of_map]
/-! ### k57: goods moved -/
def pairF (g : Int × Int → Int) : D → D
  | .tuple [.int a, .int b] => .int (g (a, b))
  | _ => .none
theorem pairF_map {g : Int × Int → Int} {gs : List (Int × Int)} : (gs.map gp).map (pairF g) = (gs.map g).map .int := by
  rw [List.map_map, List.map_map]
  rfl
def mv (gs : List (Int × Int)) (k : Nat) (w z : Int) : List (Int × Int) := gs.take k ++ [(z, w)] ++ gs.drop (k + 1)
theorem mv_map {gs : List (Int × Int)} {k : Nat} {w z : Int} : (gs.map gp).take k ++ [.tuple [.int z, .int w]] ++ (gs.map gp).drop (k + 1) = (mv gs k w z).map gp := by
  unfold mv
  rw [List.map_append, List.map_append, List.map_take, List.map_drop]
  rfl
theorem mv_w {L : Int} {gs : List (Int × Int)} {k : Nat} {p : Int × Int} {z : Int} (h : GoodsOk L gs) (hp : gs[k]? = some p) : GoodsW (mv gs k p.2 z) := by
  intro x hx
  have hpm := h p (List.mem_of_getElem? hp)
  unfold mv at hx
  simp only [List.mem_append, List.mem_singleton] at hx
  rcases hx with (hx | rfl) | hx
  · have := h x (List.mem_of_mem_take hx); omega
  · simp; omega
  · have := h x (List.mem_of_mem_drop hx); omega
theorem mv_len {gs : List (Int × Int)} {k : Nat} {w z : Int} (h : gs.length ≤ 20) : (mv gs k w z).length ≤ 1000 := by
  unfold mv
  simp
  omega
def plN (L f l m : Int) (gs : List (Int × Int)) (k : Nat) (w : Int) : List Int := (rngI 0 (L + 1).toNat).filter fun z => hold f l m (mv gs k w z)
theorem plN_len {L f l m w : Int} {gs : List (Int × Int)} {k : Nat} (h : L ≤ 1000) : (plN L f l m gs k w).length ≤ 1001 := by
  have := List.length_filter_le (fun z => hold f l m (mv gs k w z)) (rngI 0 (L + 1).toNat)
  rw [rngI_len] at this
  unfold plN
  omega
def NnOk (F : Fn) : Prop := ∀ (gs : List (Int × Int)) (n : Int) (c : Cel) (P : SV → Cel → Prop), 0 ≤ n → n < gs.length → (∀ v, P v c) → WpF (F [.val (.tuple (gs.map gp)), .val (.int n)] c) P
theorem need_number_ok {F : Fn} (hF : FitsG F) : NnOk (b_need_number F) := by
  intro gs n c P n0 n1 k
  obtain ⟨z, hz⟩ : ∃ z : Int, ((gs.map gp).length : Int) = z := ⟨_, rfl⟩
  have hz' : (gs.length : Int) = z := by rw [← hz, List.length_map]
  unfold b_need_number
  walk_at "ev"
  rw [hz]
  refine hF.yes n0 (by omega) ?_
  walk_at "ev"
  exact k _
def MvOk (F : Fn) : Prop := ∀ (gs : List (Int × Int)) (n z : Int) (p : Int × Int) (c : Cel) (P : SV → Cel → Prop), gs.length ≤ 20 → 0 ≤ n → gs[n.toNat]? = some p → P (.val (.tuple ((mv gs n.toNat p.2 z).map gp))) c → WpF (F [.val (.tuple (gs.map gp)), .val (.int n), .val (.int z)] c) P
theorem moved_to_ok : MvOk b_moved_to := by
  intro gs n z p c P hl n0 hp k
  have hp' : (gs.map gp)[n.toNat]? = some (gp p) := by rw [List.getElem?_map, hp]; rfl
  unfold b_moved_to
  walk_at "ev"
  rw [cut_to n0, wb_ixTI (d := gp p) n0 hp']
  walk_at "ev"
  walk_at "cj"
  rw [wb_addT (by simp; omega)]
  walk_at "ev"
  rw [cut_from (show 0 ≤ n + 1 by omega), wb_addT (by simp; omega), show (n + 1).toNat = n.toNat + 1 by omega, mv_map]
  walk_at "ev"
  exact k
def PoOk (F : Fn) : Prop := ∀ (L f l m n : Int) (gs : List (Int × Int)) (p : Int × Int) (c : Cel) (P : SV → Cel → Prop), Wg L f l m → GoodsOk L gs → gs.length ≤ 20 → 0 ≤ n → gs[n.toNat]? = some p → P (.val (.tuple ((plN L f l m gs n.toNat p.2).map .int))) c → WpF (F [.val (wg L f l m), .val (.tuple (gs.map gp)), .val (.int n)] c) P
theorem places_of_ok {F G H I : Fn} (hF : NgOk F) (hG : NnOk G) (hH : HoldOk H) (hI : MvOk I) : PoOk (b_places_of F G H I) := by
  intro L f l m n gs p c P h hg hl n0 hp k
  have hn : n < gs.length := by have := (List.getElem?_eq_some_iff.mp hp).1; omega
  have := h.L0; have := h.L1
  unfold b_places_of
  rw [wpf_runB]
  refine wp_seqK fun K hn' hr => ?_
  walk_at "ev"
  refine hF _ _ _ _ _ _ _ h hg hl fun _ => hn' _ _ ?_
  clear hn' hr K
  refine wp_seqK fun K hn' hr => ?_
  walk_at "ev"
  refine hG _ _ _ _ n0 hn fun _ => hn' _ _ ?_
  clear hn' hr K
  walk_at "ev"
  refine compI (i := 3) (ns := rngI 0 (L + 1).toNat) (f := fun z => hold f l m (mv gs n.toNat p.2 z)) (g := fun z => .int z) ?_ (by rw [rngI_len]; omega) rfl rfl rfl (fun _ => rfl) ?_ ?_ ?_
  · rw [wp_rng1]
    walk_at "ev"
    exact ⟨okR_of (by omega) (by omega), rngD_I⟩
  · intro z _
    simp only [mIfs]
    walk_at "ev"
    refine hI _ _ _ _ _ _ hl n0 hp ?_
    walk_at "ev"
    refine hH _ _ _ _ _ _ _ h (mv_w hg hp) (mv_len hl) ?_
    walk_at "ev"
  · intro z _ _
    walk_at "ev"
    exact .inl trivial
  walk_at "ev"
  exact k
def abI (x : Int) : Int := if x < 0 then -x else x
def rwN (k : Int) (q z : Int) : List Int := [abI (z - q), k, z]
def rwD (k q : Int) : D → D
  | .int z => .tuple [.int (abI (z - q)), .int k, .int z]
  | _ => .none
def rwT (r : List Int) : D := .tuple (r.map .int)
theorem rwD_map {k q : Int} {zs : List Int} : (zs.map PyData.int).map (rwD k q) = (zs.map (rwN k q)).map rwT := by
  rw [List.map_map, List.map_map]
  rfl
def rws (L f l m : Int) (gs : List (Int × Int)) : Nat → List (List Int)
  | 0 => []
  | k + 1 => rws L f l m gs k ++ (plN L f l m gs k (gs.getD k (0, 0)).2).map (rwN k (gs.getD k (0, 0)).1)
theorem rws_len {L f l m : Int} {gs : List (Int × Int)} (h : L ≤ 1000) : ∀ {k : Nat}, (rws L f l m gs k).length ≤ 1001 * k
  | 0 => Nat.le_refl _
  | k + 1 => by
    unfold rws
    have h1 := rws_len (f := f) (l := l) (m := m) (gs := gs) h (k := k)
    have h2 := plN_len (f := f) (l := l) (m := m) (gs := gs) (k := k) (w := (gs.getD k (0, 0)).2) h
    rw [List.length_append, List.length_map]
    omega
def bst3 : List (List Int) → D
  | [] => .none
  | t :: ts => rwT (lexMin t ts)
theorem getD_of {gs : List (Int × Int)} {k : Nat} {p : Int × Int} (h : gs[k]? = some p) : gs.getD k (0, 0) = p := by
  rw [List.getD_eq_getElem?_getD, h]
  rfl
def LsOk (F : Fn) : Prop := ∀ (L f l m : Int) (gs : List (Int × Int)) (c : Cel) (P : SV → Cel → Prop), Wg L f l m → GoodsOk L gs → gs.length ≤ 20 → P (.val (bst3 (rws L f l m gs gs.length))) c → WpF (F [.val (wg L f l m), .val (.tuple (gs.map gp))] c) P
theorem least_shift_ok {F G H : Fn} (hF : NgOk F) (hG : HoldOk G) (hH : MvOk H) : LsOk (b_least_shift F G H) := by
  intro L f l m gs c P h hg hl k
  have := h.L0; have hL1 := h.L1
  obtain ⟨gl, hgl⟩ : ∃ z : Int, ((gs.map gp).length : Int) = z := ⟨_, rfl⟩
  have hgl' : (gs.length : Int) = gl := by rw [← hgl, List.length_map]
  unfold b_least_shift
  rw [wpf_runB]
  refine wp_seqK fun K hn hr => ?_
  walk_at "ev"
  refine hF _ _ _ _ _ _ _ h hg hl fun _ => hn _ _ ?_
  clear hn hr K
  generalize hgs : PyData.tuple (gs.map gp) = a
  refine wp_seqK fun K hn hr => ?_
  walk_at "ev"
  walk_at "cj"
  refine hn _ _ ?_
  clear hn hr K
  refine wp_seqK fun K hn hr => ?_
  rw [wp_for, wp_rng1]
  subst hgs
  walk_at "ev"
  rw [hgl]
  refine ⟨okR_of (by omega) (by omega), ?_⟩
  rw [rngD_I]
  refine wp_forH (fun rest e c' => c' = c ∧ ∃ (j r : Nat) (z : Int) (o3 o4 : Option SV), (j : Int) = z ∧ j + r = gs.length ∧ rest = (rngI z r).map .int ∧ e = [some (.val (wg L f l m)), some (.val (.tuple (gs.map gp))), some (.own (.list ((rws L f l m gs j).map rwT))), o3, o4, none]) ⟨rfl, 0, gs.length, 0, none, none, rfl, by omega, by rw [show gl.toNat = gs.length by omega], rfl⟩ ?_ ?_
  · rintro d rest e c' ⟨rfl, j, r, z, o3, o4, hz, hjr, hd, rfl⟩ K1 hn1 hr1
    cases r with
    | zero => simp [rngI_nil] at hd
    | succ r =>
      rw [rngI_cons, List.map_cons, List.cons.injEq] at hd
      obtain ⟨rfl, rfl⟩ := hd
      refine ⟨_, rfl, ?_⟩
      obtain ⟨p, hp⟩ : ∃ p, gs[j]? = some p := ⟨_, List.getElem?_eq_getElem (by omega)⟩
      have hj : z.toNat = j := by omega
      have nx := hn1 _ _ ⟨rfl, j + 1, r, z + 1, some (.val (.int z)), some (.val (.list ((plN L f l m gs j p.2).map .int))), by omega, by omega, rfl, rfl⟩
      have e1 : rws L f l m gs (j + 1) = rws L f l m gs j ++ (plN L f l m gs j p.2).map (rwN z p.1) := by
        show rws L f l m gs j ++ (plN L f l m gs j (gs.getD j (0, 0)).2).map (rwN (j : Int) (gs.getD j (0, 0)).1) = _
        rw [getD_of hp, hz]
      rw [e1, List.map_append] at nx
      clear hn1 hr1 e1
      have hrl := rws_len (f := f) (l := l) (m := m) (gs := gs) hL1 (k := j)
      have hpl := plN_len (f := f) (l := l) (m := m) (gs := gs) (k := j) (w := p.2) hL1
      have hp' : (gs.map gp)[z.toNat]? = some (gp p) := by rw [List.getElem?_map, hj, hp]; rfl
      refine wp_seqK fun K2 hn2 hr2 => ?_
      walk_at "ev"
      refine compI (i := 5) (ns := rngI 0 (L + 1).toNat) (f := fun y => hold f l m (mv gs j p.2 y)) (g := fun y => .int y) ?_ (by rw [rngI_len]; omega) rfl rfl rfl (fun _ => rfl) ?_ ?_ ?_
      · rw [wp_rng1]
        walk_at "ev"
        exact ⟨okR_of (by omega) (by omega), rngD_I⟩
      · intro y _
        simp only [mIfs]
        walk_at "ev"
        refine hH _ _ _ _ _ _ hl (by omega) (by rw [hj]; exact hp) ?_
        walk_at "ev"
        refine hG _ _ _ _ _ _ _ h (mv_w hg (by rw [hj]; exact hp)) (mv_len hl) ?_
        rw [hj]
        walk_at "ev"
      · intro y _ _
        walk_at "ev"
        exact .inl trivial
      walk_at "ev"
      refine hn2 _ _ ?_
      clear hn2 hr2 K2
      have epl : (rngI 0 (L + 1).toNat).filter (fun y => hold f l m (mv gs j p.2 y)) = plN L f l m gs j p.2 := rfl
      rw [epl]
      generalize plN L f l m gs j p.2 = zs at *
      refine wp_augL ?_
      walk_at "ev"
      refine compN0 (ds := zs.map .int) (g := rwD z p.1) [some (.val (wg L f l m)), some (.val (.tuple (gs.map gp))), some (.own (.list ((rws L f l m gs j).map rwT))), some (.val (.int z)), some (.val (.list (zs.map .int))), none] (fun u => [some (.val (wg L f l m)), some (.val (.tuple (gs.map gp))), some (.own (.list ((rws L f l m gs j).map rwT))), some (.val (.int z)), some (.val (.list (zs.map .int))), some (.val u)]) ?_ (by simp; omega) rfl (by simp [Tgt.slots]) rfl rfl (fun _ _ => ⟨rfl, rfl⟩) ?_ ?_
      · walk_at "ev"
      · intro u hu
        obtain ⟨y, _, rfl⟩ := List.mem_map.mp hu
        walk_at "ev"
        rw [wb_ixTI (d := gp p) (by omega) hp']
        walk_at "ev"
        walk_at "cj"
        exact .inl rfl
      rw [rwD_map]
      walk_at "ev"
      refine ⟨_, rfl, by simp; omega, ?_⟩
      exact nx
  · rintro e c' ⟨rfl, j, r, z, o3, o4, hz, hjr, hd, rfl⟩
    have hr0 : r = 0 := by
      cases r with
      | zero => rfl
      | succ r => rw [rngI_cons] at hd; simp at hd
    subst hr0
    have hj : j = gs.length := by omega
    subst hj
    refine hn _ _ ?_
    clear hn hr K
    have hpl : ∀ u ∈ (rws L f l m gs gs.length).map rwT, Pl 2 u := fun u hu => by
      obtain ⟨r, _, rfl⟩ := List.mem_map.mp hu
      exact pl_tup (n := 1) pl_ints
    generalize rws L f l m gs gs.length = R at *
    walk_at "ev"
    rw [wb_neN (n := 2) hpl (by omega)]
    cases R with
    | nil =>
      simp only [List.map_nil, List.isEmpty_nil]
      walk_at "ev"
      walk_at "cj"
      exact k
    | cons t ts =>
      have e2 : ((t :: ts).map rwT).isEmpty = false := rfl
      rw [e2]
      have e3 := wb_minT (t := t) (ts := ts) (P := fun v => P v c')
      have e4 : (t :: ts).map (fun ns => PyData.tuple (ns.map PyData.int)) = (t :: ts).map rwT := rfl
      rw [e4] at e3
      generalize (t :: ts).map rwT = RR at *
      walk_at "ev"
      walk_at "cj"
      rw [e3]
      exact k
/-! ### even places -/
def wo (gs : List (Int × Int)) (k : Nat) : List (Int × Int) := gs.take k ++ gs.drop (k + 1)
theorem wo_map {gs : List (Int × Int)} {k : Nat} : (gs.map gp).take k ++ (gs.map gp).drop (k + 1) = (wo gs k).map gp := by
  unfold wo
  rw [List.map_append, List.map_take, List.map_drop]
theorem wo_in {gs : List (Int × Int)} {k : Nat} {p : Int × Int} (h : p ∈ wo gs k) : p ∈ gs := by
  unfold wo at h
  rcases List.mem_append.mp h with h | h
  · exact List.mem_of_mem_take h
  · exact List.mem_of_mem_drop h
theorem wo_len {gs : List (Int × Int)} {k : Nat} : (wo gs k).length ≤ gs.length + gs.length := by
  unfold wo
  simp
  omega
def eS (f l : Int) (gs : List (Int × Int)) (k : Nat) : Int := (gs.map fun q => q.2 * (f + l)).sum - 2 * ((wo gs k).map fun q => q.1 * q.2).sum
def EpOk (F : Fn) : Prop := ∀ (L f l m n : Int) (gs : List (Int × Int)) (p : Int × Int) (c : Cel) (P : SV → Cel → Prop), Wg L f l m → GoodsOk L gs → gs.length ≤ 20 → 0 ≤ n → gs[n.toNat]? = some p → P (.val (low (eS f l gs n.toNat) (2 * p.2))) c → WpF (F [.val (wg L f l m), .val (.tuple (gs.map gp)), .val (.int n)] c) P
theorem even_places_ok {F G H : Fn} (hF : NgOk F) (hG : NnOk G) (hH : LowZ H) : EpOk (b_even_places F G H) := by
  intro L f l m n gs p c P h hg hl n0 hp k
  have hn : n < gs.length := by have := (List.getElem?_eq_some_iff.mp hp).1; omega
  have hp' : (gs.map gp)[n.toNat]? = some (gp p) := by rw [List.getElem?_map, hp]; rfl
  have hpm := hg p (List.mem_of_getElem? hp)
  have h1 := h.L0; have h2 := h.L1; have h3 := h.f0; have h4 := h.fl; have h5 := h.l1
  have hwl := wo_len (gs := gs) (k := n.toNat)
  have hwi : ∀ q ∈ wo gs n.toNat, q ∈ gs := fun q => wo_in
  unfold b_even_places
  rw [wpf_runB]
  refine wp_seqK fun K hn' hr => ?_
  walk_at "ev"
  refine hF _ _ _ _ _ _ _ h hg hl fun _ => hn' _ _ ?_
  clear hn' hr K
  refine wp_seqK fun K hn' hr => ?_
  walk_at "ev"
  refine hG _ _ _ _ n0 hn fun _ => hn' _ _ ?_
  clear hn' hr K
  refine wp_seqK fun K hn' hr => ?_
  walk_at "ev"
  rw [cut_to n0, cut_from (show 0 ≤ n + 1 by omega), wb_addT (by simp; omega), show (n + 1).toNat = n.toNat + 1 by omega, wo_map]
  walk_at "ev"
  refine hn' _ _ ?_
  clear hn' hr K
  refine wp_seqK fun K hn' hr => ?_
  walk_at "ev"
  rw [wb_ixTI (d := gp p) n0 hp']
  walk_at "ev"
  refine hn' _ _ ?_
  clear hn' hr K
  refine wp_seqK fun K hn' hr => ?_
  walk_at "ev"
  refine compN (ds := gs.map gp) (g := pairF fun q => q.2 * (f + l)) (fun d => match d with | .tuple [x, y] => [some (.val (wg L f l m)), some (.val (.tuple (gs.map gp))), some (.val (.int n)), some (.val (.tuple ((wo gs n.toNat).map gp))), some (.val (.int p.2)), none, some (.val x), some (.val y)] | _ => []) ?_ (by simp; omega) rfl (by simp [Tgt.slots, slotsL]) rfl rfl ?_ ?_ ?_
  · walk_at "ev"
  · intro d hd
    obtain ⟨q, hq, rfl⟩ := List.mem_map.mp hd
    exact ⟨rfl, rfl⟩
  · intro d hd
    obtain ⟨q, hq, rfl⟩ := List.mem_map.mp hd
    have := hg q hq
    walk_at "ev"
    walk_at "sd"
    exact .inl rfl
  walk_at "ev"
  rw [pairF_map, wb_sum]
  walk_at "ev"
  refine compN (ds := (wo gs n.toNat).map gp) (g := pairF fun q => q.1 * q.2) (fun d => match d with | .tuple [x, y] => [some (.val (wg L f l m)), some (.val (.tuple (gs.map gp))), some (.val (.int n)), some (.val (.tuple ((wo gs n.toNat).map gp))), some (.val (.int p.2)), none, some (.val x), some (.val y)] | _ => []) ?_ (by simp; omega) rfl (by simp [Tgt.slots, slotsL]) rfl rfl ?_ ?_ ?_
  · walk_at "ev"
  · intro d hd
    obtain ⟨q, hq, rfl⟩ := List.mem_map.mp hd
    exact ⟨rfl, rfl⟩
  · intro d hd
    obtain ⟨q, hq, rfl⟩ := List.mem_map.mp hd
    have := hg q (hwi q hq)
    walk_at "ev"
    walk_at "sd"
    exact .inl rfl
  walk_at "ev"
  rw [pairF_map, wb_sum]
  walk_at "ev"
  walk_at "cj"
  refine hn' _ _ ?_
  clear hn' hr K
  walk_at "ev"
  walk_at "cj"
  refine hH _ _ _ _ (by omega) (by omega) ?_
  walk_at "ev"
  exact k
/-! ### the plain law -/
theorem low_low {a b : Int} (h : 0 < b) : low (a / (Int.gcd a b : Int)) (b / (Int.gcd a b : Int)) = low a b := by
  have hg := gcd_pos (a := a) h
  have ha : (Int.gcd a b : Int) * (a / (Int.gcd a b : Int)) = a := Int.mul_ediv_cancel' (Int.gcd_dvd_left a b)
  have hb : (Int.gcd a b : Int) * (b / (Int.gcd a b : Int)) = b := Int.mul_ediv_cancel' (Int.gcd_dvd_right a b)
  have hq : 0 < b / (Int.gcd a b : Int) := by
    refine Int.pos_of_mul_pos_right (a := (Int.gcd a b : Int)) ?_ hg
    rw [hb]; exact h
  have e := low_mul (a := a / (Int.gcd a b : Int)) hq hg
  rw [ha, hb] at e
  exact e.symm
/-- the turning sums, good by good -/
def tsO (l b a : Int) (n : Nat) : Nat → List (Int × Int) → Int
  | _, [] => 0
  | i, p :: r => p.2 * (l * b - if i = n then a else p.1 * b) + tsO l b a n (i + 1) r
def tsA (f b a : Int) (n : Nat) : Nat → List (Int × Int) → Int
  | _, [] => 0
  | i, p :: r => p.2 * ((if i = n then a else p.1 * b) - f * b) + tsA f b a n (i + 1) r
/-- what lies on the wagon, good by good -/
def tsS (b a : Int) (n : Nat) : Nat → List (Int × Int) → Int
  | _, [] => 0
  | i, p :: r => p.2 * (if i = n then a else p.1 * b) + tsS b a n (i + 1) r
theorem ts_eq {f l b a : Int} {n : Nat} : ∀ {gs : List (Int × Int)} {i : Nat}, tsO l b a n i gs - tsA f b a n i gs = b * (gs.map fun q => q.2 * (f + l)).sum - 2 * tsS b a n i gs
  | [], _ => by simp [tsO, tsA, tsS]
  | p :: r, i => by
    have := ts_eq (f := f) (l := l) (b := b) (a := a) (n := n) (gs := r) (i := i + 1)
    unfold tsO tsA tsS
    rw [List.map_cons, List.sum_cons]
    grind
theorem tsS_past {b a : Int} {n : Nat} : ∀ {gs : List (Int × Int)} {i : Nat}, n < i → tsS b a n i gs = b * (gs.map fun q => q.1 * q.2).sum
  | [], _, _ => by simp [tsS]
  | p :: r, i, h => by
    have := tsS_past (b := b) (a := a) (n := n) (gs := r) (i := i + 1) (by omega)
    unfold tsS
    rw [List.map_cons, List.sum_cons, if_neg (by omega)]
    grind
theorem tsS_at {b a : Int} {n : Nat} {p : Int × Int} : ∀ {gs : List (Int × Int)} {i : Nat}, i ≤ n → gs[n - i]? = some p → tsS b a n i gs = b * ((wo gs (n - i)).map fun q => q.1 * q.2).sum + p.2 * a
  | [], i, _, h => by simp at h
  | q :: r, i, h, hp => by
    by_cases e : i = n
    · subst e
      rw [Nat.sub_self] at hp ⊢
      simp at hp
      subst hp
      have := tsS_past (b := b) (a := a) (n := i) (gs := r) (i := i + 1) (by omega)
      unfold tsS
      rw [if_pos rfl]
      simp only [wo, List.take_zero, List.nil_append, List.drop_succ_cons, List.drop_zero, Nat.zero_add]
      grind
    · obtain ⟨j, hj⟩ : ∃ j, n - i = j + 1 := ⟨n - i - 1, by omega⟩
      rw [hj] at hp ⊢
      rw [List.getElem?_cons_succ] at hp
      have := tsS_at (b := b) (a := a) (n := n) (p := p) (gs := r) (i := i + 1) (by omega) (by rw [show n - (i + 1) = j by omega]; exact hp)
      rw [show n - (i + 1) = j by omega] at this
      unfold tsS
      rw [if_neg e]
      simp only [wo, List.take_succ_cons, List.cons_append, List.map_cons, List.sum_cons, List.drop_succ_cons] at this ⊢
      grind
theorem turn_even {f l : Int} {gs : List (Int × Int)} {n : Nat} {p : Int × Int} (hp : gs[n]? = some p) (h0 : 0 < p.2) : tsO l (2 * p.2 / (Int.gcd (eS f l gs n) (2 * p.2) : Int)) (eS f l gs n / (Int.gcd (eS f l gs n) (2 * p.2) : Int)) n 0 gs = tsA f (2 * p.2 / (Int.gcd (eS f l gs n) (2 * p.2) : Int)) (eS f l gs n / (Int.gcd (eS f l gs n) (2 * p.2) : Int)) n 0 gs := by
  have hg := gcd_pos (a := eS f l gs n) (b := 2 * p.2) (by omega)
  have ha : (Int.gcd (eS f l gs n) (2 * p.2) : Int) * (eS f l gs n / (Int.gcd (eS f l gs n) (2 * p.2) : Int)) = eS f l gs n := Int.mul_ediv_cancel' (Int.gcd_dvd_left _ _)
  have hb : (Int.gcd (eS f l gs n) (2 * p.2) : Int) * (2 * p.2 / (Int.gcd (eS f l gs n) (2 * p.2) : Int)) = 2 * p.2 := Int.mul_ediv_cancel' (Int.gcd_dvd_right _ _)
  generalize (Int.gcd (eS f l gs n) (2 * p.2) : Int) = g at *
  generalize eS f l gs n / g = a at *
  generalize 2 * p.2 / g = b at *
  have e1 := ts_eq (f := f) (l := l) (b := b) (a := a) (n := n) (gs := gs) (i := 0)
  have e2 := tsS_at (b := b) (a := a) (n := n) (p := p) (gs := gs) (i := 0) (by omega) (by rw [Nat.sub_zero]; exact hp)
  rw [Nat.sub_zero] at e2
  unfold eS at ha
  generalize (gs.map fun q => q.2 * (f + l)).sum = X at *
  generalize ((wo gs n).map fun q => q.1 * q.2).sum = Y at *
  have e3 : g * (b * X - 2 * (b * Y + p.2 * a)) = 0 := by
    have : g * (b * X - 2 * (b * Y + p.2 * a)) = (g * b) * (X - 2 * Y) - 2 * p.2 * (g * a) := by grind
    rw [this, ha, hb]
    grind
  rcases Int.mul_eq_zero.mp e3 with h | h
  · omega
  · rw [e2] at e1; omega
theorem sz_bst : ∀ {R : List (List Int)} {n : Nat}, (∀ r ∈ R, r.length = 3) → szOk (n + 2) (bst3 R)
  | [], _, _ => trivial
  | t :: ts, n, h => by
    have : (lexMin t ts) ∈ t :: ts := lexMin_mem t ts
    exact ⟨by rw [List.length_map, h _ this]; omega, fun d hd => by obtain ⟨x, _, rfl⟩ := List.mem_map.mp hd; exact trivial⟩
theorem bst3_snoc {R : List (List Int)} {x : List Int} : bst3 (R ++ [x]) = match R with
    | [] => rwT x
    | t :: ts => if HT.lexLt x (lexMin t ts) then rwT x else rwT (lexMin t ts) := by
  cases R with
  | nil => rfl
  | cons t ts =>
    show rwT (lexMin t (ts ++ [x])) = _
    rw [lexMin_snoc]
    show _ = if HT.lexLt x (lexMin t ts) = true then rwT x else rwT (lexMin t ts)
    split <;> rfl
theorem rws_3 {L f l m : Int} {gs : List (Int × Int)} : ∀ {k : Nat}, ∀ r ∈ rws L f l m gs k, r.length = 3
  | 0, r, h => by cases h
  | k + 1, r, h => by
    unfold rws at h
    rcases List.mem_append.mp h with h | h
    · exact rws_3 r h
    · obtain ⟨z, _, rfl⟩ := List.mem_map.mp h
      rfl
def sel (f l m : Int) (gs : List (Int × Int)) (k : Nat) (w : Int) (n : Nat) : List Int := (rngI 0 n).filter fun z => hold f l m (mv gs k w z)
theorem sel_len {f l m w : Int} {gs : List (Int × Int)} {k n : Nat} : (sel f l m gs k w n).length ≤ n := by
  have := List.length_filter_le (fun z => hold f l m (mv gs k w z)) (rngI 0 n)
  rw [rngI_len] at this
  exact this
theorem sel_yes {f l m w z : Int} {gs : List (Int × Int)} {k n : Nat} (hz : (n : Int) = z) (h : hold f l m (mv gs k w z) = true) : sel f l m gs k w (n + 1) = sel f l m gs k w n ++ [z] := by
  unfold sel
  rw [rngI_snoc, List.filter_append, Int.zero_add, hz, List.filter_cons, if_pos h, List.filter_nil]
theorem sel_no {f l m w z : Int} {gs : List (Int × Int)} {k n : Nat} (hz : (n : Int) = z) (h : hold f l m (mv gs k w z) = false) : sel f l m gs k w (n + 1) = sel f l m gs k w n := by
  unfold sel
  rw [rngI_snoc, List.filter_append, Int.zero_add, hz, List.filter_cons, if_neg (by rw [h]; simp), List.filter_nil, List.append_nil]
theorem low_den {a b : Int} (h : 0 < b) : 0 < b / (Int.gcd a b : Int) ∧ b / (Int.gcd a b : Int) ≤ b := by
  have hg := gcd_pos (a := a) h
  have hb : (Int.gcd a b : Int) * (b / (Int.gcd a b : Int)) = b := Int.mul_ediv_cancel' (Int.gcd_dvd_right a b)
  have hq : 0 < b / (Int.gcd a b : Int) := by
    refine Int.pos_of_mul_pos_right (a := (Int.gcd a b : Int)) ?_ hg
    rw [hb]; exact h
  exact ⟨hq, Int.ediv_le_self _ (by omega)⟩
abbrev Sh57 (ns : List Int) (e : Env) : Prop := ∃ o2 o3 o4 o5 o6 o7 o8 o9 o10 o11 o12 o13 o14 o15 o16, e = [some (.val (.list (ns.map PyData.int))), some .cell, o2, o3, o4, o5, o6, o7, o8, o9, o10, o11, o12, o13, o14, o15, o16, none, none]
theorem law_ok {cup rows wgn gds some_ lh pl ep lowr ls roll ax : Fn} {same : Nat → Fn} {n : Nat} (hcup : CupOk cup) (hrows : ∀ c, rows [] c = .ok (.val (.bool true)) c) (hwgn : LwgOk wgn) (hgds : LgsOk gds) (hsome : SomeOk some_) (hlh : HoldOk lh) (hsame : ∀ n, same (n + 1) = sameP (same n)) (hpl : PoOk pl) (hep : EpOk ep) (hlowr : LowZ lowr) (hls : LsOk ls) (hroll : RollOk roll) (hax : AxOk ax) (ns : List Int) (hl : ns.length ≤ 63) :
    WpF (b_law cup rows wgn gds some_ lh (same (n + 5)) pl ep lowr ls roll ax [.val (.list (ns.map PyData.int))] none) fun v _ => v = .val (.bool true) := by
  unfold b_law
  rw [wpf_runB]
  refine wp_seqK fun K hn hr => wp_setcup ?_
  walk_at "ev"
  refine (hcup ns hl).imp ?_
  rintro v c ⟨x, y, rfl, rfl, hc⟩
  refine ⟨x, y, rfl, rfl, hn _ _ ?_⟩
  clear hn hr K
  generalize some (x, y) = c at hc
  refine wp_seqK fun K hn hr => ?_
  walk_at "ev"
  rw [hrows]
  walk_at "ev"
  refine hn _ _ ?_
  clear hn hr K
  refine wp_seqK fun K hn hr => ?_
  rw [wp_for, wp_rng1]
  walk_at "ev"
  refine ⟨by decide, ?_⟩
  refine wp_forH (fun ds e c => CI c ∧ Sh57 ns e) ⟨hc, _, _, _, _, _, _, _, _, _, _, _, _, _, _, _, rfl⟩ ?_ ?_
  · rintro d ds e c ⟨hc, o2, o3, o4, o5, o6, o7, o8, o9, o10, o11, o12, o13, o14, o15, o16, rfl⟩ KL hnL hrL
    refine ⟨_, rfl, ?_⟩
    have done : ∀ c, CI c → ∀ o2 o3 o4 o5 o6 o7 o8 o9 o10 o11 o12 o13 o14 o15 o16, KL .nx [some (.val (.list (ns.map PyData.int))), some .cell, o2, o3, o4, o5, o6, o7, o8, o9, o10, o11, o12, o13, o14, o15, o16, none, none] c := fun c hc o2 o3 o4 o5 o6 o7 o8 o9 o10 o11 o12 o13 o14 o15 o16 => hnL _ _ ⟨hc, _, _, _, _, _, _, _, _, _, _, _, _, _, _, _, rfl⟩
    clear hnL hrL hn hr
    refine wp_seqK fun K1 hn hr1 => ?_
    walk_at "ev"
    refine hwgn _ _ hc fun L0 f0 l0 m c hc hW0 => ?_
    walk_at "ev"
    refine hn _ _ ?_
    clear hn hr1 K1
    refine wp_seqK fun K1 hn hr1 => ?_
    suffices nx : ∀ L f l, Wg L f l m → L ≤ 40 → K1 .nx [some (.val (.list (ns.map PyData.int))), some .cell, some (.val d), some (.val (wg L f l m)), o4, o5, o6, o7, o8, o9, o10, o11, o12, o13, o14, o15, o16, none, none] c by
      have h1 := hW0.L0; have h2 := hW0.L1; have h3 := hW0.f0; have h4 := hW0.fl; have h5 := hW0.l1; have h6 := hW0.m0; have h7 := hW0.m1
      clear hn hr1
      walk_at "ev"
      by_cases hlt : f0 < (if 40 < l0 then 40 else l0)
      · rw [if_pos hlt, ixt3]
        walk_at "ev"
        walk_at "cj"
        exact nx (if 40 < L0 then 40 else L0) (if 39 < f0 then 39 else f0) (if 40 < l0 then 40 else l0) ⟨by split <;> omega, by split <;> omega, by split <;> omega, by revert hlt; split <;> split <;> omega, by split <;> split <;> omega, h6, h7⟩ (by split <;> omega)
      · rw [if_neg hlt, ixt3]
        walk_at "ev"
        walk_at "cj"
        exact nx 40 3 30 ⟨by omega, by omega, by omega, by omega, by omega, h6, h7⟩ (by omega)
    intro L f l hW hL
    clear hW0
    refine hn _ _ ?_
    clear hn hr1 K1
    refine wp_seqK fun K1 hn hr1 => ?_
    walk_at "ev"
    refine hsome _ _ _ hc (by simp) (by simp) fun t ht c hc => ?_
    obtain ⟨t, rfl, t0, t1⟩ : ∃ k : Int, t = .int k ∧ 1 ≤ k ∧ k ≤ 1000 := by
      simp at ht; rcases ht with rfl | rfl <;> exact ⟨_, rfl, by decide, by decide⟩
    walk_at "ev"
    refine hgds _ _ _ _ _ _ _ _ hc hW (by omega) (by omega) t0 t1 fun gs c hc hg hgl => ?_
    walk_at "ev"
    refine hn _ _ ?_
    clear hn hr1 K1
    generalize hgt : PyData.tuple (gs.map gp) = gt
    refine wp_seqK fun K1 hn hr1 => ?_
    walk_at "ev"
    refine hn _ _ ?_
    clear hn hr1 K1
    have h1 := hW.L0; have h2 := hW.L1; have h3 := hW.f0; have h4 := hW.fl; have h5 := hW.l1; have h6 := hW.m0; have h7 := hW.m1
    obtain ⟨gl, hgl2⟩ : ∃ z : Int, ((gs.map gp).length : Int) = z := ⟨_, rfl⟩
    have hgl' : (gs.length : Int) = gl := by rw [← hgl2, List.length_map]
    refine wp_seqK fun K1 hn hr1 => ?_
    rw [wp_for, wp_rng1]
    subst hgt
    walk_at "ev"
    rw [hgl2]
    refine ⟨okR_of (by omega) (by omega), ?_⟩
    rw [rngD_I]
    refine wp_forH (fun rest e c' => c' = c ∧ ∃ (j r : Nat) (z : Int) (o6 o7 o8 o9 o10 o11 o12 o13 o14 o15 o16 : Option SV), (j : Int) = z ∧ j + r = gs.length ∧ rest = (rngI z r).map .int ∧ e = [some (.val (.list (ns.map PyData.int))), some .cell, some (.val d), some (.val (wg L f l m)), some (.val (.tuple (gs.map gp))), some (.val (bst3 (rws L f l m gs j))), o6, o7, o8, o9, o10, o11, o12, o13, o14, o15, o16, none, none]) ⟨rfl, 0, gs.length, 0, _, _, _, _, _, _, _, _, _, _, _, rfl, by omega, by rw [show gl.toNat = gs.length by omega], rfl⟩ ?_ ?_
    · rintro d' rest e c' ⟨rfl, j, r, z, o6, o7, o8, o9, o10, o11, o12, o13, o14, o15, o16, hz, hjr, hd, rfl⟩ K2 hn2 hr2
      cases r with
      | zero => simp [rngI_nil] at hd
      | succ r =>
        rw [rngI_cons, List.map_cons, List.cons.injEq] at hd
        obtain ⟨rfl, rfl⟩ := hd
        refine ⟨_, rfl, ?_⟩
        obtain ⟨p, hp⟩ : ∃ p, gs[j]? = some p := ⟨_, List.getElem?_eq_getElem (by omega)⟩
        have hj : z.toNat = j := by omega
        have nx : ∀ o6 o7 o8 o9 o10 o11 o12 o13 o14 o15 o16, K2 .nx [some (.val (.list (ns.map PyData.int))), some .cell, some (.val d), some (.val (wg L f l m)), some (.val (.tuple (gs.map gp))), some (.val (bst3 (rws L f l m gs (j + 1)))), o6, o7, o8, o9, o10, o11, o12, o13, o14, o15, o16, none, none] c' := fun o6 o7 o8 o9 o10 o11 o12 o13 o14 o15 o16 => hn2 _ _ ⟨rfl, j + 1, r, z + 1, o6, o7, o8, o9, o10, o11, o12, o13, o14, o15, o16, by omega, by omega, rfl, rfl⟩
        clear hn2 hr2 hn hr1 done
        have hgl20 : gs.length ≤ 20 := by omega
        have hp' : (gs.map gp)[z.toNat]? = some (gp p) := by rw [List.getElem?_map, hj, hp]; rfl
        have hpm := hg p (List.mem_of_getElem? hp)
        refine wp_seqK fun K3 hn3 hr3 => ?_
        walk_at "ev"
        walk_at "cj"
        refine hn3 _ _ ?_
        clear hn3 hr3
        refine wp_seqK fun K3 hn3 hr3 => ?_
        rw [wp_for, wp_rng1]
        walk_at "ev"
        refine ⟨okR_of (by omega) (by omega), ?_⟩
        rw [rngD_I]
        refine wp_forH (fun rest e c => c = c' ∧ ∃ (u s : Nat) (y : Int) (o8 o9 : Option SV), (u : Int) = y ∧ u + s = (L + 1).toNat ∧ rest = (rngI y s).map .int ∧ e = [some (.val (.list (ns.map PyData.int))), some .cell, some (.val d), some (.val (wg L f l m)), some (.val (.tuple (gs.map gp))), some (.val (bst3 (rws L f l m gs j ++ (sel f l m gs j p.2 u).map (rwN z p.1)))), some (.val (.int z)), some (.own (.list ((sel f l m gs j p.2 u).map .int))), o8, o9, o10, o11, o12, o13, o14, o15, o16, none, none]) ⟨rfl, 0, (L + 1).toNat, 0, _, _, rfl, by omega, rfl, by rw [show sel f l m gs j p.2 0 = [] from rfl, List.map_nil, List.append_nil, List.map_nil]⟩ ?_ ?_
        · rintro d' rest e c ⟨rfl, u, s, y, o8, o9, hy, hus, hd, rfl⟩ K4 hn4 hr4
          cases s with
          | zero => simp [rngI_nil] at hd
          | succ s =>
            rw [rngI_cons, List.map_cons, List.cons.injEq] at hd
            obtain ⟨rfl, rfl⟩ := hd
            refine ⟨_, rfl, ?_⟩
            have nx4 : ∀ o8 o9, K4 .nx [some (.val (.list (ns.map PyData.int))), some .cell, some (.val d), some (.val (wg L f l m)), some (.val (.tuple (gs.map gp))), some (.val (bst3 (rws L f l m gs j ++ (sel f l m gs j p.2 (u + 1)).map (rwN z p.1)))), some (.val (.int z)), some (.own (.list ((sel f l m gs j p.2 (u + 1)).map .int))), o8, o9, o10, o11, o12, o13, o14, o15, o16, none, none] c := fun o8 o9 => hn4 _ _ ⟨rfl, u + 1, s, y + 1, o8, o9, by omega, by omega, rfl, rfl⟩
            clear hn4 hr4
            have hsl := sel_len (f := f) (l := l) (m := m) (gs := gs) (k := j) (w := p.2) (n := u)
            walk_at "ev"
            rw [cut_to (show 0 ≤ z by omega), wb_ixTI (d := gp p) (by omega) hp']
            walk_at "ev"
            walk_at "cj"
            rw [wb_addT (by simp; omega)]
            walk_at "ev"
            rw [cut_from (show 0 ≤ z + 1 by omega), wb_addT (by simp; omega), show (z + 1).toNat = z.toNat + 1 by omega, mv_map, hj]
            walk_at "ev"
            refine hlh _ _ _ _ _ _ _ hW (mv_w hg hp) (mv_len hgl20) ?_
            walk_at "ev"
            cases hh : hold f l m (mv gs j p.2 y) with
            | false =>
              rw [sel_no hy hh] at nx4
              walk_at "ev"
              exact nx4 _ _
            | true =>
              rw [sel_yes hy hh, List.map_append, List.map_append, ← List.append_assoc] at nx4
              have hR3 : ∀ r ∈ rws L f l m gs j ++ (sel f l m gs j p.2 u).map (rwN z p.1), r.length = 3 := fun r hr => by
                rcases List.mem_append.mp hr with hr | hr
                · exact rws_3 r hr
                · obtain ⟨x, _, rfl⟩ := List.mem_map.mp hr
                  rfl
              generalize rws L f l m gs j ++ (sel f l m gs j p.2 u).map (rwN z p.1) = R at *
              generalize sel f l m gs j p.2 u = S at *
              rw [show [y].map (rwN z p.1) = [rwN z p.1 y] from rfl, bst3_snoc] at nx4
              clear hh
              rw [if_pos rfl]
              refine ⟨by simp; omega, ?_⟩
              rw [wb_ixTI (d := gp p) (by omega) hp']
              walk_at "ev"
              walk_at "cj"
              have er : PyData.tuple [.int (if y - p.1 < 0 then -(y - p.1) else y - p.1), .int z, .int y] = rwT (rwN z p.1 y) := rfl
              rw [er]
              cases R with
              | nil =>
                simp only [bst3, isNone]
                walk_at "ev"
                exact nx4 _ _
              | cons t ts =>
                simp only [bst3]
                simp only [isNone, rwT]
                walk_at "ev"
                rw [wb_ltT]
                walk_at "ev"
                simp only [rwT] at nx4
                by_cases h : HT.lexLt (rwN z p.1 y) (lexMin t ts) = true
                · rw [if_pos h] at nx4 ⊢
                  exact nx4 _ _
                · rw [if_neg h] at nx4 ⊢
                  exact nx4 _ _
        · rintro e c ⟨rfl, u, s, y, o8, o9, hy, hus, hd, rfl⟩
          have hs0 : s = 0 := by
            cases s with
            | zero => rfl
            | succ s => rw [rngI_cons] at hd; simp at hd
          have hu : u = (L + 1).toNat := by omega
          rw [hu]
          clear hd hus hu hs0
          refine hn3 _ _ ?_
          clear hn3 hr3
          have epl : sel f l m gs j p.2 (L + 1).toNat = plN L f l m gs j p.2 := rfl
          have erw : rws L f l m gs (j + 1) = rws L f l m gs j ++ (plN L f l m gs j p.2).map (rwN z p.1) := by
            show rws L f l m gs j ++ (plN L f l m gs j (gs.getD j (0, 0)).2).map (rwN (j : Int) (gs.getD j (0, 0)).1) = _
            rw [getD_of hp, hz]
          rw [epl, ← erw]
          clear erw epl
          have hpll := plN_len (f := f) (l := l) (m := m) (gs := gs) (k := j) (w := p.2) hW.L1
          refine wp_seqK fun K3 hn3 hr3 => ?_
          walk_at "ev"
          refine hpl _ _ _ _ _ _ _ _ _ hW hg hgl20 (by omega) (by rw [hj]; exact hp) ?_
          rw [hj]
          generalize plN L f l m gs j p.2 = S at *
          walk_at "ev"
          refine same_use hsame rfl ⟨by rw [List.length_map]; omega, fun d hd => by obtain ⟨x, _, rfl⟩ := List.mem_map.mp hd; exact trivial⟩ ?_
          walk_at "ev"
          refine hn3 _ _ ?_
          clear hn3 hr3
          refine wp_seqK fun K3 hn3 hr3 => ?_
          walk_at "ev"
          refine hep _ _ _ _ _ _ _ _ _ hW hg hgl20 (by omega) (by rw [hj]; exact hp) ?_
          rw [hj]
          have hte := turn_even (f := f) (l := l) hp (by omega)
          have hll : low (eS f l gs j / (Int.gcd (eS f l gs j) (2 * p.2) : Int)) (2 * p.2 / (Int.gcd (eS f l gs j) (2 * p.2) : Int)) = .tuple [.int (eS f l gs j / (Int.gcd (eS f l gs j) (2 * p.2) : Int)), .int (2 * p.2 / (Int.gcd (eS f l gs j) (2 * p.2) : Int))] := low_low (by omega)
          have hlb := low_den (a := eS f l gs j) (b := 2 * p.2) (by omega)
          rw [show low (eS f l gs j) (2 * p.2) = .tuple [.int (eS f l gs j / (Int.gcd (eS f l gs j) (2 * p.2) : Int)), .int (2 * p.2 / (Int.gcd (eS f l gs j) (2 * p.2) : Int))] from rfl]
          generalize eS f l gs j / (Int.gcd (eS f l gs j) (2 * p.2) : Int) = a at *
          generalize 2 * p.2 / (Int.gcd (eS f l gs j) (2 * p.2) : Int) = b at *
          walk_at "ev"
          refine hn3 _ _ ?_
          clear hn3 hr3
          refine wp_seqK fun K3 hn3 hr3 => ?_
          walk_at "ev"
          refine hn3 _ _ ?_
          clear hn3 hr3
          refine wp_seqK fun K3 hn3 hr3 => ?_
          rw [wp_for]
          refine wp_enum ?_
          walk_at "ev"
          refine ⟨_, rfl, ?_⟩
          refine wp_forH (fun rest e c2 => c2 = c ∧ ∃ (qs : List (Int × Int)) (i : Nat) (x y : Int) (o8 o14 o15 o16 : Option SV), rest = enumD i (qs.map gp) ∧ (∀ q ∈ qs, q ∈ gs) ∧ e = [some (.val (.list (ns.map PyData.int))), some .cell, some (.val d), some (.val (wg L f l m)), some (.val (.tuple (gs.map gp))), some (.val (bst3 (rws L f l m gs (j + 1)))), some (.val (.int z)), some (.own (.list (S.map .int))), o8, o9, some (.val (.int a)), some (.val (.int b)), some (.val (.int x)), some (.val (.int y)), o14, o15, o16, none, none] ∧ x + tsO l b a j i qs = tsO l b a j 0 gs ∧ y + tsA f b a j i qs = tsA f b a j 0 gs) ⟨rfl, gs, 0, 0, 0, _, _, _, _, rfl, fun _ h => h, rfl, by omega, by omega⟩ ?_ ?_
          · rintro d' rest e c2 ⟨rfl, qs, i, x, y, o8, o14, o15, o16, hq, hin, rfl, e1, e2⟩ K4 hn4 hr4
            cases qs with
            | nil => cases hq
            | cons q qs =>
              rw [List.map_cons, enumD, List.cons.injEq] at hq
              obtain ⟨rfl, rfl⟩ := hq
              refine ⟨_, rfl, ?_⟩
              have nx4 : ∀ x y o8 o14 o15 o16, x + tsO l b a j (i + 1) qs = tsO l b a j 0 gs → y + tsA f b a j (i + 1) qs = tsA f b a j 0 gs → K4 .nx [some (.val (.list (ns.map PyData.int))), some .cell, some (.val d), some (.val (wg L f l m)), some (.val (.tuple (gs.map gp))), some (.val (bst3 (rws L f l m gs (j + 1)))), some (.val (.int z)), some (.own (.list (S.map .int))), o8, o9, some (.val (.int a)), some (.val (.int b)), some (.val (.int x)), some (.val (.int y)), o14, o15, o16, none, none] c2 := fun x y o8 o14 o15 o16 e1 e2 => hn4 _ _ ⟨rfl, qs, i + 1, x, y, o8, o14, o15, o16, rfl, fun q h => hin q (by simp [h]), rfl, e1, e2⟩
              have hqm := hg q (hin q (by simp))
              clear hn4 hr4 hin
              obtain ⟨iz, hiz⟩ : ∃ v : Int, (i : Int) = v := ⟨_, rfl⟩
              rw [hiz]
              rw [show tsO l b a j i (q :: qs) = q.2 * (l * b - if i = j then a else q.1 * b) + tsO l b a j (i + 1) qs from rfl] at e1
              rw [show tsA f b a j i (q :: qs) = q.2 * ((if i = j then a else q.1 * b) - f * b) + tsA f b a j (i + 1) qs from rfl] at e2
              have hcond : (iz = z) = (i = j) := propext ⟨fun h => by omega, fun h => by omega⟩
              suffices go : ∀ sp, sp = (if i = j then a else q.1 * b) → Wp (mPar [12, 13] [mOps fAdd [.nm 12, .ex (mOps fMul [.nm 15, .ex (mOps fSub [.ex (mOps fMul [.ex (mOps fIx [.nm 3, .ex (mC (.int 2))]), .nm 11]), .nm 16])])], mOps fAdd [.nm 13, .ex (mOps fMul [.nm 15, .ex (mOps fSub [.nm 16, .ex (mOps fMul [.ex (mOps fIx [.nm 3, .ex (mC (.int 1))]), .nm 11])])])]] [some (.val (.list (ns.map PyData.int))), some .cell, some (.val d), some (.val (wg L f l m)), some (.val (.tuple (gs.map gp))), some (.val (bst3 (rws L f l m gs (j + 1)))), some (.val (.int z)), some (.own (.list (S.map .int))), some (.val (.int q.1)), o9, some (.val (.int a)), some (.val (.int b)), some (.val (.int x)), some (.val (.int y)), some (.val (.int iz)), some (.val (.int q.2)), some (.val (.int sp)), none, none] c2) K4 by
                refine wp_seqK fun K5 hn5 hr5 => ?_
                walk_at "ev"
                by_cases hij : i = j
                · rw [if_pos hij] at go
                  rw [if_pos (by rw [hcond]; exact hij)]
                  exact hn5 _ _ (go _ rfl)
                · rw [if_neg hij] at go
                  rw [if_neg (by rw [hcond]; exact hij)]
                  walk_at "cj"
                  exact hn5 _ _ (go _ rfl)
              intro sp hsp
              rw [← hsp] at e1 e2
              walk_at "ev"
              walk_at "cj"
              exact nx4 _ _ _ _ _ _ (by omega) (by omega)
          · rintro e c2 ⟨rfl, qs, i, x, y, o8, o14, o15, o16, hq, hin, rfl, e1, e2⟩
            cases qs with
            | cons q qs => cases hq
            | nil =>
              rw [show tsO l b a j i [] = 0 from rfl, hte] at e1
              rw [show tsA f b a j i [] = 0 from rfl] at e2
              have hxy : x = y := by omega
              subst hxy
              refine hn3 _ _ ?_
              clear hn3 hr3 hq hin e1 e2 hte
              walk_at "ev"
              refine hlowr _ _ _ _ (by omega) (by omega) ?_
              rw [hll]
              walk_at "ev"
              refine same_use hsame rfl (by simp [szOk]) ?_
              walk_at "ev"
              exact nx _ _ _ _ _ _ _ _ _ _ _
    · rintro e c' ⟨rfl, j, r, z, o6, o7, o8, o9, o10, o11, o12, o13, o14, o15, o16, hz, hjr, hd, rfl⟩
      have hr0 : r = 0 := by
        cases r with
        | zero => rfl
        | succ r => rw [rngI_cons] at hd; simp at hd
      have hj : j = gs.length := by omega
      subst hj
      clear hd hjr hr0
      refine hn _ _ ?_
      clear hn hr1
      walk_at "ev"
      refine hls _ _ _ _ _ _ _ hW hg (by omega) ?_
      walk_at "ev"
      refine same_use hsame rfl (sz_bst rws_3) ?_
      walk_at "ev"
      exact done _ hc _ _ _ _ _ _ _ _ _ _ _ _ _ _ _
  · rintro e c ⟨hc, o2, o3, o4, o5, o6, o7, o8, o9, o10, o11, o12, o13, o14, o15, o16, rfl⟩
    refine hn _ _ ?_
    clear hn hr K
    refine wp_seqK fun K hn hr => ?_
    walk_at "ev"
    refine hroll.use hc (by omega) (by omega) fun r c hc r0 r1 => ?_
    walk_at "ev"
    refine hn _ _ ?_
    clear hn hr K
    have hW : Wg 1000 100 900 5 := ⟨by omega, by omega, by omega, by omega, by omega, by omega, by omega⟩
    have hW0 : Wg 1 0 1 0 := ⟨by omega, by omega, by omega, by omega, by omega, by omega, by omega⟩
    have hG : GoodsOk 1000 [(r, 7)] := fun p hp => by simp at hp; subst hp; simp; omega
    have hG5 : GoodsOk 1000 [(500, 7)] := fun p hp => by simp at hp; subst hp; simp
    have hG0 : GoodsOk 1 [] := fun p hp => by cases hp
    refine wp_seqK fun K hn hr => ?_
    walk_at "ev"
    walk_at "cj"
    refine hep 1000 100 900 5 0 [(r, 7)] (r, 7) _ _ hW hG (by simp) (by omega) rfl ?_
    rw [show eS 100 900 [(r, 7)] (0 : Int).toNat = 7000 by simp [eS, wo], show low 7000 (2 * (r, (7 : Int)).2) = .tuple [.int 500, .int 1] by
      show low 7000 14 = _
      unfold low
      rw [show (Int.gcd 7000 14 : Int) = 14 from rfl]
      rfl]
    walk_at "ev"
    walk_at "cj"
    refine hax 1000 100 900 5 [(500, 7)] _ _ hW hG5 (by simp) ?_
    rw [show lev1 900 [(500, 7)] = 2800 from rfl, show lev2 100 [(500, 7)] = 2800 from rfl, show low 2800 (900 - 100) = .tuple [.int 7, .int 2] by
      show low 2800 800 = _
      unfold low
      rw [show (Int.gcd 2800 800 : Int) = 400 from rfl]
      rfl]
    walk_at "ev"
    walk_at "cj"
    refine hls 1 0 1 0 [] _ _ hW0 hG0 (by simp) ?_
    rw [show bst3 (rws 1 0 1 0 [] [].length) = .none from rfl]
    walk_at "ev"
    walk_at "cj"
    refine hn _ _ ?_
    clear hn hr K
    walk_at "ev"
    walk_at "cj"
    refine same_use hsame rfl ?_ ?_
    · simp [szOk]
    · rfl
end Ev

namespace Ev
open PySem PySem.Spec PyProof.Rows L2
/-! each def keeps its promise -/
theorem o__law_roll (n : Nat) (h : 1 ≤ n) : RollOk (ev n 19) := by
  obtain ⟨m, rfl⟩ : ∃ m, n = m + 1 := ⟨n - 1, by omega⟩
  rw [e__law_roll m]
  exact roll_ok (A := 35581) (B := 8191) (M := 2147483423) (C := 5261) (M2 := 2147483587) (D := 2593) (by decide) (by decide) (by decide) (by decide)
theorem o__law_cup (n : Nat) (h : 1 ≤ n) : CupOk (ev n 18) := by
  obtain ⟨m, rfl⟩ : ∃ m, n = m + 1 := ⟨n - 1, by omega⟩
  rw [e__law_cup m]
  exact cup_ok (Cd := 199) (A := 4561) (B := 6563) (M := 2041177399) (Dd := 3203) (by decide) (by decide) (by decide) (by decide)
theorem o__law_some (n : Nat) (h : 2 ≤ n) : SomeOk (ev n 20) := by
  obtain ⟨m, rfl⟩ : ∃ m, n = m + 1 := ⟨n - 1, by omega⟩
  rw [e__law_some m]
  exact some_ok (o__law_roll m (by omega))
theorem o_is_whole (n : Nat) (h : 1 ≤ n) : IsWholeG (ev n 0) := by
  obtain ⟨m, rfl⟩ : ∃ m, n = m + 1 := ⟨n - 1, by omega⟩
  rw [e_is_whole m]
  exact isWhole_g
theorem o_fits_whole (n : Nat) (h : 2 ≤ n) : FitsG (ev n 1) := by
  obtain ⟨m, rfl⟩ : ∃ m, n = m + 1 := ⟨n - 1, by omega⟩
  rw [e_fits_whole m]
  exact fits_g (o_is_whole m (by omega))
theorem o_is_tuple_of (n : Nat) (h : 1 ≤ n) : TupG (ev n 2) := by
  obtain ⟨m, rfl⟩ : ∃ m, n = m + 1 := ⟨n - 1, by omega⟩
  rw [e_is_tuple_of m]
  exact tup_g
theorem o_divisor_in (n : Nat) (h : 1 ≤ n) : DivZ (ev n 3) := by
  obtain ⟨m, rfl⟩ : ∃ m, n = m + 1 := ⟨n - 1, by omega⟩
  rw [e_divisor_in m]
  exact divisor_z
theorem o_lowered (n : Nat) (h : 2 ≤ n) : LowZ (ev n 4) := by
  obtain ⟨m, rfl⟩ : ∃ m, n = m + 1 := ⟨n - 1, by omega⟩
  rw [e_lowered m]
  exact lowered_z (o_divisor_in m (by omega))
theorem o_fits_wagon (n : Nat) (h : 3 ≤ n) : FwG (ev n 5) := by
  obtain ⟨m, rfl⟩ : ∃ m, n = m + 1 := ⟨n - 1, by omega⟩
  rw [e_fits_wagon m]
  exact fits_wagon_ok (o_is_tuple_of m (by omega)) (o_fits_whole m (by omega))
theorem o_need_wagon (n : Nat) (h : 4 ≤ n) : NwOk (ev n 6) := by
  obtain ⟨m, rfl⟩ : ∃ m, n = m + 1 := ⟨n - 1, by omega⟩
  rw [e_need_wagon m]
  exact need_wagon_ok (o_fits_wagon m (by omega))
theorem o_fits_good (n : Nat) (h : 3 ≤ n) : FgOk (ev n 7) := by
  obtain ⟨m, rfl⟩ : ∃ m, n = m + 1 := ⟨n - 1, by omega⟩
  rw [e_fits_good m]
  exact fits_good_ok (o_is_tuple_of m (by omega)) (o_fits_whole m (by omega))
theorem o_fits_goods (n : Nat) (h : 4 ≤ n) : FgsOk (ev n 8) := by
  obtain ⟨m, rfl⟩ : ∃ m, n = m + 1 := ⟨n - 1, by omega⟩
  rw [e_fits_goods m]
  exact fits_goods_ok (o_is_tuple_of m (by omega)) (o_fits_good m (by omega))
theorem o_need_goods (n : Nat) (h : 5 ≤ n) : NgOk (ev n 9) := by
  obtain ⟨m, rfl⟩ : ∃ m, n = m + 1 := ⟨n - 1, by omega⟩
  rw [e_need_goods m]
  exact need_goods_ok (o_need_wagon m (by omega)) (o_fits_goods m (by omega))
theorem o_need_number (n : Nat) (h : 3 ≤ n) : NnOk (ev n 10) := by
  obtain ⟨m, rfl⟩ : ∃ m, n = m + 1 := ⟨n - 1, by omega⟩
  rw [e_need_number m]
  exact need_number_ok (o_fits_whole m (by omega))
theorem o_levers_in (n : Nat) (h : 1 ≤ n) : LevOk (ev n 11) := by
  obtain ⟨m, rfl⟩ : ∃ m, n = m + 1 := ⟨n - 1, by omega⟩
  rw [e_levers_in m]
  exact levers_in_ok
theorem o_does_hold (n : Nat) (h : 2 ≤ n) : HoldOk (ev n 12) := by
  obtain ⟨m, rfl⟩ : ∃ m, n = m + 1 := ⟨n - 1, by omega⟩
  rw [e_does_hold m]
  exact does_hold_ok (o_levers_in m (by omega))
theorem o_moved_to (n : Nat) (h : 1 ≤ n) : MvOk (ev n 13) := by
  obtain ⟨m, rfl⟩ : ∃ m, n = m + 1 := ⟨n - 1, by omega⟩
  rw [e_moved_to m]
  exact moved_to_ok
theorem o_axle_loads (n : Nat) (h : 6 ≤ n) : AxOk (ev n 14) := by
  obtain ⟨m, rfl⟩ : ∃ m, n = m + 1 := ⟨n - 1, by omega⟩
  rw [e_axle_loads m]
  exact axle_loads_ok (o_need_goods m (by omega)) (o_levers_in m (by omega)) (o_lowered m (by omega))
theorem o_places_of (n : Nat) (h : 6 ≤ n) : PoOk (ev n 15) := by
  obtain ⟨m, rfl⟩ : ∃ m, n = m + 1 := ⟨n - 1, by omega⟩
  rw [e_places_of m]
  exact places_of_ok (o_need_goods m (by omega)) (o_need_number m (by omega)) (o_does_hold m (by omega)) (o_moved_to m (by omega))
theorem o_least_shift (n : Nat) (h : 6 ≤ n) : LsOk (ev n 16) := by
  obtain ⟨m, rfl⟩ : ∃ m, n = m + 1 := ⟨n - 1, by omega⟩
  rw [e_least_shift m]
  exact least_shift_ok (o_need_goods m (by omega)) (o_does_hold m (by omega)) (o_moved_to m (by omega))
theorem o_even_places (n : Nat) (h : 6 ≤ n) : EpOk (ev n 17) := by
  obtain ⟨m, rfl⟩ : ∃ m, n = m + 1 := ⟨n - 1, by omega⟩
  rw [e_even_places m]
  exact even_places_ok (o_need_goods m (by omega)) (o_need_number m (by omega)) (o_lowered m (by omega))
theorem o__law_lowered (n : Nat) (h : 1 ≤ n) : LowZ (ev n 22) := by
  obtain ⟨m, rfl⟩ : ∃ m, n = m + 1 := ⟨n - 1, by omega⟩
  rw [e__law_lowered m]
  exact law_lowered_z
theorem o__law_wagon (n : Nat) (h : 3 ≤ n) : LwgOk (ev n 23) := by
  obtain ⟨m, rfl⟩ : ∃ m, n = m + 1 := ⟨n - 1, by omega⟩
  rw [e__law_wagon m]
  exact law_wagon_ok (o__law_roll m (by omega)) (o__law_some m (by omega))
theorem o__law_goods (n : Nat) (h : 3 ≤ n) : LgsOk (ev n 24) := by
  obtain ⟨m, rfl⟩ : ∃ m, n = m + 1 := ⟨n - 1, by omega⟩
  rw [e__law_goods m]
  exact law_goods_ok (o__law_roll m (by omega)) (o__law_some m (by omega))
theorem o__law_levers (n : Nat) (h : 1 ≤ n) : LevOk (ev n 25) := by
  obtain ⟨m, rfl⟩ : ∃ m, n = m + 1 := ⟨n - 1, by omega⟩
  rw [e__law_levers m]
  exact law_levers_ok
theorem o__law_holds (n : Nat) (h : 2 ≤ n) : HoldOk (ev n 26) := by
  obtain ⟨m, rfl⟩ : ∃ m, n = m + 1 := ⟨n - 1, by omega⟩
  rw [e__law_holds m]
  exact law_holds_ok (o__law_levers m (by omega))
theorem rows_ok (c : Cel) : ev 40 27 [] c = .ok (.val (.bool true)) c := by kernel_rfl
theorem run_law (ns : List Int) (hl : ns.length ≤ 63) : ∃ c', evN tab tStmts 41 28 [.val (.list (ns.map PyData.int))] none = .ok (.val (.bool true)) c' := by
  have z := law_ok (n := 35) (same := fun n => ev n 21) (o__law_cup 40 (by omega)) rows_ok (o__law_wagon 40 (by omega)) (o__law_goods 40 (by omega)) (o__law_some 40 (by omega)) (o__law_holds 40 (by omega)) (fun n => e__law_same n) (o_places_of 40 (by omega)) (o_even_places 40 (by omega)) (o__law_lowered 40 (by omega)) (o_least_shift 40 (by omega)) (o__law_roll 40 (by omega)) (o_axle_loads 40 (by omega)) ns hl
  obtain ⟨v, c, h, e⟩ := z.get
  subst e
  exact ⟨c, (congrFun (congrFun (e_law 40) _) _).trans h⟩
end Ev

open PySem PySem.W PyProof.Rows Ev in
set_option maxHeartbeats 0 in
set_option maxRecDepth 100000 in
theorem PySem.Challenge.cw_timberyard_k57_whole_moves_on_wagons_holds : PySem.Challenge.rw_timberyard_k57_whole_moves_on_wagons.Holds := by
  w_on; o_law; k_head; (case hw => w_witness2)
  k_fill
  refine Ev.walk_ev (l := PySem.Challenge.rw_timberyard_k57_whole_moves_on_wagons) (n := 63) (k := 40) (j := 28) (T := Ev.tab) (sts := Ev.tStmts) (N := ["script", "cup", "turn", "wagon", "goods", "best", "number", "some", "place", "row", "above", "below", "one", "other", "at", "weight", "own", "far", "told"]) rfl (by decide) rfl ⟨rfl, by decide, by decide⟩ rfl Ev.run_law (fun w => ?L) (fun w h Y => PySem.W.kIn_of Y) ?F
  case L => exact rfl
  case F =>
    intro w mg fa h KX G hmg
    refine' ⟨_, Ev.tab_mk (w := w) (ex := [("InvalidPlan", _), ("InvalidTable", _), ("InvalidNumber", _)]) ?d ?c ?e rfl ?b⟩
    case d =>
      refine' DefsOk.cons (def_mk KX G ⟨rfl, rfl, rfl, by decide +kernel, rfl, by decide +kernel, by decide +kernel⟩ (fun _ _ _ _ _ _ us hl => match us, hl with | [_], _ => rfl) ?da1 ?dl1 ?dc1 ?dk1) ?_
      (case da1 => k_is); (case dl1 => k_is); (case dc1 => k_is); (case dk1 => k_is)
      refine' DefsOk.cons (def_mk KX G ⟨rfl, rfl, rfl, by decide +kernel, rfl, by decide +kernel, by decide +kernel⟩ (fun _ _ _ _ _ _ us hl => match us, hl with | [_, _, _], _ => rfl) ?da2 ?dl2 ?dc2 ?dk2) ?_
      (case da2 => k_is); (case dl2 => k_is); (case dc2 => k_is); (case dk2 => k_is)
      refine' DefsOk.cons (def_mk KX G ⟨rfl, rfl, rfl, by decide +kernel, rfl, by decide +kernel, by decide +kernel⟩ (fun _ _ _ _ _ _ us hl => match us, hl with | [_, _, _], _ => rfl) ?da3 ?dl3 ?dc3 ?dk3) ?_
      (case da3 => k_is); (case dl3 => k_is); (case dc3 => k_is); (case dk3 => k_is)
      refine' DefsOk.cons (def_mk KX G ⟨rfl, rfl, rfl, by decide +kernel, rfl, by decide +kernel, by decide +kernel⟩ (fun _ _ _ _ _ _ us hl => match us, hl with | [_, _], _ => rfl) ?da4 ?dl4 ?dc4 ?dk4) ?_
      (case da4 => k_is); (case dl4 => k_is); (case dc4 => k_is); (case dk4 => k_is)
      refine' DefsOk.cons (def_mk KX G ⟨rfl, rfl, rfl, by decide +kernel, rfl, by decide +kernel, by decide +kernel⟩ (fun _ _ _ _ _ _ us hl => match us, hl with | [_, _], _ => rfl) ?da5 ?dl5 ?dc5 ?dk5) ?_
      (case da5 => k_is); (case dl5 => k_is); (case dc5 => k_is); (case dk5 => k_is)
      refine' DefsOk.cons (def_mk KX G ⟨rfl, rfl, rfl, by decide +kernel, rfl, by decide +kernel, by decide +kernel⟩ (fun _ _ _ _ _ _ us hl => match us, hl with | [_], _ => rfl) ?da6 ?dl6 ?dc6 ?dk6) ?_
      (case da6 => k_is); (case dl6 => k_is); (case dc6 => k_is); (case dk6 => k_is)
      refine' DefsOk.cons (def_mk KX G ⟨rfl, rfl, rfl, by decide +kernel, rfl, by decide +kernel, by decide +kernel⟩ (fun _ _ _ _ _ _ us hl => match us, hl with | [_], _ => rfl) ?da7 ?dl7 ?dc7 ?dk7) ?_
      (case da7 => k_is); (case dl7 => k_is); (case dc7 => k_is); (case dk7 => k_is)
      refine' DefsOk.cons (def_mk KX G ⟨rfl, rfl, rfl, by decide +kernel, rfl, by decide +kernel, by decide +kernel⟩ (fun _ _ _ _ _ _ us hl => match us, hl with | [_, _], _ => rfl) ?da8 ?dl8 ?dc8 ?dk8) ?_
      (case da8 => k_is); (case dl8 => k_is); (case dc8 => k_is); (case dk8 => k_is)
      refine' DefsOk.cons (def_mk KX G ⟨rfl, rfl, rfl, by decide +kernel, rfl, by decide +kernel, by decide +kernel⟩ (fun _ _ _ _ _ _ us hl => match us, hl with | [_, _], _ => rfl) ?da9 ?dl9 ?dc9 ?dk9) ?_
      (case da9 => k_is); (case dl9 => k_is); (case dc9 => k_is); (case dk9 => k_is)
      refine' DefsOk.cons (def_mk KX G ⟨rfl, rfl, rfl, by decide +kernel, rfl, by decide +kernel, by decide +kernel⟩ (fun _ _ _ _ _ _ us hl => match us, hl with | [_, _], _ => rfl) ?da10 ?dl10 ?dc10 ?dk10) ?_
      (case da10 => k_is); (case dl10 => k_is); (case dc10 => k_is); (case dk10 => k_is)
      refine' DefsOk.cons (def_mk KX G ⟨rfl, rfl, rfl, by decide +kernel, rfl, by decide +kernel, by decide +kernel⟩ (fun _ _ _ _ _ _ us hl => match us, hl with | [_, _], _ => rfl) ?da11 ?dl11 ?dc11 ?dk11) ?_
      (case da11 => k_is); (case dl11 => k_is); (case dc11 => k_is); (case dk11 => k_is)
      refine' DefsOk.cons (def_mk KX G ⟨rfl, rfl, rfl, by decide +kernel, rfl, by decide +kernel, by decide +kernel⟩ (fun _ _ _ _ _ _ us hl => match us, hl with | [_, _], _ => rfl) ?da12 ?dl12 ?dc12 ?dk12) ?_
      (case da12 => k_is); (case dl12 => k_is); (case dc12 => k_is); (case dk12 => k_is)
      refine' DefsOk.cons (def_mk KX G ⟨rfl, rfl, rfl, by decide +kernel, rfl, by decide +kernel, by decide +kernel⟩ (fun _ _ _ _ _ _ us hl => match us, hl with | [_, _], _ => rfl) ?da13 ?dl13 ?dc13 ?dk13) ?_
      (case da13 => k_is); (case dl13 => k_is); (case dc13 => k_is); (case dk13 => k_is)
      refine' DefsOk.cons (def_mk KX G ⟨rfl, rfl, rfl, by decide +kernel, rfl, by decide +kernel, by decide +kernel⟩ (fun _ _ _ _ _ _ us hl => match us, hl with | [_, _, _], _ => rfl) ?da14 ?dl14 ?dc14 ?dk14) ?_
      (case da14 => k_is); (case dl14 => k_is); (case dc14 => k_is); (case dk14 => k_is)
      refine' DefsOk.cons (def_mk KX G ⟨rfl, rfl, rfl, by decide +kernel, rfl, by decide +kernel, by decide +kernel⟩ (fun _ _ _ _ _ _ us hl => match us, hl with | [_, _], _ => rfl) ?da15 ?dl15 ?dc15 ?dk15) ?_
      (case da15 => k_is); (case dl15 => k_is); (case dc15 => k_is); (case dk15 => k_is)
      refine' DefsOk.cons (def_mk KX G ⟨rfl, rfl, rfl, by decide +kernel, rfl, by decide +kernel, by decide +kernel⟩ (fun _ _ _ _ _ _ us hl => match us, hl with | [_, _, _], _ => rfl) ?da16 ?dl16 ?dc16 ?dk16) ?_
      (case da16 => k_is); (case dl16 => k_is); (case dc16 => k_is); (case dk16 => k_is)
      refine' DefsOk.cons (def_mk KX G ⟨rfl, rfl, rfl, by decide +kernel, rfl, by decide +kernel, by decide +kernel⟩ (fun _ _ _ _ _ _ us hl => match us, hl with | [_, _], _ => rfl) ?da17 ?dl17 ?dc17 ?dk17) ?_
      (case da17 => k_is); (case dl17 => k_is); (case dc17 => k_is); (case dk17 => k_is)
      refine' DefsOk.cons (def_mk KX G ⟨rfl, rfl, rfl, by decide +kernel, rfl, by decide +kernel, by decide +kernel⟩ (fun _ _ _ _ _ _ us hl => match us, hl with | [_, _, _], _ => rfl) ?da18 ?dl18 ?dc18 ?dk18) ?_
      (case da18 => k_is); (case dl18 => k_is); (case dc18 => k_is); (case dk18 => k_is)
      refine' DefsOk.cons (def_mk KX G ⟨rfl, rfl, rfl, by decide +kernel, rfl, by decide +kernel, by decide +kernel⟩ (fun _ _ _ _ _ _ us hl => match us, hl with | [_], _ => rfl) ?da19 ?dl19 ?dc19 ?dk19) ?_
      (case da19 => k_is); (case dl19 => k_is); (case dc19 => k_is); (case dk19 => k_is)
      refine' DefsOk.cons (def_mk KX G ⟨rfl, rfl, rfl, by decide +kernel, rfl, by decide +kernel, by decide +kernel⟩ (fun _ _ _ _ _ _ us hl => match us, hl with | [_, _], _ => rfl) ?da20 ?dl20 ?dc20 ?dk20) ?_
      (case da20 => k_is); (case dl20 => k_is); (case dc20 => k_is); (case dk20 => k_is)
      refine' DefsOk.cons (def_mk KX G ⟨rfl, rfl, rfl, by decide +kernel, rfl, by decide +kernel, by decide +kernel⟩ (fun _ _ _ _ _ _ us hl => match us, hl with | [_, _], _ => rfl) ?da21 ?dl21 ?dc21 ?dk21) ?_
      (case da21 => k_is); (case dl21 => k_is); (case dc21 => k_is); (case dk21 => k_is)
      refine' DefsOk.cons (def_mk KX G ⟨rfl, rfl, rfl, by decide +kernel, rfl, by decide +kernel, by decide +kernel⟩ (fun _ _ _ _ _ _ us hl => match us, hl with | [_, _], _ => rfl) ?da22 ?dl22 ?dc22 ?dk22) ?_
      (case da22 => k_is); (case dl22 => k_is); (case dc22 => k_is); (case dk22 => k_is)
      refine' DefsOk.cons (def_mk KX G ⟨rfl, rfl, rfl, by decide +kernel, rfl, by decide +kernel, by decide +kernel⟩ (fun _ _ _ _ _ _ us hl => match us, hl with | [_, _], _ => rfl) ?da23 ?dl23 ?dc23 ?dk23) ?_
      (case da23 => k_is); (case dl23 => k_is); (case dc23 => k_is); (case dk23 => k_is)
      refine' DefsOk.cons (def_mk KX G ⟨rfl, rfl, rfl, by decide +kernel, rfl, by decide +kernel, by decide +kernel⟩ (fun _ _ _ _ _ _ us hl => match us, hl with | [_], _ => rfl) ?da24 ?dl24 ?dc24 ?dk24) ?_
      (case da24 => k_is); (case dl24 => k_is); (case dc24 => k_is); (case dk24 => k_is)
      refine' DefsOk.cons (def_mk KX G ⟨rfl, rfl, rfl, by decide +kernel, rfl, by decide +kernel, by decide +kernel⟩ (fun _ _ _ _ _ _ us hl => match us, hl with | [_, _, _, _], _ => rfl) ?da25 ?dl25 ?dc25 ?dk25) ?_
      (case da25 => k_is); (case dl25 => k_is); (case dc25 => k_is); (case dk25 => k_is)
      refine' DefsOk.cons (def_mk KX G ⟨rfl, rfl, rfl, by decide +kernel, rfl, by decide +kernel, by decide +kernel⟩ (fun _ _ _ _ _ _ us hl => match us, hl with | [_, _], _ => rfl) ?da26 ?dl26 ?dc26 ?dk26) ?_
      (case da26 => k_is); (case dl26 => k_is); (case dc26 => k_is); (case dk26 => k_is)
      refine' DefsOk.cons (def_mk KX G ⟨rfl, rfl, rfl, by decide +kernel, rfl, by decide +kernel, by decide +kernel⟩ (fun _ _ _ _ _ _ us hl => match us, hl with | [_, _], _ => rfl) ?da27 ?dl27 ?dc27 ?dk27) ?_
      (case da27 => k_is); (case dl27 => k_is); (case dc27 => k_is); (case dk27 => k_is)
      refine' DefsOk.cons (def_mk KX G ⟨rfl, rfl, rfl, by decide +kernel, rfl, by decide +kernel, by decide +kernel⟩ (fun _ _ _ _ _ _ us hl => match us, hl with | [], _ => rfl) ?da28 ?dl28 ?dc28 ?dk28) ?_
      (case da28 => k_is); (case dl28 => k_is); (case dc28 => k_is); (case dk28 => k_is)
      refine' DefsOk.cons (def_mk KX G ⟨rfl, rfl, rfl, by decide +kernel, rfl, by decide +kernel, by decide +kernel⟩ (fun _ _ _ _ _ _ us hl => match us, hl with | [_], _ => rfl) ?da29 ?dl29 ?dc29 ?dk29) ?_
      (case da29 => k_is); (case dl29 => k_is); (case dc29 => k_is); (case dk29 => k_is)
      exact .nil
    case c =>
      refine' Ev.const_int KX G ?ca30 ?_
      (case ca30 => k_is)
      refine' Ev.const_int KX G ?ca31 ?_
      (case ca31 => k_is)
      refine' Ev.const_int KX G ?ca32 ?_
      (case ca32 => k_is)
      refine' Ev.const_int KX G ?ca33 ?_
      (case ca33 => k_is)
      exact .nil
    case e =>
      refine' ExcsOk.cons ⟨PySem.W.mg_of KX G ?ea34, ?ex34, ?ek34, ?es34, ?et34⟩ ?_
      (case ea34 => k_is); (case ex34 => k_exc); (case ek34 => k_is); (case es34 => k_is); (case et34 => k_is)
      refine' ExcsOk.cons ⟨PySem.W.mg_of KX G ?ea35, ?ex35, ?ek35, ?es35, ?et35⟩ ?_
      (case ea35 => k_is); (case ex35 => k_exc); (case ek35 => k_is); (case es35 => k_is); (case et35 => k_is)
      refine' ExcsOk.cons ⟨PySem.W.mg_of KX G ?ea36, ?ex36, ?ek36, ?es36, ?et36⟩ ?_
      (case ea36 => k_is); (case ex36 => k_exc); (case ek36 => k_is); (case es36 => k_is); (case et36 => k_is)
      exact .nil
    case b =>
      unfold Ev.bltNames
      refine' NonesOk.cons (PySem.W.mg_none_of KX G ?ba37) ?_
      (case ba37 => k_is)
      refine' NonesOk.cons (PySem.W.mg_none_of KX G ?ba38) ?_
      (case ba38 => k_is)
      refine' NonesOk.cons (PySem.W.mg_none_of KX G ?ba39) ?_
      (case ba39 => k_is)
      refine' NonesOk.cons (PySem.W.mg_none_of KX G ?ba40) ?_
      (case ba40 => k_is)
      refine' NonesOk.cons (PySem.W.mg_none_of KX G ?ba41) ?_
      (case ba41 => k_is)
      refine' NonesOk.cons (PySem.W.mg_none_of KX G ?ba42) ?_
      (case ba42 => k_is)
      refine' NonesOk.cons (PySem.W.mg_none_of KX G ?ba43) ?_
      (case ba43 => k_is)
      refine' NonesOk.cons (PySem.W.mg_none_of KX G ?ba44) ?_
      (case ba44 => k_is)
      refine' NonesOk.cons (PySem.W.mg_none_of KX G ?ba45) ?_
      (case ba45 => k_is)
      refine' NonesOk.cons (PySem.W.mg_none_of KX G ?ba46) ?_
      (case ba46 => k_is)
      refine' NonesOk.cons (PySem.W.mg_none_of KX G ?ba47) ?_
      (case ba47 => k_is)
      refine' NonesOk.cons (PySem.W.mg_none_of KX G ?ba48) ?_
      (case ba48 => k_is)
      refine' NonesOk.cons (PySem.W.mg_none_of KX G ?ba49) ?_
      (case ba49 => k_is)
      refine' NonesOk.cons (PySem.W.mg_none_of KX G ?ba50) ?_
      (case ba50 => k_is)
      refine' NonesOk.cons (PySem.W.mg_none_of KX G ?ba51) ?_
      (case ba51 => k_is)
      refine' NonesOk.cons (PySem.W.mg_none_of KX G ?ba52) ?_
      (case ba52 => k_is)
      refine' NonesOk.cons (PySem.W.mg_none_of KX G ?ba53) ?_
      (case ba53 => k_is)
      refine' NonesOk.cons (PySem.W.mg_none_of KX G ?ba54) ?_
      (case ba54 => k_is)
      exact .nil
