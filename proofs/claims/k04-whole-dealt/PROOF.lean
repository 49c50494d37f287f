import PyProof.Rows.All
import Wide.All
import OpenK.AllK
import Wide.FinOn
import HandS.ForMost
import HandS.ForExc
import HandS.Wide
import HandS.Steps
import HandS.IsInst
import HandS.EndBits
import HandS.ExcIs
import HandS.ExcField
import KE.KExcIs
import HandS.ClsMeth
import HandS.ExcInit
import HandS.TupSets
import HandS.SortInts
import HandS.AnyAll
import HandS.More
import HandS.Style
import HandS.New
import KE.SortData
import HandS.DeepEq
import HandS.OwnIter
import KE.SortKeyHeap
import HandS.SortKw
import HandS.TupLe
import HandS.SetFor
import KE.DataFind
import PySem.Challenge.RW_lotledger_k04_whole_dealt
set_option Elab.async false
set_option linter.all false
set_option maxRecDepth 100000
/-! Mir1: data without addresses, what it stands for in an abstract heap, results of runs. -/
namespace Mir
open PySem PySem.Spec PyProof.Rows L2

/-- data as a tree: frozen things; ref: a cell of the store -/
inductive D where
  | non | bl (b : Bool) | int (i : Int) | str (x : Str)
  | tup (xs : List D) | lst (xs : List D) | dct (kvs : List (Key × D))
  | ins (c : Nat) (fs : List (Str × D)) | ref (n : Nat) | scr (ns : List Int)
/-- what may be changed -/
inductive SO where
  | lst (xs : List D) | dct (kvs : List (Key × D)) | ins (c : Nat) (fs : List (Str × D))
/-- a value at hand: frozen data, or a thing that none else knows; xc: in a slot, the error that was caught -/
inductive Wv where
  | fz (d : D) | ow (o : SO) | xc
abbrev SV := List (Option V)
abbrev Store := List SO
/-- an exception: its class, its one field (an int) -/
abbrev Xn := Nat × Option (Str × Int)
inductive R (α : Type) where
  | ok (a : α) (S : Store) | ex (x : Xn) (S : Store) | bad
abbrev M (α : Type) := Store → R α
abbrev Env := List (Option Wv)
inductive RS where
  | nx (ds : Env) (S : Store) | rt (w : Wv) (S : Store) | bk (ds : Env) (S : Store) | ct (ds : Env) (S : Store) | ex (x : Xn) (ds : Env) (S : Store) | bad
abbrev CE := Env → M Wv
abbrev CS := Env → Store → RS

/-- what of the text the relations hang on: the written part, the classes' addresses -/
structure Tx where
  K : PySem.W.Frag
  cls : Nat → Addr
  /-- within an except suite: the error's address, what is known of its dict -/
  xa : Addr := 0
  lean : Addr → HO → Prop := fun _ _ => False
/-- ghosts: the store's addresses; all that is not frozen -/
structure Gh where
  io : List Addr
  L : Addr → Prop

def KL (K : PySem.W.Frag) (a : Addr) (xs : List V) : Prop := ∃ (o : Obj) (its : Array Value) (n : Nat), K.lookup a = some o ∧ o.cls = .type "list" ∧ o.dict = none ∧ o.data = .seq its n ∧ its.size ≤ sizeLine ∧ Vals xs its.toList
def FzL (K : PySem.W.Frag) (g : Gh) (H : Hp) (a : Addr) (xs : List V) : Prop := (Rd H a (.lst xs) ∧ ¬ g.L a) ∨ KL K a xs

mutual
inductive Rep (T : Tx) (g : Gh) (H : Hp) : D → V → Prop
  | non : Rep T g H .non .non
  | bl (b : Bool) : Rep T g H (.bl b) (.bl b)
  | int (i : Int) : Rep T g H (.int i) (.int i)
  | str (x : Str) : Rep T g H (.str x) (.str x)
  | tup {a : Addr} {ds : List D} {vs : List V} : H a = some (.tup vs) → ¬ g.L a → Reps T g H ds vs → Rep T g H (.tup ds) (.ref a)
  | lst {a : Addr} {ds : List D} {vs : List V} : H a = some (.lst vs) → ¬ g.L a → Reps T g H ds vs → Rep T g H (.lst ds) (.ref a)
  | scr {a : Addr} {ns : List Int} : FzL T.K g H a (ns.map V.int) → Rep T g H (.scr ns) (.ref a)
  | dct {a : Addr} {ds : List (Key × D)} {vs : List (Key × V)} : H a = some (.dK vs) → ¬ g.L a → RepK T g H ds vs → Rep T g H (.dct ds) (.ref a)
  | ins {a dx : Addr} {c : Nat} {ds : List (Str × D)} {vs : List (Str × V)} : H a = some (.ins (T.cls c) dx vs) → ¬ g.L a → RepF T g H ds vs → Rep T g H (.ins c ds) (.ref a)
  | ref {n : Nat} {a : Addr} : g.io[n]? = some a → Rep T g H (.ref n) (.ref a)
inductive Reps (T : Tx) (g : Gh) (H : Hp) : List D → List V → Prop
  | nil : Reps T g H [] []
  | cons {d : D} {v : V} {ds : List D} {vs : List V} : Rep T g H d v → Reps T g H ds vs → Reps T g H (d :: ds) (v :: vs)
inductive RepK (T : Tx) (g : Gh) (H : Hp) : List (Key × D) → List (Key × V) → Prop
  | nil : RepK T g H [] []
  | cons {k : Key} {d : D} {v : V} {ds : List (Key × D)} {vs : List (Key × V)} : Rep T g H d v → RepK T g H ds vs → RepK T g H ((k, d) :: ds) ((k, v) :: vs)
inductive RepF (T : Tx) (g : Gh) (H : Hp) : List (Str × D) → List (Str × V) → Prop
  | nil : RepF T g H [] []
  | cons {k : Str} {d : D} {v : V} {ds : List (Str × D)} {vs : List (Str × V)} : Rep T g H d v → RepF T g H ds vs → RepF T g H ((k, d) :: ds) ((k, v) :: vs)
end

/-- frozen things stay -/
structure Fix (g : Gh) (H : Hp) (g' : Gh) (H' : Hp) : Prop where
  pre : ∃ t, g'.io = g.io ++ t
  kp : ∀ a o, H a = some o → ¬ g.L a → H' a = some o ∧ ¬ g'.L a
theorem Fix.refl (g : Gh) (H : Hp) : Fix g H g H := ⟨⟨[], by simp⟩, fun _ _ h n => ⟨h, n⟩⟩
theorem Fix.trans {g g' g'' : Gh} {H H' H'' : Hp} (a : Fix g H g' H') (b : Fix g' H' g'' H'') : Fix g H g'' H'' := by
  refine ⟨?_, fun x o h n => ?_⟩
  · obtain ⟨t, e⟩ := a.pre
    obtain ⟨u, e'⟩ := b.pre
    exact ⟨t ++ u, by rw [e', e, List.append_assoc]⟩
  · obtain ⟨h1, n1⟩ := a.kp x o h n
    exact b.kp x o h1 n1
theorem Fix.io {g g' : Gh} {H H' : Hp} (f : Fix g H g' H') {n : Nat} {a : Addr} (h : g.io[n]? = some a) : g'.io[n]? = some a := by
  obtain ⟨t, e⟩ := f.pre
  rw [e, List.getElem?_append_left]
  · exact h
  · exact (List.getElem?_eq_some_iff.mp h).1
section
variable {T : Tx} {g g' : Gh} {H H' : Hp}
theorem Fix.rd (f : Fix g H g' H') {a : Addr} {u : HO} (h : Rd H a u) (n : ¬ g.L a) : Rd H' a u ∧ ¬ g'.L a := by
  rcases h with h | ⟨o, h⟩
  · exact ⟨.inl (f.kp _ _ h n).1, (f.kp _ _ h n).2⟩
  · exact ⟨.inr ⟨o, (f.kp _ _ h n).1⟩, (f.kp _ _ h n).2⟩
theorem Fix.fzl (f : Fix g H g' H') {a : Addr} {xs : List V} (h : FzL T.K g H a xs) : FzL T.K g' H' a xs := by
  rcases h with ⟨h, n⟩ | h
  · exact .inl (f.rd h n)
  · exact .inr h
mutual
theorem Rep.fix (f : Fix g H g' H') : ∀ {d : D} {v : V}, Rep T g H d v → Rep T g' H' d v
  | _, _, .non => .non
  | _, _, .bl b => .bl b
  | _, _, .int i => .int i
  | _, _, .str x => .str x
  | _, _, .tup h n r => .tup (f.kp _ _ h n).1 (f.kp _ _ h n).2 (Reps.fix f r)
  | _, _, .lst h n r => .lst (f.kp _ _ h n).1 (f.kp _ _ h n).2 (Reps.fix f r)
  | _, _, .scr h => .scr (f.fzl h)
  | _, _, .dct h n r => .dct (f.kp _ _ h n).1 (f.kp _ _ h n).2 (RepK.fix f r)
  | _, _, .ins h n r => .ins (f.kp _ _ h n).1 (f.kp _ _ h n).2 (RepF.fix f r)
  | _, _, .ref h => .ref (f.io h)
theorem Reps.fix (f : Fix g H g' H') : ∀ {ds : List D} {vs : List V}, Reps T g H ds vs → Reps T g' H' ds vs
  | _, _, .nil => .nil
  | _, _, .cons h r => .cons (Rep.fix f h) (Reps.fix f r)
theorem RepK.fix (f : Fix g H g' H') : ∀ {ds : List (Key × D)} {vs : List (Key × V)}, RepK T g H ds vs → RepK T g' H' ds vs
  | _, _, .nil => .nil
  | _, _, .cons h r => .cons (Rep.fix f h) (RepK.fix f r)
theorem RepF.fix (f : Fix g H g' H') : ∀ {ds : List (Str × D)} {vs : List (Str × V)}, RepF T g H ds vs → RepF T g' H' ds vs
  | _, _, .nil => .nil
  | _, _, .cons h r => .cons (Rep.fix f h) (RepF.fix f r)
end
end

/-- what an object of the store holds -/
inductive RepO (T : Tx) (g : Gh) (H : Hp) : SO → HO → Prop
  | lst {ds : List D} {vs : List V} : Reps T g H ds vs → RepO T g H (.lst ds) (.lst vs)
  | dct {ds : List (Key × D)} {vs : List (Key × V)} : RepK T g H ds vs → RepO T g H (.dct ds) (.dK vs)
  | ins {c : Nat} {dx : Addr} {ds : List (Str × D)} {vs : List (Str × V)} : RepF T g H ds vs → RepO T g H (.ins c ds) (.ins (T.cls c) dx vs)
theorem RepO.fix {T : Tx} {g g' : Gh} {H H' : Hp} (f : Fix g H g' H') {o : SO} {ho : HO} (r : RepO T g H o ho) : RepO T g' H' o ho := by
  cases r with
  | lst r => exact .lst (r.fix f)
  | dct r => exact .dct (r.fix f)
  | ins r => exact .ins (r.fix f)
structure RelS (T : Tx) (g : Gh) (S : Store) (H : Hp) : Prop where
  len : g.io.length = S.length
  nd : g.io.Nodup
  liv : ∀ a, a ∈ g.io → g.L a
  obj : ∀ (n : Nat) (o : SO) (a : Addr), S[n]? = some o → g.io[n]? = some a → ∃ ho, H a = some ho ∧ RepO T g H o ho
/-- how a call leaves what was there -/
structure Ext (g : Gh) (H : Hp) (g' : Gh) (H' : Hp) : Prop where
  pre : ∃ t, g'.io = g.io ++ t
  trk : ∀ a o, H a = some o → ∃ o', H' a = some o'
  liv : ∀ a o, H a = some o → (g'.L a ↔ g.L a)
  kp : ∀ a o, H a = some o → a ∉ g.io → H' a = some o ∧ a ∉ g'.io
theorem Ext.refl (g : Gh) (H : Hp) : Ext g H g H := ⟨⟨[], by simp⟩, fun _ o h => ⟨o, h⟩, fun _ _ _ => Iff.rfl, fun _ _ h n => ⟨h, n⟩⟩
theorem Ext.trans {g g' g'' : Gh} {H H' H'' : Hp} (a : Ext g H g' H') (b : Ext g' H' g'' H'') : Ext g H g'' H'' := by
  refine ⟨?_, fun x o h => ?_, fun x o h => ?_, fun x o h n => ?_⟩
  · obtain ⟨t, e⟩ := a.pre
    obtain ⟨u, e'⟩ := b.pre
    exact ⟨t ++ u, by rw [e', e, List.append_assoc]⟩
  · obtain ⟨o', h'⟩ := a.trk x o h
    exact b.trk x o' h'
  · obtain ⟨o', h'⟩ := a.trk x o h
    exact (b.liv x o' h').trans (a.liv x o h)
  · obtain ⟨h1, n1⟩ := a.kp x o h n
    exact b.kp x o h1 n1
theorem Ext.fix {T : Tx} {g g' : Gh} {S : Store} {H H' : Hp} (e : Ext g H g' H') (r : RelS T g S H) : Fix g H g' H' :=
  ⟨e.pre, fun a o h n => ⟨(e.kp a o h fun z => n (r.liv a z)).1, fun z => n ((e.liv a o h).mp z)⟩⟩
theorem Ext.free {g g' : Gh} {H H' : Hp} (e : Ext g H g' H') {a : Addr} (h : H' a = none) : H a = none := by
  cases q : H a with
  | none => rfl
  | some o =>
    obtain ⟨o', h'⟩ := e.trk a o q
    rw [h] at h'; cases h'

/-- a thing that the frame alone knows -/
structure Own (T : Tx) (H0 : Hp) (g : Gh) (H : Hp) (so : SO) (a : Addr) : Prop where
  new : H0 a = none
  liv : g.L a
  nio : a ∉ g.io
  obj : ∃ ho, H a = some ho ∧ RepO T g H so ho
def RepW (T : Tx) (H0 : Hp) (g : Gh) (H : Hp) : Wv → V → Prop
  | .fz d, v => Rep T g H d v
  | .ow so, v => ∃ a, v = .ref a ∧ Own T H0 g H so a
  | .xc, _ => False
def RepX (T : Tx) (g : Gh) (H : Hp) (x : Xn) (cls : Value) (dx : Option Addr) : Prop :=
  cls = .ref (T.cls x.1) ∧ match x.2 with
    | none => dx = none
    | some (f, i) => ∃ a, dx = some a ∧ H a = some (.xd [(f, .int i)]) ∧ ¬ g.L a
structure EnvR (T : Tx) (H0 : Hp) (g : Gh) (H : Hp) (ds : Env) (σ : SV) : Prop where
  len : ds.length = σ.length
  fz : ∀ (i : Nat) (d : D), ds[i]? = some (some (.fz d)) → ∃ v, σ[i]? = some (some v) ∧ Rep T g H d v
  ow : ∀ (i : Nat) (so : SO), ds[i]? = some (some (.ow so)) → ∃ a, σ[i]? = some (some (.ref a)) ∧ Own T H0 g H so a
  ne : ∀ (i j : Nat) (so so' : SO) (a : Addr), i ≠ j → ds[i]? = some (some (.ow so)) → ds[j]? = some (some (.ow so')) → σ[i]? = some (some (.ref a)) → σ[j]? = some (some (.ref a)) → False
  xc : ∀ (i : Nat), ds[i]? = some (some .xc) → σ[i]? = some (some (.ref T.xa))
theorem Own.ext {T : Tx} {H0 : Hp} {g g' : Gh} {H H' : Hp} {S : Store} {so : SO} {a : Addr} (o : Own T H0 g H so a) (e : Ext g H g' H') (r : RelS T g S H) : Own T H0 g' H' so a := by
  obtain ⟨ho, h, p⟩ := o.obj
  exact ⟨o.new, (e.liv a ho h).mpr o.liv, (e.kp a ho h o.nio).2, ho, (e.kp a ho h o.nio).1, p.fix (e.fix r)⟩
theorem EnvR.ext {T : Tx} {H0 : Hp} {g g' : Gh} {H H' : Hp} {S : Store} {ds : Env} {σ : SV} (v : EnvR T H0 g H ds σ) (e : Ext g H g' H') (r : RelS T g S H) : EnvR T H0 g' H' ds σ := by
  refine ⟨v.len, fun i d h => ?_, fun i so h => ?_, v.ne, v.xc⟩
  · obtain ⟨x, hx, rx⟩ := v.fz i d h
    exact ⟨x, hx, rx.fix (e.fix r)⟩
  · obtain ⟨a, ha, oa⟩ := v.ow i so h
    exact ⟨a, ha, oa.ext e r⟩
/-- what a loop leans on: frozen things at its start, the store's addresses then -/
structure Chk where
  fz : Addr → HO → Prop
  io : List Addr
/-- a frame at work: entry g0 H0, what is leant on c, now -/
structure FR (T : Tx) (g0 : Gh) (H0 : Hp) (c : Chk) (g : Gh) (H : Hp) (S : Store) (ds : Env) (σ : SV) : Prop where
  ext : Ext g0 H0 g H
  st : RelS T g S H
  env : EnvR T H0 g H ds σ
  fz : ∀ a o, c.fz a o → H a = some o ∧ ¬ g.L a
  io : ∃ t, g.io = c.io ++ t
  ln : ∀ a o, T.lean a o → H a = some o ∧ ¬ g.L a
theorem FR.on {T : Tx} {g0 g g' : Gh} {H0 H H' : Hp} {c : Chk} {S S' : Store} {ds : Env} {σ : SV} (f : FR T g0 H0 c g H S ds σ) (e : Ext g H g' H') (r : RelS T g' S' H') : FR T g0 H0 c g' H' S' ds σ := by
  refine ⟨f.ext.trans e, r, f.env.ext e f.st, fun a o h => ?_, ?_, fun a o h => (e.fix f.st).kp a o (f.ln a o h).1 (f.ln a o h).2⟩
  · obtain ⟨h1, n1⟩ := f.fz a o h
    exact (e.fix f.st).kp a o h1 n1
  · obtain ⟨t, h1⟩ := f.io
    obtain ⟨u, h2⟩ := e.pre
    exact ⟨t ++ u, by rw [h2, h1, List.append_assoc]⟩
/-- with another set of things leant on -/
theorem FR.chk {T : Tx} {g0 g : Gh} {H0 H : Hp} {c c' : Chk} {S : Store} {ds : Env} {σ : SV} (f : FR T g0 H0 c g H S ds σ) (h : ∀ a o, c'.fz a o → H a = some o ∧ ¬ g.L a) (i : ∃ t, g.io = c'.io ++ t) : FR T g0 H0 c' g H S ds σ :=
  ⟨f.ext, f.st, f.env, h, i, f.ln⟩

/-! ### what is wanted behind -/
def RepB (T : Tx) (g : Gh) (H : Hp) : Wv → V → Prop
  | .fz d, v => Rep T g H d v
  | .ow so, v => ∃ a ho, v = .ref a ∧ a ∉ g.io ∧ H a = some ho ∧ RepO T g H so ho
  | .xc, _ => False
abbrev Rl (α β : Type) := Hp → Gh → Hp → α → β → Prop
abbrev RW (T : Tx) : Rl Wv V := RepW T
abbrev RB (T : Tx) : Rl Wv V := fun _ => RepB T
abbrev RD (T : Tx) : Rl D V := fun _ => Rep T
abbrev RA (T : Tx) : Rl (List D) (List V) := fun _ => Reps T
abbrev RT : Rl Bool Bool := fun _ _ _ a b => a = b
def Mono {α β : Type} (r : Rl α β) : Prop := ∀ H H2 g' H' w v, (∀ a, H2 a = none → H a = none) → r H2 g' H' w v → r H g' H' w v
theorem mono_w {T : Tx} : Mono (RW T) := fun H H2 g' H' w v h r => by
  cases w with
  | fz d => exact r
  | ow so =>
    obtain ⟨a, e, o⟩ := r
    exact ⟨a, e, h a o.new, o.liv, o.nio, o.obj⟩
  | xc => exact r
theorem mono_b {T : Tx} : Mono (RB T) := fun _ _ _ _ _ _ _ r => r
theorem mono_d {T : Tx} : Mono (RD T) := fun _ _ _ _ _ _ _ r => r
theorem mono_a {T : Tx} : Mono (RA T) := fun _ _ _ _ _ _ _ r => r
theorem mono_t : Mono RT := fun _ _ _ _ _ _ _ r => r
def PostG {α β : Type} (T : Tx) (Wx : WX) (r : Gh → Hp → α → β → Prop) (g : Gh) (H : Hp) (σ : SV) (Q : β → Hp → Prop) : R α → Prop
  | .ok w S' => ∀ g' H' v, Ext g H g' H' → RelS T g' S' H' → r g' H' w v → Q v H'
  | .ex x S' => ∀ g' H' cls dx, Ext g H g' H' → RelS T g' S' H' → RepX T g' H' x cls dx → Wx cls dx σ H'
  | .bad => False
def tG {α β : Type} (T : Tx) (Wx : WX) (r : Rl α β) (f : Env → M α) : SV → Hp → (β → Hp → Prop) → Prop := fun σ H Q =>
  ∃ g0 H0 c g S ds, FR T g0 H0 c g H S ds σ ∧ PostG T Wx (r H) g H σ Q (f ds S)
def PostS (T : Tx) (Wx : WX) (g0 : Gh) (H0 : Hp) (c : Chk) (D' : Ends) : RS → Prop
  | .nx ds S => ∀ g H σ, FR T g0 H0 c g H S ds σ → D'.nx σ H
  | .bk ds S => ∀ g H σ, FR T g0 H0 c g H S ds σ → D'.bk σ H
  | .ct ds S => ∀ g H σ, FR T g0 H0 c g H S ds σ → D'.ct σ H
  | .rt w S => ∀ g H v, Ext g0 H0 g H → RelS T g S H → RepW T H0 g H w v → D'.rt v H
  | .ex x ds S => ∀ g H σ cls dx, FR T g0 H0 c g H S ds σ → RepX T g H x cls dx → Wx cls dx σ H
  | .bad => False
def tS (T : Tx) (Wx : WX) (f : CS) : TS := fun D' σ H => ∃ g0 H0 c g S ds, FR T g0 H0 c g H S ds σ ∧ PostS T Wx g0 H0 c D' (f ds S)
/-- e does f: as a value (perhaps a new thing), as a value that is but looked at, as frozen data; arguments; tests -/
def JE (T : Tx) (Wx : WX) (X : Cx) (e : Expr) (f : CE) : Prop := PE X e (tG T Wx (RW T) f)
def JB (T : Tx) (Wx : WX) (X : Cx) (e : Expr) (f : CE) : Prop := PE X e (tG T Wx (RB T) f)
def JD (T : Tx) (Wx : WX) (X : Cx) (e : Expr) (f : Env → M D) : Prop := PE X e (tG T Wx (RD T) f)
def JA (T : Tx) (Wx : WX) (X : Cx) (es : List Expr) (f : Env → M (List D)) : Prop := PA X es (tG T Wx (RA T) f)
def JT (T : Tx) (Wx : WX) (X : Cx) (e : Expr) (f : Env → M Bool) : Prop := PT X e (tG T Wx RT f)
def JS (T : Tx) (Wx : WX) (X : Cx) (s : Stmt) (f : CS) : Prop := PS X s (tS T Wx f)
def JSs (T : Tx) (Wx : WX) (X : Cx) (s : List Stmt) (f : CS) : Prop := PSs X s (tS T Wx f)
section
variable {X : Cx}
theorem PE.imp {e : Expr} {t t' : TE} (h : PE X e t) (i : ∀ σ H Q, t' σ H Q → t σ H Q) : PE X e t' := ⟨fun pins s σ H Q I q => h.run pins s σ H Q I (i σ H Q q)⟩
theorem PT.imp {e : Expr} {t t' : TT} (h : PT X e t) (i : ∀ σ H Q, t' σ H Q → t σ H Q) : PT X e t' := ⟨fun pins s σ H Q I q => h.run pins s σ H Q I (i σ H Q q)⟩
theorem PW.imp {e : Expr} {t t' : TT} (h : PW X e t) (i : ∀ σ H Q, t' σ H Q → t σ H Q) : PW X e t' := ⟨fun wh pins s σ H Q I q => h.run wh pins s σ H Q I (i σ H Q q)⟩
theorem PA.imp {e : List Expr} {t t' : TA} (h : PA X e t) (i : ∀ σ H Q, t' σ H Q → t σ H Q) : PA X e t' := ⟨fun pos pins s σ H Q I q => h.run pos pins s σ H Q I (i σ H Q q)⟩
theorem PS.imp {e : Stmt} {t t' : TS} (h : PS X e t) (i : ∀ D σ H, t' D σ H → t D σ H) : PS X e t' := ⟨fun pins s σ H D I q => h.run pins s σ H D I (i D σ H q)⟩
theorem PSs.imp {e : List Stmt} {t t' : TS} (h : PSs X e t) (i : ∀ D σ H, t' D σ H → t D σ H) : PSs X e t' := ⟨fun pins s σ H D I q => h.run pins s σ H D I (i D σ H q)⟩
end
/-! ### binding -/
def bindR {α β : Type} (r : R α) (k : α → Store → R β) : R β := match r with
  | .ok a S => k a S
  | .ex x S => .ex x S
  | .bad => .bad
section
variable {T : Tx} {Wx : WX} {g0 g g2 : Gh} {H0 H H2 : Hp} {c : Chk} {S S2 : Store} {ds : Env} {σ : SV}
theorem PostG.from {α β : Type} {r : Rl α β} (m : Mono r) {Q : β → Hp → Prop} (e : Ext g H g2 H2) : ∀ {x : R α}, PostG T Wx (r H) g H σ Q x → PostG T Wx (r H2) g2 H2 σ Q x
  | .ok w S', h => fun g' H' v e' rs rv => h g' H' v (e.trans e') rs (m _ _ _ _ _ _ (fun _ q => e.free q) rv)
  | .ex x S', h => fun g' H' cls dx e' rs rx => h g' H' cls dx (e.trans e') rs rx
  | .bad, h => h
theorem PostG.bind {α β γ δ : Type} {r1 : Rl α β} {r2 : Rl γ δ} (m : Mono r2) (fr : FR T g0 H0 c g H S ds σ) {x : R α} {k : α → Store → R γ} {Q : δ → Hp → Prop} {Q' : β → Hp → Prop}
    (h : PostG T Wx (r2 H) g H σ Q (bindR x k))
    (hk : ∀ w S1 g1 H1 v, Ext g H g1 H1 → FR T g0 H0 c g1 H1 S1 ds σ → r1 H g1 H1 w v → PostG T Wx (r2 H1) g1 H1 σ Q (k w S1) → Q' v H1) : PostG T Wx (r1 H) g H σ Q' x := by
  cases x with
  | ok w S1 => exact fun g1 H1 v e rs rv => hk w S1 g1 H1 v e (fr.on e rs) rv (PostG.from m e h)
  | ex x S1 => exact h
  | bad => exact h
/-- one expression, then what is done with its value -/
theorem tG.bind {α β γ δ : Type} {r1 : Rl α β} {r2 : Rl γ δ} (m : Mono r2) {f : Env → M α} {k : α → Store → R γ} {Q : δ → Hp → Prop} {Q' : β → Hp → Prop} (fr : FR T g0 H0 c g H S ds σ)
    (h : PostG T Wx (r2 H) g H σ Q (bindR (f ds S) k))
    (hk : ∀ w S1 g1 H1 v, Ext g H g1 H1 → FR T g0 H0 c g1 H1 S1 ds σ → r1 H g1 H1 w v → PostG T Wx (r2 H1) g1 H1 σ Q (k w S1) → Q' v H1) : tG T Wx r1 f σ H Q' :=
  ⟨g0, H0, c, g, S, ds, fr, PostG.bind m fr h hk⟩
theorem RepW.ext {T : Tx} {Hs : Hp} {g g' : Gh} {H H' : Hp} {S : Store} {w : Wv} {v : V} (r : RepW T Hs g H w v) (e : Ext g H g' H') (s : RelS T g S H) : RepW T Hs g' H' w v := by
  cases w with
  | fz d => exact Rep.fix (e.fix s) r
  | ow so =>
    obtain ⟨a, ea, o⟩ := r
    exact ⟨a, ea, o.ext e s⟩
  | xc => exact r
theorem RepB.ext {T : Tx} {g g' : Gh} {H H' : Hp} {S : Store} {w : Wv} {v : V} (r : RepB T g H w v) (e : Ext g H g' H') (s : RelS T g S H) : RepB T g' H' w v := by
  cases w with
  | fz d => exact Rep.fix (e.fix s) r
  | ow so =>
    obtain ⟨a, ho, ea, n, h, p⟩ := r
    exact ⟨a, ho, ea, (e.kp a ho h n).2, (e.kp a ho h n).1, p.fix (e.fix s)⟩
  | xc => exact r
theorem RepW.b {T : Tx} {Hs : Hp} {g : Gh} {H : Hp} {w : Wv} {v : V} (r : RepW T Hs g H w v) : RepB T g H w v := by
  cases w with
  | fz d => exact r
  | ow so =>
    obtain ⟨a, ea, o⟩ := r
    obtain ⟨ho, h, p⟩ := o.obj
    exact ⟨a, ho, ea, o.nio, h, p⟩
  | xc => exact r
end
end Mir
set_option Elab.async false
set_option linter.all false
set_option maxRecDepth 100000
/-! Mir2: names, constants, operators, tests, displays. -/
namespace Mir
open PySem PySem.Spec PyProof.Rows L2

structure Lv (T : Tx) (Wx : WX) (X : Cx) : Prop where
  hK : X.K = T.K
  tk : Takes X Wx
  un : X.A.units + 200 < cLine
section
variable {T : Tx} {Wx : WX} {X : Cx} {e a b : Expr} {g g0 : Gh} {H H0 : Hp} {c : Chk} {S : Store} {ds : Env} {σ : SV}

theorem PostG.imp {α β : Type} {r r' : Gh → Hp → α → β → Prop} {Q : β → Hp → Prop} (h : ∀ g' H' w v, r' g' H' w v → r g' H' w v) : ∀ {x : R α}, PostG T Wx r g H σ Q x → PostG T Wx r' g H σ Q x
  | .ok _ _, p => fun g' H' v e rs rv => p g' H' v e rs (h _ _ _ _ rv)
  | .ex _ _, p => p
  | .bad, p => p
/-- done at once -/
theorem PostG.now {α β : Type} {r : Gh → Hp → α → β → Prop} {Q : β → Hp → Prop} {w : α} {v : β} (p : PostG T Wx r g H σ Q (.ok w S)) (rs : RelS T g S H) (rv : r g H w v) : Q v H := p g H v (Ext.refl g H) rs rv

/-! ### one kind of reading into another -/
def cUp (f : Env → M D) : CE := fun ds S => bindR (f ds S) fun d S => .ok (.fz d) S
def Wv.frz : Wv → D
  | .fz d => d
  | .ow (.lst xs) => .lst xs
  | .ow (.dct kvs) => .dct kvs
  | .ow (.ins c fs) => .ins c fs
  | .xc => .non
def cFz (f : CE) : Env → M D := fun ds S => bindR (f ds S) fun w S => .ok w.frz S
theorem jb_e {f : CE} (h : JE T Wx X e f) : JB T Wx X e f := PE.imp h fun σ H Q ⟨g0, H0, c, g, S, ds, fr, p⟩ => ⟨g0, H0, c, g, S, ds, fr, p.imp fun _ _ _ _ r => r.b⟩
theorem je_d {f : Env → M D} (h : JD T Wx X e f) : JE T Wx X e (cUp f) := PE.imp h fun σ H Q ⟨g0, H0, c, g, S, ds, fr, p⟩ => by
  refine tG.bind (r2 := RW T) mono_w fr p fun w S1 g1 H1 v e1 fr1 rv p1 => ?_
  exact p1.now fr1.st rv
theorem jb_d {f : Env → M D} (h : JD T Wx X e f) : JB T Wx X e (cUp f) := jb_e (je_d h)
/-- what none else knows is frozen -/
theorem freeze {T : Tx} {Hs : Hp} {g1 : Gh} {H1 : Hp} {S1 : Store} {w : Wv} {v : V} (rs : RelS T g1 S1 H1) (r : RepW T Hs g1 H1 w v) {g : Gh} (ex : Ext g Hs g1 H1) :
    ∃ g2, Ext g Hs g2 H1 ∧ RelS T g2 S1 H1 ∧ Rep T g2 H1 w.frz v := by
  cases w with
  | fz d => exact ⟨g1, ex, rs, r⟩
  | ow so =>
    obtain ⟨a, rfl, o⟩ := r
    obtain ⟨ho, h, p⟩ := o.obj
    have fx : Fix g1 H1 ⟨g1.io, fun b => g1.L b ∧ b ≠ a⟩ H1 := ⟨⟨[], by simp⟩, fun b o hb n => ⟨hb, fun z => n z.1⟩⟩
    refine ⟨⟨g1.io, fun b => g1.L b ∧ b ≠ a⟩, ⟨ex.pre, ex.trk, fun b u hb => ?_, ex.kp⟩, ⟨rs.len, rs.nd, fun b hb => ⟨rs.liv b hb, fun z => o.nio (z ▸ hb)⟩, fun n so' b h1 h2 => ?_⟩, ?_⟩
    · have nb : b ≠ a := fun z => by
        rw [z, o.new] at hb
        cases hb
      exact ⟨fun z => (ex.liv b u hb).mp z.1, fun z => ⟨(ex.liv b u hb).mpr z, nb⟩⟩
    · obtain ⟨ho', h3, p'⟩ := rs.obj n so' b h1 h2
      exact ⟨ho', h3, p'.fix fx⟩
    · have na : ¬ (g1.L a ∧ a ≠ a) := fun z => z.2 rfl
      have p2 := p.fix fx
      cases p2 with
      | lst r => exact .lst h na r
      | dct r => exact .dct h na r
      | ins r => exact .ins h na r
  | xc => exact r.elim
theorem jd_fz {f : CE} (h : JE T Wx X e f) : JD T Wx X e (cFz f) := PE.imp h fun σ H Q ⟨g0, H0, c, g, S, ds, fr, p⟩ => by
  refine ⟨g0, H0, c, g, S, ds, fr, ?_⟩
  unfold cFz at p
  cases q : f ds S with
  | ok w S1 =>
    rw [q] at p
    intro g1 H1 v e1 rs rv
    obtain ⟨g2, e2, rs2, rv2⟩ := freeze rs rv e1
    exact p g2 H1 v e2 rs2 rv2
  | ex x S1 =>
    rw [q] at p
    exact p
  | bad =>
    rw [q] at p
    exact p

/-! ### names and constants -/
def cBor (i : Nat) : CE := fun ds S => match ds[i]? with
  | some (some (.fz d)) => .ok (.fz d) S
  | some (some (.ow so)) => .ok (.ow so) S
  | _ => .bad
def cVar (i : Nat) : Env → M D := fun ds S => match ds[i]? with
  | some (some (.fz d)) => .ok d S
  | _ => .bad
theorem jd_var (i : Nat) {x : Str} {pos : Pos} (hN : X.N[i]? = some x := by rfl) (hv : Vis X.env.scope x := by first | exact Or.inl rfl | exact Or.inr (Or.inl rfl) | exact Or.inr (Or.inr rfl)) (hd : (x == ("__debug__" : Str)) = false := by decide)
    (hcd : (x == ("__classdict__" : Str)) = false := by decide) : JD T Wx X (.Name x pos) (cVar i) := PE.imp (pe_var hN hv hd hcd) fun σ H Q ⟨g0, H0, c, g, S, ds, fr, p⟩ => by
  unfold cVar at p
  split at p
  · rename_i d h
    obtain ⟨v, hv, rv⟩ := fr.env.fz i d h
    exact ⟨v, hv, p.now fr.st rv⟩
  · exact p.elim
theorem jb_var (i : Nat) {x : Str} {pos : Pos} (hN : X.N[i]? = some x := by rfl) (hv : Vis X.env.scope x := by first | exact Or.inl rfl | exact Or.inr (Or.inl rfl) | exact Or.inr (Or.inr rfl)) (hd : (x == ("__debug__" : Str)) = false := by decide)
    (hcd : (x == ("__classdict__" : Str)) = false := by decide) : JB T Wx X (.Name x pos) (cBor i) := PE.imp (pe_var hN hv hd hcd) fun σ H Q ⟨g0, H0, c, g, S, ds, fr, p⟩ => by
  unfold cBor at p
  split at p
  · rename_i d h
    obtain ⟨v, hv, rv⟩ := fr.env.fz i d h
    exact ⟨v, hv, PostG.now (r := RB T H) p fr.st rv⟩
  · rename_i so h
    obtain ⟨ad, hv, o⟩ := fr.env.ow i so h
    obtain ⟨ho, h1, h2⟩ := o.obj
    exact ⟨_, hv, PostG.now (r := RB T H) p fr.st ⟨ad, ho, rfl, o.nio, h1, h2⟩⟩
  · exact p.elim
def cC (d : D) : Env → M D := fun _ S => .ok d S
theorem jd_c {v : V} {d : D} (h : PE X e (tC v)) (r : ∀ g H, Rep T g H d v) : JD T Wx X e (cC d) := PE.imp h fun σ H Q ⟨g0, H0, c, g, S, ds, fr, p⟩ => by
  show Q v H
  exact PostG.now (r := RD T H) p fr.st (r g H)
theorem jd_int {i : Int} {j pos} : JD T Wx X (.Constant (.int i) j pos) (cC (.int i)) := jd_c pe_int fun _ _ => .int i
theorem jd_bl {i : Bool} {j pos} : JD T Wx X (.Constant (.bool i) j pos) (cC (.bl i)) := jd_c pe_bl fun _ _ => .bl i
theorem jd_non {j pos} : JD T Wx X (.Constant .none j pos) (cC .non) := jd_c pe_non fun _ _ => .non
theorem jd_str {x : Str} {j pos} : JD T Wx X (.Constant (.str x) j pos) (cC (.str x)) := jd_c pe_str fun _ _ => .str x
/-- a constant of the module -/
theorem jd_gI {x : Str} {i : Int} {t : Tok} {pos : Pos} (hg : Gl X x) (hm : X.mg x = some (.int i t)) (hd : (x == ("__debug__" : Str)) = false := by decide) : JD T Wx X (.Name x pos) (cC (.int i)) := jd_c (pe_glob (v := .int i) hg hm ⟨_, rfl⟩ hd) fun _ _ => .int i
theorem jd_gS {x : Str} {i : Str} {t : Tok} {pos : Pos} (hg : Gl X x) (hm : X.mg x = some (.str i t)) (hd : (x == ("__debug__" : Str)) = false := by decide) : JD T Wx X (.Name x pos) (cC (.str i)) := jd_c (pe_glob (v := .str i) hg hm ⟨_, rfl⟩ hd) fun _ _ => .str i

/-! ### new things -/
theorem tracked {T : Tx} {g : Gh} {S : Store} {H : Hp} (rs : RelS T g S H) {a : Addr} (h : a ∈ g.io) : ∃ o, H a = some o := by
  obtain ⟨n, hn, e⟩ := List.getElem_of_mem h
  have hs : n < S.length := by rw [← rs.len]; exact hn
  obtain ⟨ho, h1, _⟩ := rs.obj n S[n] a (List.getElem?_eq_getElem hs) (by rw [List.getElem?_eq_getElem hn, e])
  exact ⟨ho, h1⟩
theorem fresh_io {T : Tx} {g : Gh} {S : Store} {H : Hp} (rs : RelS T g S H) {a : Addr} (h : H a = none) : a ∉ g.io := fun z => by
  obtain ⟨o, e⟩ := tracked rs z
  rw [h] at e
  cases e
/-- a new thing that none else knows -/
theorem alloc_ow {T : Tx} {g : Gh} {S : Store} {H : Hp} (rs : RelS T g S H) {p : Addr} (hp : H p = none) {ho : HO} {so : SO} (hr : ∀ g' H', Fix g H g' H' → RepO T g' H' so ho) :
    ∃ g', Ext g H g' (upd H p ho) ∧ RelS T g' S (upd H p ho) ∧ RepW T H g' (upd H p ho) (.ow so) (.ref p) := by
  have ne : ∀ {b : Addr} {u : HO}, H b = some u → b ≠ p := fun {b u} h z => by
    rw [z, hp] at h
    cases h
  have nio : p ∉ g.io := fresh_io rs hp
  have fx : Fix g H ⟨g.io, fun b => g.L b ∨ b = p⟩ (upd H p ho) := ⟨⟨[], by simp⟩, fun b u h n => ⟨by rw [upd_ne (ne h)]; exact h, fun z => z.elim n (ne h)⟩⟩
  refine ⟨⟨g.io, fun b => g.L b ∨ b = p⟩, ⟨⟨[], by simp⟩, fun b u h => ⟨u, by rw [upd_ne (ne h)]; exact h⟩, fun b u h => ⟨fun z => z.elim id fun q => (ne h q).elim, fun z => .inl z⟩, fun b u h n => ⟨by rw [upd_ne (ne h)]; exact h, n⟩⟩,
    ⟨rs.len, rs.nd, fun b hb => .inl (rs.liv b hb), fun n o b h1 h2 => ?_⟩, ⟨p, rfl, hp, .inr rfl, nio, ho, upd_same, hr _ _ fx⟩⟩
  obtain ⟨ho', h3, p'⟩ := rs.obj n o b h1 h2
  exact ⟨ho', by rw [upd_ne (ne h3)]; exact h3, p'.fix fx⟩
/-- a new frozen thing -/
theorem alloc_fz {T : Tx} {g : Gh} {S : Store} {H : Hp} (rs : RelS T g S H) {p : Addr} (hp : H p = none) (ho : HO) :
    ∃ g', Ext g H g' (upd H p ho) ∧ RelS T g' S (upd H p ho) ∧ Fix g H g' (upd H p ho) ∧ ¬ g'.L p := by
  have ne : ∀ {b : Addr} {u : HO}, H b = some u → b ≠ p := fun {b u} h z => by
    rw [z, hp] at h
    cases h
  have fx : Fix g H ⟨g.io, fun b => g.L b ∧ b ≠ p⟩ (upd H p ho) := ⟨⟨[], by simp⟩, fun b u h n => ⟨by rw [upd_ne (ne h)]; exact h, fun z => n z.1⟩⟩
  refine ⟨⟨g.io, fun b => g.L b ∧ b ≠ p⟩, ⟨⟨[], by simp⟩, fun b u h => ⟨u, by rw [upd_ne (ne h)]; exact h⟩, fun b u h => ⟨fun z => z.1, fun z => ⟨z, ne h⟩⟩, fun b u h n => ⟨by rw [upd_ne (ne h)]; exact h, n⟩⟩,
    ⟨rs.len, rs.nd, fun b hb => ⟨rs.liv b hb, fun z => ?_⟩, fun n o b h1 h2 => ?_⟩, fx, fun z => z.2 rfl⟩
  · obtain ⟨u, hu⟩ := tracked rs hb
    exact ne hu z
  · obtain ⟨ho', h3, p'⟩ := rs.obj n o b h1 h2
    exact ⟨ho', by rw [upd_ne (ne h3)]; exact h3, p'.fix fx⟩

/-! ### lists of expressions -/
def cNil : Env → M (List D) := fun _ S => .ok [] S
def cCons (f : Env → M D) (fs : Env → M (List D)) : Env → M (List D) := fun ds S => bindR (f ds S) fun d S => bindR (fs ds S) fun r S => .ok (d :: r) S
theorem ja_nil : JA T Wx X [] cNil := PA.imp pa_nil fun σ H Q ⟨g0, H0, c, g, S, ds, fr, p⟩ => by
  show Q [] H
  exact PostG.now (r := RA T H) p fr.st .nil
theorem ja_cons {es : List Expr} {f : Env → M D} {fs : Env → M (List D)} (h : JD T Wx X e f) (hr : JA T Wx X es fs) (hs : starEach (e :: es) X.env = (false, eval e X.env) :: starEach es X.env := by rfl) : JA T Wx X (e :: es) (cCons f fs) :=
  PA.imp (pa_cons h hr hs) fun σ H Q ⟨g0, H0, c, g, S, ds, fr, p⟩ => by
    refine tG.bind (r2 := RA T) mono_a fr p fun d S1 g1 H1 v e1 fr1 rv p1 => ?_
    refine tG.bind (r1 := RA T) (r2 := RA T) mono_a fr1 p1 fun r S2 g2 H2 vs e2 fr2 rvs p2 => ?_
    exact p2.now fr2.st (.cons (Rep.fix (e2.fix fr1.st) rv) rvs)
def szOk (n : Nat) : Bool := decide (n ≤ 16777216)
theorem szOk_of {n : Nat} (h : szOk n = true) : n ≤ sizeLine := by
  have h' := of_decide_eq_true h
  rw [sizeLine_eq]
  exact h'
theorem Reps.length {T : Tx} {g : Gh} {H : Hp} : ∀ {ds : List D} {vs : List V}, Reps T g H ds vs → ds.length = vs.length
  | _, _, .nil => rfl
  | _, _, .cons _ r => congrArg (· + 1) (Reps.length r)
def cTup (fs : Env → M (List D)) : Env → M D := fun ds S => bindR (fs ds S) fun r S => if szOk r.length then .ok (.tup r) S else .bad
def cLst (fs : Env → M (List D)) : CE := fun ds S => bindR (fs ds S) fun r S => if szOk r.length then .ok (.ow (.lst r)) S else .bad
theorem jd_tup {es : List Expr} {k} {pos : Pos} {fs : Env → M (List D)} (h : JA T Wx X es fs) : JD T Wx X (.Tuple es k pos) (cTup fs) :=
  PE.imp (pe_tup h) fun σ H Q ⟨g0, H0, c, g, S, ds, fr, p⟩ => by
    refine tG.bind (r1 := RA T) (r2 := RD T) mono_d fr p fun r S1 g1 H1 vs e1 fr1 rv p1 => ?_
    split at p1
    · rename_i hz
      refine ⟨by rw [← rv.length]; exact szOk_of hz, fun q hq => ?_⟩
      obtain ⟨g2, e2, rs2, fx, nl⟩ := alloc_fz fr1.st hq (.tup vs)
      exact p1 g2 _ _ e2 rs2 (.tup upd_same nl (Reps.fix fx rv))
    · exact p1.elim
theorem je_lst {es : List Expr} {pos : Pos} {fs : Env → M (List D)} (h : JA T Wx X es fs) : JE T Wx X (.List es pos) (cLst fs) :=
  PE.imp (pe_lst h) fun σ H Q ⟨g0, H0, c, g, S, ds, fr, p⟩ => by
    refine tG.bind (r1 := RA T) (r2 := RW T) mono_w fr p fun r S1 g1 H1 vs e1 fr1 rv p1 => ?_
    split at p1
    · rename_i hz
      refine ⟨by rw [← rv.length]; exact szOk_of hz, fun q hq => ?_⟩
      obtain ⟨g2, e2, rs2, rw2⟩ := alloc_ow (so := .lst r) fr1.st hq (ho := .lst vs) fun g' H' fx => .lst (rv.fix fx)
      exact p1 g2 _ _ e2 rs2 rw2
    · exact p1.elim
end
end Mir
set_option Elab.async false
set_option linter.all false
set_option maxRecDepth 100000
/-! Mir3: operators, comparisons, tests. -/
namespace Mir
open PySem PySem.Spec PyProof.Rows L2

/-! ### lists and tuples at hand -/
def viewL (S : Store) : Wv → Option (List D)
  | .fz (.lst xs) => some xs
  | .ow (.lst xs) => some xs
  | .fz (.ref n) => match S[n]? with
    | some (.lst xs) => some xs
    | _ => none
  | _ => none
def viewR (S : Store) : Wv → Option (List D)
  | .fz (.scr ns) => some (ns.map D.int)
  | w => viewL S w
def viewT : Wv → Option (List D)
  | .fz (.tup xs) => some xs
  | _ => none
section
variable {T : Tx} {g : Gh} {H : Hp} {S : Store} {w : Wv} {v : V} {xs : List D}
theorem viewL_ok (rs : RelS T g S H) (r : RepB T g H w v) (h : viewL S w = some xs) : ∃ a vs, v = .ref a ∧ H a = some (.lst vs) ∧ Reps T g H xs vs := by
  cases w with
  | fz d =>
    cases d with
    | lst ys =>
      cases h
      cases r with
      | lst h1 _ h2 => exact ⟨_, _, rfl, h1, h2⟩
    | ref n =>
      cases r with
      | ref hio =>
        unfold viewL at h
        dsimp only at h
        cases hn : S[n]? with
        | none =>
          rw [hn] at h
          cases h
        | some so =>
          rw [hn] at h
          cases so with
          | lst ys =>
            cases h
            obtain ⟨ho, h1, h2⟩ := rs.obj n _ _ hn hio
            cases h2 with
            | lst h2 => exact ⟨_, _, rfl, h1, h2⟩
          | dct _ => cases h
          | ins _ _ => cases h
    | _ => cases h
  | ow so =>
    obtain ⟨a, ho, rfl, _, h1, h2⟩ := r
    cases so with
    | lst ys =>
      cases h
      cases h2 with
      | lst h2 => exact ⟨_, _, rfl, h1, h2⟩
    | dct _ => cases h
    | ins _ _ => cases h
  | xc => cases h
theorem reps_ints {T : Tx} {g : Gh} {H : Hp} : ∀ ns : List Int, Reps T g H (ns.map D.int) (ns.map V.int)
  | [] => .nil
  | n :: r => .cons (.int n) (reps_ints r)
theorem viewR_ok (rs : RelS T g S H) (r : RepB T g H w v) (h : viewR S w = some xs) : ∃ a vs, v = .ref a ∧ SqL T.K H a vs ∧ Reps T g H xs vs := by
  have low : viewL S w = some xs → ∃ a vs, v = .ref a ∧ SqL T.K H a vs ∧ Reps T g H xs vs := fun q => by
    obtain ⟨a, vs, e, h1, h2⟩ := viewL_ok rs r q
    exact ⟨a, vs, e, SqL.of h1, h2⟩
  cases w with
  | fz d =>
    cases d with
    | scr ns =>
      cases h
      cases r with
      | scr h1 =>
        refine ⟨_, _, rfl, ?_, reps_ints ns⟩
        rcases h1 with ⟨h1, _⟩ | h1
        · exact .inl h1
        · exact .inr h1
    | _ => exact low h
  | ow so => exact low h
  | xc => cases h
theorem viewT_ok (r : RepB T g H w v) (h : viewT w = some xs) : ∃ a vs, v = .ref a ∧ H a = some (.tup vs) ∧ Reps T g H xs vs := by
  cases w with
  | fz d =>
    cases d with
    | tup ys =>
      cases h
      cases r with
      | tup h1 _ h2 => exact ⟨_, _, rfl, h1, h2⟩
    | _ => cases h
  | ow so => cases h
  | xc => cases h
theorem Reps.append {T : Tx} {g : Gh} {H : Hp} : ∀ {ds : List D} {vs : List V} {ds' : List D} {vs' : List V}, Reps T g H ds vs → Reps T g H ds' vs' → Reps T g H (ds ++ ds') (vs ++ vs')
  | _, _, _, _, .nil, s => s
  | _, _, _, _, .cons r t, s => .cons r (Reps.append t s)
theorem Reps.get {T : Tx} {g : Gh} {H : Hp} : ∀ {ds : List D} {vs : List V} {i : Nat} {d : D}, Reps T g H ds vs → ds[i]? = some d → ∃ v, vs[i]? = some v ∧ Rep T g H d v
  | _, _, _, _, .nil, e => by simp at e
  | _, _, 0, _, .cons r _, e => by
    simp at e
    subst e
    exact ⟨_, rfl, r⟩
  | _, _, i + 1, d, .cons _ t, e => by
    obtain ⟨u, h1, h2⟩ := Reps.get (i := i) (d := d) t (by simpa using e)
    exact ⟨u, by simpa using h1, h2⟩
theorem Reps.drop {T : Tx} {g : Gh} {H : Hp} : ∀ (n : Nat) {ds : List D} {vs : List V}, Reps T g H ds vs → Reps T g H (ds.drop n) (vs.drop n)
  | 0, _, _, r => r
  | _ + 1, _, _, .nil => .nil
  | n + 1, _, _, .cons _ t => Reps.drop n t
theorem Reps.take {T : Tx} {g : Gh} {H : Hp} : ∀ (n : Nat) {ds : List D} {vs : List V}, Reps T g H ds vs → Reps T g H (ds.take n) (vs.take n)
  | 0, _, _, _ => .nil
  | _ + 1, _, _, .nil => .nil
  | n + 1, _, _, .cons r t => .cons r (Reps.take n t)
end

/-! ### operators by values -/
/-- the rule r of two values does k -/
def V2 {α : Type} (T : Tx) (Wx : WX) (Rr : Rl α V) (r : R2) (k : Wv → Wv → M α) : Prop :=
  ∀ (g : Gh) (H : Hp) (S : Store) (σ : SV) (w1 w2 : Wv) (v1 v2 : V) (Q : VK), RelS T g S H → RepB T g H w1 v1 → RepB T g H w2 v2 → PostG T Wx (Rr H) g H σ Q (k w1 w2 S) → r v1 v2 H Q
def cBin {α : Type} (k : Wv → Wv → M α) (f1 f2 : CE) : Env → M α := fun ds S => bindR (f1 ds S) fun w1 S => bindR (f2 ds S) fun w2 S => k w1 w2 S
def cUn {α : Type} (k : Wv → M α) (f1 : CE) : Env → M α := fun ds S => bindR (f1 ds S) fun w1 S => k w1 S
section
variable {T : Tx} {Wx : WX} {X : Cx} {e a b : Expr}
/-- two parts, then r -/
theorem t2 {α : Type} {Rr : Rl α V} (m : Mono Rr) {r : R2} {k : Wv → Wv → M α} {f1 f2 : CE} (hv : V2 T Wx Rr r k) {σ : SV} {H : Hp} {Q : VK} (h : tG T Wx Rr (cBin k f1 f2) σ H Q) : tOp r (tG T Wx (RB T) f1) (tG T Wx (RB T) f2) σ H Q := by
  obtain ⟨g0, H0, c, g, S, ds, fr, p⟩ := h
  refine tG.bind (r1 := RB T) (r2 := Rr) m fr p fun w1 S1 g1 H1 v1 e1 fr1 rv1 p1 => ?_
  refine tG.bind (r1 := RB T) (r2 := Rr) m fr1 p1 fun w2 S2 g2 H2 v2 e2 fr2 rv2 p2 => ?_
  exact hv g2 H2 S2 σ w1 w2 v1 v2 Q fr2.st (rv1.ext e2 fr1.st) rv2 p2
theorem je_op {op : Operator} {pos : Pos} {r : R2} {k : Wv → Wv → M Wv} {f1 f2 : CE} (ho : OpR X (binaryOp op) r) (hv : V2 T Wx (RW T) r k) (ha : JB T Wx X a f1) (hb : JB T Wx X b f2) : JE T Wx X (.BinOp a op b pos) (cBin k f1 f2) :=
  PE.imp (pe_op ho ha hb) fun σ H Q h => t2 mono_w hv h
theorem OpR.or {f : Value → Value → Sem Value} {r r' : R2} (h : OpR X f r) (h' : OpR X f r') : OpR X f (fun x y H Q => r x y H Q ∨ r' x y H Q) := by
  intro pins s σ H x y v u Q I rx ry q
  rcases q with q | q
  · exact h pins s σ H x y v u Q I rx ry q
  · exact h' pins s σ H x y v u Q I rx ry q
end

def opAdd : Wv → Wv → M Wv := fun w1 w2 S => match w1, w2 with
  | .fz (.int i), .fz (.int j) => .ok (.fz (.int (i + j))) S
  | .fz (.str i), .fz (.str j) => if szOk (i.length + j.length) then .ok (.fz (.str (i ++ j))) S else .bad
  | .fz (.tup xs), .fz (.tup ys) => if !xs.isEmpty && szOk (xs.length + ys.length) then .ok (.fz (.tup (xs ++ ys))) S else .bad
  | w1, w2 => match viewL S w1, viewL S w2 with
    | some xs, some ys => if szOk (xs.length + ys.length) then .ok (.ow (.lst (xs ++ ys))) S else .bad
    | _, _ => .bad
def rAddI : R2 := rI0 fun i j => .int (i + j)
def rAddS : R2 := fun x y H Q => ∃ i j, x = .str i ∧ y = .str j ∧ i.length + j.length ≤ sizeLine ∧ Q (.str (i ++ j)) H
def rAddA (K : PySem.W.Frag) : R2 := fun x y H Q => (rAddI x y H Q ∨ rAddS x y H Q) ∨ (rCat x y H Q ∨ rCatT K x y H Q)
section
variable {T : Tx} {Wx : WX} {X : Cx} {e a b : Expr}
theorem cat_list {g : Gh} {H : Hp} {S : Store} {σ : SV} {w1 w2 : Wv} {v1 v2 : V} {Q : VK} (rs : RelS T g S H) (r1 : RepB T g H w1 v1) (r2 : RepB T g H w2 v2)
    (p : PostG T Wx (RW T H) g H σ Q (match viewL S w1, viewL S w2 with
      | some xs, some ys => if szOk (xs.length + ys.length) then R.ok (Wv.ow (.lst (xs ++ ys))) S else .bad
      | _, _ => .bad)) : rCat v1 v2 H Q := by
  cases h1 : viewL S w1 with
  | none =>
    rw [h1] at p
    exact p.elim
  | some xs =>
    cases h2 : viewL S w2 with
    | none =>
      rw [h1, h2] at p
      exact p.elim
    | some ys =>
      rw [h1, h2] at p
      dsimp only at p
      split at p
      · rename_i hz
        obtain ⟨a1, vs1, rfl, q1, s1⟩ := viewL_ok rs r1 h1
        obtain ⟨a2, vs2, rfl, q2, s2⟩ := viewL_ok rs r2 h2
        refine ⟨a1, a2, vs1, vs2, rfl, rfl, q1, q2, ?_, fun l hl => ?_⟩
        · rw [← s1.length, ← s2.length]
          exact szOk_of hz
        · obtain ⟨g2, e2, rs2, rw2⟩ := alloc_ow (so := .lst (xs ++ ys)) rs hl (ho := .lst (vs1 ++ vs2)) fun g' H' fx => .lst ((s1.append s2).fix fx)
          exact p g2 _ _ e2 rs2 rw2
      · exact p.elim
theorem v_add : V2 T Wx (RW T) (rAddA T.K) opAdd := by
  intro g H S σ w1 w2 v1 v2 Q rs r1 r2 p
  have gen : PostG T Wx (RW T H) g H σ Q (match viewL S w1, viewL S w2 with
      | some xs, some ys => if szOk (xs.length + ys.length) then R.ok (Wv.ow (.lst (xs ++ ys))) S else .bad
      | _, _ => .bad) → rAddA T.K v1 v2 H Q := fun p => .inr (.inl (cat_list rs r1 r2 p))
  unfold opAdd at p
  split at p
  · cases r1
    cases r2
    exact .inl (.inl ⟨_, _, rfl, rfl, PostG.now (r := RW T H) p rs (.int _)⟩)
  · cases r1
    cases r2
    split at p
    · rename_i hz
      exact .inl (.inr ⟨_, _, rfl, rfl, szOk_of hz, PostG.now (r := RW T H) p rs (.str _)⟩)
    · exact p.elim
  · rename_i xs ys
    split at p
    · rename_i hz
      rw [Bool.and_eq_true] at hz
      obtain ⟨a1, vs1, rfl, q1, s1⟩ := viewT_ok (xs := xs) r1 rfl
      obtain ⟨a2, vs2, rfl, q2, s2⟩ := viewT_ok (xs := ys) r2 rfl
      refine .inr (.inr ⟨a1, a2, vs1, vs2, rfl, rfl, SqT.of q1, SqT.of q2, ?_, ?_, fun e2 => ?_, fun _ l hl => ?_⟩)
      · intro z
        subst z
        cases s1
        exact absurd hz.1 (by decide)
      · rw [← s1.length, ← s2.length]
        exact szOk_of hz.2
      · subst e2
        cases s2
        rw [List.append_nil] at p
        exact PostG.now (r := RW T H) p rs r1
      · obtain ⟨g2, e2, rs2, fx, nl⟩ := alloc_fz rs hl (.tup (vs1 ++ vs2))
        exact p g2 _ _ e2 rs2 (Rep.tup upd_same nl ((s1.append s2).fix fx))
    · exact p.elim
  · exact gen p
theorem je_add {pos : Pos} {f1 f2 : CE} (lv : Lv T Wx X) (ha : JB T Wx X a f1) (hb : JB T Wx X b f2) : JE T Wx X (.BinOp a .Add b pos) (cBin opAdd f1 f2) := by
  have ho : OpR X (binaryOp .Add) (rAddA T.K) := by
    have q : OpR X (binaryOp .Add) (rAddA X.K) := OpR.or (OpR.or op_add op_add_str) (OpR.or op_cat op_catT)
    rw [lv.hK] at q
    exact q
  exact je_op ho v_add ha hb
end

/-! ### ints -/
def int2 (C : Int → Int → Bool) (f : Int → Int → D) : Wv → Wv → M Wv := fun w1 w2 S => match w1, w2 with
  | .fz (.int i), .fz (.int j) => if C i j then .ok (.fz (f i j)) S else .bad
  | _, _ => .bad
theorem v_int2 {T : Tx} {Wx : WX} {C : Int → Int → Bool} {f : Int → Int → D} {CC : Int → Int → Prop} {fv : Int → Int → V} (hC : ∀ i j, C i j = true → CC i j) (hf : ∀ i j g H, Rep T g H (f i j) (fv i j)) : V2 T Wx (RW T) (rI CC fv) (int2 C f) := by
  intro g H S σ w1 w2 v1 v2 Q rs r1 r2 p
  unfold int2 at p
  split at p
  · cases r1
    cases r2
    split at p
    · rename_i hz
      exact ⟨_, _, rfl, rfl, hC _ _ hz, PostG.now (r := RW T H) p rs (hf _ _ _ _)⟩
    · exact p.elim
  · exact p.elim
theorem v_int0 {T : Tx} {Wx : WX} {f : Int → Int → D} {fv : Int → Int → V} (hf : ∀ i j g H, Rep T g H (f i j) (fv i j)) : V2 T Wx (RW T) (rI0 fv) (int2 (fun _ _ => true) f) := by
  intro g H S σ w1 w2 v1 v2 Q rs r1 r2 p
  unfold int2 at p
  split at p
  · cases r1
    cases r2
    exact ⟨_, _, rfl, rfl, PostG.now (r := RW T H) p rs (hf _ _ _ _)⟩
  · exact p.elim
def mulOk (i j : Int) : Bool := decide (i.natAbs.log2 + j.natAbs.log2 < 1000000) || (decide (-(2 ^ 64) < i ∧ i < 2 ^ 64) || decide (-(2 ^ 64) < j ∧ j < 2 ^ 64))
theorem mulOk_of {i j : Int} (h : mulOk i j = true) : IntMulOk i j := by
  unfold mulOk at h
  rcases Bool.or_eq_true_iff.mp h with h | h
  · exact CMulW.ok (show i.natAbs.log2 + j.natAbs.log2 < 1000000 from of_decide_eq_true h)
  · rcases Bool.or_eq_true_iff.mp h with h | h
    · exact CMul.ok (.inl (of_decide_eq_true h))
    · exact CMul.ok (.inr (of_decide_eq_true h))
def divOk (_ j : Int) : Bool := decide (0 < j) && decide (j.natAbs.log2 < 9000)
def powOk (i j : Int) : Bool := decide (0 ≤ j) && (decide (j ≤ 1000000) && decide (i.natAbs < 2 ^ 64))
def modOk (_ j : Int) : Bool := decide (0 < j)
def opSub := int2 (fun _ _ => true) fun i j => .int (i - j)
def opDiv := int2 divOk fun i j => .int (i / j)
def opMod := int2 modOk fun i j => .int (i % j)
def opPow := int2 powOk fun i j => .int (i ^ j.toNat)
def repOk (k : Int) (n : Nat) : Bool := decide (0 ≤ k) && (decide (k < 2 ^ 63) && szOk (n * k.toNat))
def opMul : Wv → Wv → M Wv := fun w1 w2 S => match w1, w2 with
  | .fz (.int i), .fz (.int j) => if mulOk i j then .ok (.fz (.int (i * j))) S else .bad
  | w1, .fz (.int k) => match viewL S w1 with
    | some xs => if repOk k xs.length then .ok (.ow (.lst (List.replicate k.toNat xs).flatten)) S else .bad
    | none => .bad
  | _, _ => .bad
section
variable {T : Tx} {Wx : WX} {X : Cx} {e a b : Expr} {pos : Pos} {f1 f2 : CE}
theorem op_mulA : OpR X (binaryOp .Mult) (rI IntMulOk fun i j => .int (i * j)) := opI fun _ _ _ _ _ _ _ hc q => mul_int q hc
theorem je_sub (ha : JB T Wx X a f1) (hb : JB T Wx X b f2) : JE T Wx X (.BinOp a .Sub b pos) (cBin opSub f1 f2) := je_op op_sub (v_int0 fun i j _ _ => .int _) ha hb
theorem je_div (ha : JB T Wx X a f1) (hb : JB T Wx X b f2) : JE T Wx X (.BinOp a .FloorDiv b pos) (cBin opDiv f1 f2) := je_op op_fdivW (v_int2 (fun i j h => by
    rcases Bool.and_eq_true_iff.mp h with ⟨h1, h2⟩
    exact ⟨of_decide_eq_true h1, of_decide_eq_true h2⟩) fun i j _ _ => .int _) ha hb
theorem je_mod (ha : JB T Wx X a f1) (hb : JB T Wx X b f2) : JE T Wx X (.BinOp a .Mod b pos) (cBin opMod f1 f2) := je_op op_mod (v_int2 (fun i j h => of_decide_eq_true h) fun i j _ _ => .int _) ha hb
theorem je_pow (ha : JB T Wx X a f1) (hb : JB T Wx X b f2) : JE T Wx X (.BinOp a .Pow b pos) (cBin opPow f1 f2) := je_op op_pow (v_int2 (fun i j h => by
    rcases Bool.and_eq_true_iff.mp h with ⟨h1, h2⟩
    rcases Bool.and_eq_true_iff.mp h2 with ⟨h2, h3⟩
    exact ⟨of_decide_eq_true h1, of_decide_eq_true h2, of_decide_eq_true h3⟩) fun i j _ _ => .int _) ha hb

theorem Reps.rep {T : Tx} {g : Gh} {H : Hp} {ds : List D} {vs : List V} (h : Reps T g H ds vs) : ∀ k : Nat, Reps T g H (List.replicate k ds).flatten (List.replicate k vs).flatten
  | 0 => .nil
  | k + 1 => by
    rw [List.replicate_succ, List.replicate_succ, List.flatten_cons, List.flatten_cons]
    exact h.append (Reps.rep h k)
def rMulA : R2 := fun x y H Q => rI IntMulOk (fun i j => .int (i * j)) x y H Q ∨ rRep x y H Q
theorem v_mul : V2 T Wx (RW T) rMulA opMul := by
  intro g H S σ w1 w2 v1 v2 Q rs r1 r2 p
  unfold opMul at p
  split at p
  · cases r1
    cases r2
    split at p
    · rename_i hz
      exact .inl ⟨_, _, rfl, rfl, mulOk_of hz, PostG.now (r := RW T H) p rs (.int _)⟩
    · exact p.elim
  · rename_i k hne
    cases h1 : viewL S w1 with
    | none =>
      rw [h1] at p
      exact p.elim
    | some xs =>
      rw [h1] at p
      dsimp only at p
      split at p
      · rename_i hz
        unfold repOk at hz
        rcases Bool.and_eq_true_iff.mp hz with ⟨z1, z2⟩
        rcases Bool.and_eq_true_iff.mp z2 with ⟨z2, z3⟩
        have z1' : 0 ≤ k := of_decide_eq_true z1
        have z2' : k < 2 ^ 63 := of_decide_eq_true z2
        obtain ⟨a1, vs1, rfl, q1, s1⟩ := viewL_ok rs r1 h1
        cases r2
        refine .inr ⟨a1, k, vs1, rfl, rfl, q1, by omega, z2', ?_, fun l hl => ?_⟩
        · rw [← s1.length]
          exact szOk_of z3
        · obtain ⟨g2, e2, rs2, rw2⟩ := alloc_ow (so := .lst (List.replicate k.toNat xs).flatten) rs hl (ho := .lst (List.replicate k.toNat vs1).flatten) fun g' H' fx => .lst ((s1.fix fx).rep k.toNat)
          exact p g2 _ _ e2 rs2 rw2
      · exact p.elim
  · exact p.elim
theorem je_mul (ha : JB T Wx X a f1) (hb : JB T Wx X b f2) : JE T Wx X (.BinOp a .Mult b pos) (cBin opMul f1 f2) := je_op (OpR.or op_mulA op_rep) v_mul ha hb
def opNeg : Wv → M Wv := fun w S => match w with
  | .fz (.int i) => .ok (.fz (.int (-i))) S
  | _ => .bad
theorem je_neg (ha : JB T Wx X a f1) : JE T Wx X (.UnaryOp .USub a pos) (cUn opNeg f1) := PE.imp (pe_un un_neg ha) fun σ H Q ⟨g0, H0, c, g, S, ds, fr, p⟩ => by
  refine tG.bind (r1 := RB T) (r2 := RW T) mono_w fr p fun w1 S1 g1 H1 v1 e1 fr1 rv1 p1 => ?_
  unfold opNeg at p1
  split at p1
  · cases rv1
    exact ⟨_, rfl, PostG.now (r := RW T H1) p1 fr1.st (.int _)⟩
  · exact p1.elim

/-! ### == -/
mutual
def toPd : D → PyData
  | .non => .none
  | .bl b => .bool b
  | .int i => .int i
  | .str x => .str x
  | .tup xs => .tuple (toPds xs)
  | .lst xs => .list (toPds xs)
  | .scr ns => .list (ns.map PyData.int)
  | .dct _ => .none
  | .ins _ _ => .none
  | .ref _ => .none
def toPds : List D → List PyData
  | [] => []
  | d :: r => toPd d :: toPds r
end
mutual
def isPd : D → Bool
  | .tup xs => isPds xs
  | .lst xs => isPds xs
  | .dct _ => false
  | .ins _ _ => false
  | .ref _ => false
  | _ => true
def isPds : List D → Bool
  | [] => true
  | d :: r => isPd d && isPds r
end
mutual
theorem toPd_ok {T : Tx} {g : Gh} {H : Hp} : ∀ {d : D} {v : V}, Rep T g H d v → isPd d = true → Dp T.K H v (toPd d)
  | _, _, .non, _ => .non
  | _, _, .bl b, _ => .bl b
  | _, _, .int i, _ => .int i
  | _, _, .str x, _ => .str x
  | _, _, .tup h _ r, q => by
    rw [isPd] at q
    rw [toPd]
    exact .tup (SqT.of h) (toPds_ok r q)
  | _, _, .lst h _ r, q => by
    rw [isPd] at q
    rw [toPd]
    exact .lst (SqL.of h) (toPds_ok r q)
  | _, _, .scr h, q => by
    rw [toPd]
    refine .lst (xs := _) (ds := _) ?_ (dp_ints _)
    rcases h with ⟨h, _⟩ | h
    · exact .inl h
    · exact .inr h
  | _, _, .dct _ _ _, q => nomatch q
  | _, _, .ins _ _ _, q => nomatch q
  | _, _, .ref _, q => nomatch q
theorem toPds_ok {T : Tx} {g : Gh} {H : Hp} : ∀ {ds : List D} {vs : List V}, Reps T g H ds vs → isPds ds = true → DpAll T.K H vs (toPds ds)
  | _, _, .nil, _ => .nil
  | _, _, .cons h r, q => by
    rw [isPds, Bool.and_eq_true] at q
    rw [toPds]
    exact .cons (toPd_ok h q.1) (toPds_ok r q.2)
theorem dp_ints {K : PySem.W.Frag} {H : Hp} : ∀ ns : List Int, DpAll K H (ns.map V.int) (ns.map PyData.int)
  | [] => .nil
  | n :: r => .cons (.int n) (dp_ints r)
end
/-- what is at hand as data, for == -/
def viewD (S : Store) (w : Wv) : Option PyData := match viewR S w with
  | some xs => if isPds xs && SeqAt.shaped (.list (toPds xs)) then some (.list (toPds xs)) else none
  | none => match w with
    | .fz d => if isPd d && SeqAt.shaped (toPd d) then some (toPd d) else none
    | _ => none
theorem viewD_ok {T : Tx} {g : Gh} {H : Hp} {S : Store} {w : Wv} {v : V} {d : PyData} (rs : RelS T g S H) (r : RepB T g H w v) (h : viewD S w = some d) : Dp T.K H v d ∧ SeqAt.shaped d = true := by
  unfold viewD at h
  split at h
  · rename_i xs hx
    split at h
    · rename_i hz
      cases h
      rcases Bool.and_eq_true_iff.mp hz with ⟨z1, z2⟩
      obtain ⟨a, vs, rfl, q, s⟩ := viewR_ok rs r hx
      exact ⟨.lst q (toPds_ok s z1), z2⟩
    · cases h
  · split at h
    · split at h
      · rename_i hz
        cases h
        rcases Bool.and_eq_true_iff.mp hz with ⟨z1, z2⟩
        exact ⟨toPd_ok r z1, z2⟩
      · cases h
    · cases h
def opEq : Wv → Wv → M Bool := fun w1 w2 S => match w1, w2 with
  | .fz (.int i), .fz (.int j) => .ok (decide (i = j)) S
  | .fz (.str x), .fz (.str y) => .ok (decide (x = y)) S
  | w1, w2 => match viewD S w1, viewD S w2 with
    | some a, some b => .ok (PyData.eqv a b) S
    | _, _ => match viewR S w1, viewR S w2 with
      | some xs, some ys => if xs.length = ys.length then .bad else .ok false S
      | _, _ => .bad
abbrev RBl : Rl Bool V := fun _ _ _ b v => v = .bl b
theorem mono_bl : Mono RBl := fun _ _ _ _ _ _ _ r => r
/-- lists of other lengths -/
def rEqL (b : Bool) (K : PySem.W.Frag) : R2 := fun x y H Q => ∃ (p q : Addr) (xs ys : List V), x = .ref p ∧ y = .ref q ∧ SqL K H p xs ∧ SqL K H q ys ∧ xs.length ≠ ys.length ∧ Q (.bl b) H
theorem op_eqL {X : Cx} (hu : X.A.units < cLine) : OpR X (compareOp .Eq) (rEqL false X.K) := by
  intro pins s σ H x y v u Q I rx ry h
  obtain ⟨p, q, xs, ys, rfl, rfl, hp, hq, hl, qq⟩ := h
  cases rx
  cases ry
  obtain ⟨its, r1, p1, _⟩ := I.list hp
  obtain ⟨its2, r2, p2, _⟩ := I.list hq
  exact SeqAt.RcAt.lists_lengths p1.isList p2.isList (by rw [List.size_toArray, List.size_toArray, ← r1.length, ← r2.length]; simpa using hl) hu X.prog X.w X.xe (EP X pins σ Q) ⟨.bl _, H, I, rfl, qq⟩
theorem op_neL {X : Cx} (hu : X.A.units < cLine) : OpR X (compareOp .NotEq) (rEqL true X.K) := by
  intro pins s σ H x y v u Q I rx ry h
  obtain ⟨p, q, xs, ys, rfl, rfl, hp, hq, hl, qq⟩ := h
  cases rx
  cases ry
  obtain ⟨its, r1, p1, _⟩ := I.list hp
  obtain ⟨its2, r2, p2, _⟩ := I.list hq
  exact SeqAt.RcNeAt.lists_lengths p1.isList p2.isList (by rw [List.size_toArray, List.size_toArray, ← r1.length, ← r2.length]; simpa using hl) hu X.prog X.w X.xe (EP X pins σ Q) ⟨.bl _, H, I, rfl, qq⟩
def rEqA (K : PySem.W.Frag) : R2 := fun x y H Q => rEq x y H Q ∨ rEqD K x y H Q ∨ rEqL false K x y H Q
def rNeA (K : PySem.W.Frag) : R2 := fun x y H Q => rNe x y H Q ∨ rNeD K x y H Q ∨ rEqL true K x y H Q
def notM (k : Wv → Wv → M Bool) : Wv → Wv → M Bool := fun w1 w2 S => bindR (k w1 w2 S) fun b S => .ok (!b) S
theorem v_eq : V2 T Wx RBl (rEqA T.K) opEq := by
  intro g H S σ w1 w2 v1 v2 Q rs r1 r2 p
  unfold opEq at p
  split at p
  · rename_i i j
    cases r1
    cases r2
    refine .inl ⟨rfl, ?_⟩
    have e : decide (V.int i = V.int j) = decide (i = j) := by simp
    rw [e]
    exact PostG.now (r := RBl H) p rs rfl
  · rename_i i j
    cases r1
    cases r2
    refine .inl ⟨rfl, ?_⟩
    have e : decide (V.str i = V.str j) = decide (i = j) := by simp
    rw [e]
    exact PostG.now (r := RBl H) p rs rfl
  · split at p
    · rename_i d1 d2 h1 h2
      obtain ⟨q1, s1⟩ := viewD_ok rs r1 h1
      obtain ⟨q2, s2⟩ := viewD_ok rs r2 h2
      exact .inr (.inl ⟨d1, d2, q1, q2, s1, s2, PostG.now (r := RBl H) p rs rfl⟩)
    · split at p
      · rename_i xs ys hx hy
        split at p
        · exact p.elim
        · rename_i hl
          obtain ⟨a1, us1, rfl, l1, t1⟩ := viewR_ok rs r1 hx
          obtain ⟨a2, us2, rfl, l2, t2⟩ := viewR_ok rs r2 hy
          exact .inr (.inr ⟨a1, a2, us1, us2, rfl, rfl, l1, l2, by rw [← t1.length, ← t2.length]; exact hl, PostG.now (r := RBl H) p rs rfl⟩)
      · exact p.elim
theorem v_ne : V2 T Wx RBl (rNeA T.K) (notM opEq) := by
  intro g H S σ w1 w2 v1 v2 Q rs r1 r2 p
  unfold notM opEq at p
  split at p
  · rename_i i j
    cases r1
    cases r2
    refine .inl ⟨rfl, ?_⟩
    have e : decide (V.int i = V.int j) = decide (i = j) := by simp
    rw [e]
    exact PostG.now (r := RBl H) p rs rfl
  · rename_i i j
    cases r1
    cases r2
    refine .inl ⟨rfl, ?_⟩
    have e : decide (V.str i = V.str j) = decide (i = j) := by simp
    rw [e]
    exact PostG.now (r := RBl H) p rs rfl
  · split at p
    · rename_i d1 d2 h1 h2
      obtain ⟨q1, s1⟩ := viewD_ok rs r1 h1
      obtain ⟨q2, s2⟩ := viewD_ok rs r2 h2
      exact .inr (.inl ⟨d1, d2, q1, q2, s1, s2, PostG.now (r := RBl H) p rs rfl⟩)
    · split at p
      · rename_i xs ys hx hy
        split at p
        · exact p.elim
        · rename_i hl
          obtain ⟨a1, us1, rfl, l1, t1⟩ := viewR_ok rs r1 hx
          obtain ⟨a2, us2, rfl, l2, t2⟩ := viewR_ok rs r2 hy
          exact .inr (.inr ⟨a1, a2, us1, us2, rfl, rfl, l1, l2, by rw [← t1.length, ← t2.length]; exact hl, PostG.now (r := RBl H) p rs rfl⟩)
      · exact p.elim
def cmpI (p : Int → Int → Bool) : Wv → Wv → M Bool := fun w1 w2 S => match w1, w2 with
  | .fz (.int i), .fz (.int j) => .ok (p i j) S
  | _, _ => .bad
theorem v_cmpI {p : Int → Int → Bool} : V2 T Wx RBl (rI0 fun i j => .bl (p i j)) (cmpI p) := by
  intro g H S σ w1 w2 v1 v2 Q rs r1 r2 p
  unfold cmpI at p
  split at p
  · cases r1
    cases r2
    exact ⟨_, _, rfl, rfl, PostG.now (r := RBl H) p rs rfl⟩
  · exact p.elim
def opLt := cmpI fun i j => decide (i < j)
def opLe := cmpI fun i j => decide (i ≤ j)
def opGt := cmpI fun i j => decide (j < i)
def opGe := cmpI fun i j => decide (j ≤ i)
/-- is None -/
def isNon : Wv → Bool
  | .fz .non => true
  | _ => false
def opIsN : Wv → Wv → M Bool := fun w1 w2 S => match w2 with
  | .fz .non => .ok (isNon w1) S
  | _ => .bad
def rIsN' : R2 := fun x y H Q => y = .non ∧ Q (.bl (decide (x = .non))) H
def rNotN' : R2 := fun x y H Q => y = .non ∧ Q (.bl (!decide (x = .non))) H
theorem isNon_ok {T : Tx} {g : Gh} {H : Hp} {w : Wv} {v : V} (r : RepB T g H w v) : decide (v = .non) = isNon w := by
  cases w with
  | fz d => cases r <;> simp [isNon]
  | ow so =>
    obtain ⟨a, ho, rfl, _⟩ := r
    simp [isNon]
  | xc => exact r.elim
theorem v_isN : V2 T Wx RBl rIsN' opIsN := by
  intro g H S σ w1 w2 v1 v2 Q rs r1 r2 p
  unfold opIsN at p
  split at p
  · cases r2
    refine ⟨rfl, ?_⟩
    rw [isNon_ok r1]
    exact PostG.now (r := RBl H) p rs rfl
  · exact p.elim
theorem v_notN : V2 T Wx RBl rNotN' (notM opIsN) := by
  intro g H S σ w1 w2 v1 v2 Q rs r1 r2 p
  unfold notM opIsN at p
  split at p
  · cases r2
    refine ⟨rfl, ?_⟩
    rw [isNon_ok r1]
    exact PostG.now (r := RBl H) p rs rfl
  · exact p.elim
end
end Mir
set_option Elab.async false
set_option linter.all false
set_option maxRecDepth 100000
/-! Mir4: comparisons and tests as expressions, subscripts, slices, in, len and other calls of built-ins. -/
namespace Mir
open PySem PySem.Spec PyProof.Rows L2

def cBl (f : Env → M Bool) : CE := fun ds S => bindR (f ds S) fun b S => .ok (.fz (.bl b)) S
section
variable {T : Tx} {Wx : WX} {X : Cx} {e a b c' : Expr} {f1 f2 f3 : CE}
theorem PE.or {e : Expr} {t t' : TE} (h : PE X e t) (h' : PE X e t') : PE X e (fun σ H Q => t σ H Q ∨ t' σ H Q) := ⟨fun pins s σ H Q I q => q.elim (h.run pins s σ H Q I) (h'.run pins s σ H Q I)⟩
theorem PT.or {e : Expr} {t t' : TT} (h : PT X e t) (h' : PT X e t') : PT X e (fun σ H Q => t σ H Q ∨ t' σ H Q) := ⟨fun pins s σ H Q I q => q.elim (h.run pins s σ H Q I) (h'.run pins s σ H Q I)⟩
theorem tb_v {f : Env → M Bool} {σ : SV} {H : Hp} {Q : VK} (h : tG T Wx (RW T) (cBl f) σ H Q) : tG T Wx RBl f σ H Q := by
  obtain ⟨g0, H0, c, g, S, ds, fr, p⟩ := h
  exact tG.bind (r1 := RBl) (r2 := RW T) mono_w fr p fun b S1 g1 H1 v e1 fr1 rv p1 => by
    subst rv
    exact PostG.now (r := RW T H1) p1 fr1.st (.bl b)
theorem tb_t {f : Env → M Bool} {σ : SV} {H : Hp} {Q : Bool → Hp → Prop} (h : tG T Wx RT f σ H Q) : tG T Wx RBl f σ H (fun x H' => ∃ k, x = .bl k ∧ Q k H') := by
  obtain ⟨g0, H0, c, g, S, ds, fr, p⟩ := h
  refine ⟨g0, H0, c, g, S, ds, fr, ?_⟩
  cases q : f ds S with
  | ok b S1 =>
    rw [q] at p
    intro g1 H1 v e1 rs rv
    exact ⟨b, rv, p g1 H1 b e1 rs rfl⟩
  | ex x S1 =>
    rw [q] at p
    exact p
  | bad =>
    rw [q] at p
    exact p
theorem je_cmp {op : CmpOp} {pos : Pos} {r : R2} {k : Wv → Wv → M Bool} (ho : OpR X (compareOp op) r) (hv : V2 T Wx RBl r k) (ha : JB T Wx X a f1) (hb : JB T Wx X b f2) (hm : behindInMarks op b = false) : JE T Wx X (.Compare a [op] [b] pos) (cBl (cBin k f1 f2)) :=
  PE.imp (pe_cmpR ho ha hb hm) fun σ H Q h => t2 mono_bl hv (tb_v h)
theorem jt_cmp {op : CmpOp} {pos : Pos} {r : R2} {k : Wv → Wv → M Bool} (ho : OpR X (compareOp op) r) (hv : V2 T Wx RBl r k) (ha : JB T Wx X a f1) (hb : JB T Wx X b f2) (hm : behindInMarks op b = false) : JT T Wx X (.Compare a [op] [b] pos) (cBin k f1 f2) :=
  PT.imp (pt_cmpR ho ha hb hm) fun σ H Q h => t2 mono_bl hv (tb_t h)
def cChain (k k' : Wv → Wv → M Bool) (f1 f2 f3 : CE) : Env → M Bool := fun ds S => bindR (f1 ds S) fun w1 S => bindR (f2 ds S) fun w2 S => bindR (k w1 w2 S) fun b S =>
  if b then bindR (f3 ds S) fun w3 S => k' w2 w3 S else .ok false S
theorem tchain {r r' : R2} {k k' : Wv → Wv → M Bool} (hv : V2 T Wx RBl r k) (hv' : V2 T Wx RBl r' k') {σ : SV} {H : Hp} {Q : VK} (h : tG T Wx RBl (cChain k k' f1 f2 f3) σ H Q) :
    tChain r r' (tG T Wx (RB T) f1) (tG T Wx (RB T) f2) (tG T Wx (RB T) f3) σ H Q := by
  obtain ⟨g0, H0, c, g, S, ds, fr, p⟩ := h
  refine tG.bind (r1 := RB T) (r2 := RBl) mono_bl fr p fun w1 S1 g1 H1 v1 e1 fr1 rv1 p1 => ?_
  refine tG.bind (r1 := RB T) (r2 := RBl) mono_bl fr1 p1 fun w2 S2 g2 H2 v2 e2 fr2 rv2 p2 => ?_
  refine hv g2 H2 S2 σ w1 w2 v1 v2 _ fr2.st (rv1.ext e2 fr1.st) rv2 (PostG.bind (r1 := RBl) (r2 := RBl) mono_bl fr2 p2 fun b S3 g3 H3 v3 e3 fr3 rv3 p3 => ?_)
  refine ⟨b, rv3, ?_⟩
  cases b with
  | true =>
    rw [if_pos rfl] at p3 ⊢
    refine tG.bind (r1 := RB T) (r2 := RBl) mono_bl fr3 p3 fun w4 S4 g4 H4 v4 e4 fr4 rv4 p4 => ?_
    exact hv' g4 H4 S4 σ w2 w4 v2 v4 _ fr4.st (rv2.ext (e3.trans e4) fr2.st) rv4 p4
  | false =>
    rw [if_neg Bool.false_ne_true] at p3 ⊢
    exact PostG.now (r := RBl H3) p3 fr3.st rfl
theorem je_chain {op op' : CmpOp} {pos : Pos} {r r' : R2} {k k' : Wv → Wv → M Bool} (ho : OpR X (compareOp op) r) (ho' : OpR X (compareOp op') r') (hv : V2 T Wx RBl r k) (hv' : V2 T Wx RBl r' k') (ha : JB T Wx X a f1) (hb : JB T Wx X b f2) (hc : JB T Wx X c' f3)
    (hm : lastMarks [op, op'] [b, c'] = false := by with_unfolding_all rfl) : JE T Wx X (.Compare a [op, op'] [b, c'] pos) (cBl (cChain k k' f1 f2 f3)) := PE.imp (pe_chain ho ho' ha hb hc hm) fun σ H Q h => tchain hv hv' (tb_v h)
theorem jt_chain {op op' : CmpOp} {pos : Pos} {r r' : R2} {k k' : Wv → Wv → M Bool} (ho : OpR X (compareOp op) r) (ho' : OpR X (compareOp op') r') (hv : V2 T Wx RBl r k) (hv' : V2 T Wx RBl r' k') (ha : JB T Wx X a f1) (hb : JB T Wx X b f2) (hc : JB T Wx X c' f3)
    (hm : lastMarks [op, op'] [b, c'] = false := by with_unfolding_all rfl) : JT T Wx X (.Compare a [op, op'] [b, c'] pos) (cChain k k' f1 f2 f3) := PT.imp (pt_chain ho ho' ha hb hc hm) fun σ H Q h => tchain hv hv' (tb_t h)

/-! ### and, or, not -/
def JW (T : Tx) (Wx : WX) (X : Cx) (e : Expr) (f : Env → M Bool) : Prop := PW X e (tG T Wx RT f)
def cAnd (p q : Env → M Bool) : Env → M Bool := fun ds S => bindR (p ds S) fun b S => if b then q ds S else .ok false S
def cOr (p q : Env → M Bool) : Env → M Bool := fun ds S => bindR (p ds S) fun b S => if b then .ok true S else q ds S
def cNot (p : Env → M Bool) : Env → M Bool := fun ds S => bindR (p ds S) fun b S => .ok (!b) S
variable {p q : Env → M Bool} {rest : List Expr} {pos : Pos}
theorem jw_and1 (h : JT T Wx X a p) : JW T Wx X (.BoolOp .And [a] pos) p := pw_and1 h
theorem jw_or1 (h : JT T Wx X a p) : JW T Wx X (.BoolOp .Or [a] pos) p := pw_or1 h
theorem jw_and (h : JT T Wx X a p) (h' : JW T Wx X (.BoolOp .And (b :: rest) pos) q) : JW T Wx X (.BoolOp .And (a :: b :: rest) pos) (cAnd p q) := PW.imp (pw_and h h') fun σ H Q ⟨g0, H0, c, g, S, ds, fr, pp⟩ => by
  refine tG.bind (r1 := RT) (r2 := RT) mono_t fr pp fun b' S1 g1 H1 v1 e1 fr1 rv1 p1 => ?_
  subst rv1
  cases b' with
  | true => exact ⟨g0, H0, c, g1, S1, ds, fr1, p1⟩
  | false => exact PostG.now (r := RT H1) p1 fr1.st rfl
theorem jw_or (h : JT T Wx X a p) (h' : JW T Wx X (.BoolOp .Or (b :: rest) pos) q) : JW T Wx X (.BoolOp .Or (a :: b :: rest) pos) (cOr p q) := PW.imp (pw_or h h') fun σ H Q ⟨g0, H0, c, g, S, ds, fr, pp⟩ => by
  refine tG.bind (r1 := RT) (r2 := RT) mono_t fr pp fun b' S1 g1 H1 v1 e1 fr1 rv1 p1 => ?_
  subst rv1
  cases b' with
  | false => exact ⟨g0, H0, c, g1, S1, ds, fr1, p1⟩
  | true => exact PostG.now (r := RT H1) p1 fr1.st rfl
theorem jt_w (h : JW T Wx X e p) : JT T Wx X e p := PW.pt h
theorem jt_not (h : JT T Wx X a p) : JT T Wx X (.UnaryOp .Not a pos) (cNot p) := PT.imp (pt_not h) fun σ H Q ⟨g0, H0, c, g, S, ds, fr, pp⟩ => by
  refine tG.bind (r1 := RT) (r2 := RT) mono_t fr pp fun b' S1 g1 H1 v1 e1 fr1 rv1 p1 => ?_
  subst rv1
  exact PostG.now (r := RT H1) p1 fr1.st rfl
/-- a value that is a bool, as a test -/
def cTst (f : CE) : Env → M Bool := fun ds S => bindR (f ds S) fun w S => match w with
  | .fz (.bl b) => .ok b S
  | _ => .bad
theorem jt_e {f : CE} (h : JB T Wx X e f) (he : ∀ whole, isTrue e X.env whole = (do let v ← whole; standAt e.pos; holding [v] (truthy v)) := by intro _; rfl) : JT T Wx X e (cTst f) := PT.imp (pt_val h he) fun σ H Q ⟨g0, H0, c, g, S, ds, fr, pp⟩ => by
  refine tG.bind (r1 := RB T) (r2 := RT) mono_t fr pp fun w S1 g1 H1 v1 e1 fr1 rv1 p1 => ?_
  split at p1
  · cases rv1
    exact ⟨_, rfl, PostG.now (r := RT H1) p1 fr1.st rfl⟩
  · exact p1.elim
/-- values (bools) -/
theorem je_one {op} {f : CE} (h : JE T Wx X a f) : JE T Wx X (.BoolOp op [a] pos) f := pe_one h
def cAndV (f1 f2 : CE) : CE := fun ds S => bindR (f1 ds S) fun w S => match w with
  | .fz (.bl true) => f2 ds S
  | .fz (.bl false) => .ok (.fz (.bl false)) S
  | _ => .bad
def cOrV (f1 f2 : CE) : CE := fun ds S => bindR (f1 ds S) fun w S => match w with
  | .fz (.bl false) => f2 ds S
  | .fz (.bl true) => .ok (.fz (.bl true)) S
  | _ => .bad
theorem je_and (h : JB T Wx X a f1) (h' : JE T Wx X (.BoolOp .And (b :: rest) pos) f2) : JE T Wx X (.BoolOp .And (a :: b :: rest) pos) (cAndV f1 f2) := PE.imp (pe_and h h') fun σ H Q ⟨g0, H0, c, g, S, ds, fr, pp⟩ => by
  refine tG.bind (r1 := RB T) (r2 := RW T) mono_w fr pp fun w S1 g1 H1 v1 e1 fr1 rv1 p1 => ?_
  split at p1
  · cases rv1
    exact ⟨true, rfl, ⟨g0, H0, c, g1, S1, ds, fr1, p1⟩⟩
  · cases rv1
    exact ⟨false, rfl, PostG.now (r := RW T H1) p1 fr1.st (.bl _)⟩
  · exact p1.elim
theorem je_or (h : JB T Wx X a f1) (h' : JE T Wx X (.BoolOp .Or (b :: rest) pos) f2) : JE T Wx X (.BoolOp .Or (a :: b :: rest) pos) (cOrV f1 f2) := PE.imp (pe_or h h') fun σ H Q ⟨g0, H0, c, g, S, ds, fr, pp⟩ => by
  refine tG.bind (r1 := RB T) (r2 := RW T) mono_w fr pp fun w S1 g1 H1 v1 e1 fr1 rv1 p1 => ?_
  split at p1
  · cases rv1
    exact ⟨false, rfl, ⟨g0, H0, c, g1, S1, ds, fr1, p1⟩⟩
  · cases rv1
    exact ⟨true, rfl, PostG.now (r := RW T H1) p1 fr1.st (.bl _)⟩
  · exact p1.elim
def cNotV (f1 : CE) : CE := fun ds S => bindR (f1 ds S) fun w S => match w with
  | .fz (.bl b) => .ok (.fz (.bl (!b))) S
  | _ => .bad
theorem je_not (h : JB T Wx X a f1) : JE T Wx X (.UnaryOp .Not a pos) (cNotV f1) := PE.imp (pe_not h) fun σ H Q ⟨g0, H0, c, g, S, ds, fr, pp⟩ => by
  refine tG.bind (r1 := RB T) (r2 := RW T) mono_w fr pp fun w S1 g1 H1 v1 e1 fr1 rv1 p1 => ?_
  split at p1
  · cases rv1
    exact ⟨_, rfl, PostG.now (r := RW T H1) p1 fr1.st (.bl _)⟩
  · exact p1.elim
def cIf (t : Env → M Bool) (f1 f2 : CE) : CE := fun ds S => bindR (t ds S) fun b S => if b then f1 ds S else f2 ds S
theorem je_if {t : Env → M Bool} {c' : Expr} (ht : JT T Wx X c' t) (ha : JE T Wx X a f1) (hb : JE T Wx X b f2) : JE T Wx X (.IfExp c' a b pos) (cIf t f1 f2) := PE.imp (pe_ifExp ht ha hb) fun σ H Q ⟨g0, H0, c, g, S, ds, fr, pp⟩ => by
  refine tG.bind (r1 := RT) (r2 := RW T) mono_w fr pp fun b' S1 g1 H1 v1 e1 fr1 rv1 p1 => ?_
  subst rv1
  cases b' with
  | true => exact ⟨g0, H0, c, g1, S1, ds, fr1, p1⟩
  | false => exact ⟨g0, H0, c, g1, S1, ds, fr1, p1⟩
end

/-! ### dicts at hand -/
def keyD : D → Option Key
  | .int i => some (.inl i)
  | .str x => some (.inr x)
  | _ => none
def keyW : Wv → Option Key
  | .fz d => keyD d
  | _ => none
def viewK (S : Store) : Wv → Option (List (Key × D))
  | .fz (.dct xs) => some xs
  | .ow (.dct xs) => some xs
  | .fz (.ref n) => match S[n]? with
    | some (.dct xs) => some xs
    | _ => none
  | _ => none
def lkD (kvs : List (Key × D)) (k : Key) : Option D := (kvs.find? fun kv => decide (kv.1 = k)).map (·.2)
def putD (kvs : List (Key × D)) (k : Key) (v : D) : List (Key × D) := if kvs.any fun kv => decide (kv.1 = k) then kvs.map fun kv => if kv.1 = k then (kv.1, v) else kv else kvs ++ [(k, v)]
def delD (kvs : List (Key × D)) (k : Key) : List (Key × D) := kvs.filter fun kv => decide (kv.1 ≠ k)
section
variable {T : Tx} {g : Gh} {H : Hp} {S : Store} {w : Wv} {v : V} {xs : List (Key × D)}
theorem viewK_ok (rs : RelS T g S H) (r : RepB T g H w v) (h : viewK S w = some xs) : ∃ a vs, v = .ref a ∧ H a = some (.dK vs) ∧ RepK T g H xs vs := by
  cases w with
  | fz d =>
    cases d with
    | dct ys =>
      cases h
      cases r with
      | dct h1 _ h2 => exact ⟨_, _, rfl, h1, h2⟩
    | ref n =>
      cases r with
      | ref hio =>
        unfold viewK at h
        dsimp only at h
        cases hn : S[n]? with
        | none =>
          rw [hn] at h
          cases h
        | some so =>
          rw [hn] at h
          cases so with
          | dct ys =>
            cases h
            obtain ⟨ho, h1, h2⟩ := rs.obj n _ _ hn hio
            cases h2 with
            | dct h2 => exact ⟨_, _, rfl, h1, h2⟩
          | lst _ => cases h
          | ins _ _ => cases h
    | _ => cases h
  | ow so =>
    obtain ⟨a, ho, rfl, _, h1, h2⟩ := r
    cases so with
    | dct ys =>
      cases h
      cases h2 with
      | dct h2 => exact ⟨_, _, rfl, h1, h2⟩
    | lst _ => cases h
    | ins _ _ => cases h
  | xc => cases h
theorem keyW_ok {k : Key} (r : RepB T g H w v) (h : keyW w = some k) : v = kV k := by
  cases w with
  | fz d =>
    cases d with
    | int i =>
      cases h
      cases r
      rfl
    | str x =>
      cases h
      cases r
      rfl
    | _ => cases h
  | ow so => cases h
  | xc => cases h
theorem RepK.length {T : Tx} {g : Gh} {H : Hp} : ∀ {ds : List (Key × D)} {vs : List (Key × V)}, RepK T g H ds vs → ds.length = vs.length
  | _, _, .nil => rfl
  | _, _, .cons _ r => congrArg (· + 1) (RepK.length r)
theorem RepK.lk {T : Tx} {g : Gh} {H : Hp} {k : Key} : ∀ {ds : List (Key × D)} {vs : List (Key × V)}, RepK T g H ds vs → (lkD ds k = none ∧ valV vs k = none) ∨ ∃ d v, lkD ds k = some d ∧ valV vs k = some v ∧ Rep T g H d v
  | _, _, .nil => .inl ⟨rfl, rfl⟩
  | (j, d) :: ds, (_, v) :: vs, .cons h r => by
    by_cases e : j = k
    · refine .inr ⟨d, v, ?_, valV_pos e, h⟩
      simp [lkD, List.find?_cons, e]
    · rw [valV_neg (p := (j, v)) e, show lkD ((j, d) :: ds) k = lkD ds k by simp [lkD, List.find?_cons, e]]
      exact RepK.lk r
theorem RepK.any {T : Tx} {g : Gh} {H : Hp} {k : Key} : ∀ {ds : List (Key × D)} {vs : List (Key × V)}, RepK T g H ds vs → (ds.any fun kv => decide (kv.1 = k)) = vs.any fun kv => decide (kv.1 = k)
  | _, _, .nil => rfl
  | (j, d) :: ds, (_, v) :: vs, .cons h r => by
    rw [List.any_cons, List.any_cons, RepK.any r]
theorem RepK.repl {T : Tx} {g : Gh} {H : Hp} {k : Key} {d : D} {v : V} (hd : Rep T g H d v) : ∀ {ds : List (Key × D)} {vs : List (Key × V)}, RepK T g H ds vs →
    RepK T g H (ds.map fun kv => if kv.1 = k then (kv.1, d) else kv) (vs.map fun kv => if kv.1 = k then (kv.1, v) else kv)
  | _, _, .nil => .nil
  | (j, d') :: ds, (_, v') :: vs, .cons h r => by
    rw [List.map_cons, List.map_cons]
    dsimp only
    by_cases e : j = k
    · rw [if_pos e, if_pos e]
      exact .cons hd (RepK.repl hd r)
    · rw [if_neg e, if_neg e]
      exact .cons h (RepK.repl hd r)
theorem RepK.append {T : Tx} {g : Gh} {H : Hp} : ∀ {ds ds' : List (Key × D)} {vs vs' : List (Key × V)}, RepK T g H ds vs → RepK T g H ds' vs' → RepK T g H (ds ++ ds') (vs ++ vs')
  | _, _, _, _, .nil, s => s
  | _, _, _, _, .cons h r, s => .cons h (RepK.append r s)
theorem RepK.put {T : Tx} {g : Gh} {H : Hp} {k : Key} {d : D} {v : V} {ds : List (Key × D)} {vs : List (Key × V)} (hd : Rep T g H d v) (r : RepK T g H ds vs) : RepK T g H (putD ds k d) (putK vs k v) := by
  unfold putD putK
  rw [r.any (k := k)]
  split
  · exact r.repl hd
  · exact r.append (.cons hd .nil)
theorem RepK.del {T : Tx} {g : Gh} {H : Hp} {k : Key} : ∀ {ds : List (Key × D)} {vs : List (Key × V)}, RepK T g H ds vs → RepK T g H (delD ds k) (dropK vs k)
  | _, _, .nil => .nil
  | (j, d') :: ds, (_, v') :: vs, .cons h r => by
    unfold delD dropK
    rw [List.filter_cons, List.filter_cons]
    dsimp only
    by_cases e : j = k
    · rw [if_neg (by simp [e]), if_neg (by simp [e])]
      exact RepK.del r
    · rw [if_pos (by simp [e]), if_pos (by simp [e])]
      exact .cons h (RepK.del r)
end

/-! ### subscripts -/
def atD (xs : List D) (i : Int) : Option D := (ixN xs.length i).bind fun j => xs[j]?
def opIx : Wv → Wv → M Wv := fun w1 w2 S => match w2 with
  | .fz (.int i) => match viewR S w1 with
    | some xs => match atD xs i with
      | some d => .ok (.fz d) S
      | none => .bad
    | none => match w1 with
      | .fz (.tup xs) => match atD xs i with
        | some d => .ok (.fz d) S
        | none => .bad
      | .fz (.str z) => if szOk z.length then (match atI z.cps.toList i with
        | some c => .ok (.fz (.str ⟨#[c]⟩)) S
        | none => .bad) else .bad
      | _ => .bad
  | _ => .bad
theorem atD_ok {T : Tx} {g : Gh} {H : Hp} {xs : List D} {vs : List V} {i : Int} {d : D} (r : Reps T g H xs vs) (h : atD xs i = some d) : ∃ v, atI vs i = some v ∧ Rep T g H d v := by
  unfold atD at h
  unfold atI
  rw [r.length] at h
  cases q : ixN vs.length i with
  | none =>
    rw [q] at h
    cases h
  | some j =>
    rw [q] at h
    exact r.get h
section
variable {T : Tx} {Wx : WX} {X : Cx} {e a b : Expr} {f1 f2 : CE} {pos : Pos}
theorem v_ix : V2 T Wx (RW T) (rIx T.K) opIx := by
  intro g H S σ w1 w2 v1 v2 Q rs r1 r2 p
  unfold opIx at p
  split at p
  · rename_i i
    cases r2
    split at p
    · rename_i xs hx
      split at p
      · rename_i d hd
        obtain ⟨a1, vs1, rfl, q1, s1⟩ := viewR_ok rs r1 hx
        obtain ⟨y, hy, ry⟩ := atD_ok s1 hd
        exact .inl ⟨a1, vs1, i, y, rfl, rfl, q1, hy, PostG.now (r := RW T H) p rs ry⟩
      · exact p.elim
    · split at p
      · rename_i xs _
        split at p
        · rename_i d hd
          obtain ⟨a1, vs1, rfl, q1, s1⟩ := viewT_ok (xs := xs) r1 rfl
          obtain ⟨y, hy, ry⟩ := atD_ok s1 hd
          exact .inr (.inl ⟨a1, vs1, i, y, rfl, rfl, SqT.of q1, hy, PostG.now (r := RW T H) p rs ry⟩)
        · exact p.elim
      · rename_i z _
        cases r1
        split at p
        · rename_i hz
          split at p
          · rename_i c hc
            exact .inr (.inr ⟨z, i, c, rfl, rfl, szOk_of hz, hc, PostG.now (r := RW T H) p rs (.str _)⟩)
          · exact p.elim
        · exact p.elim
      · exact p.elim
  · exact p.elim
theorem je_ix (lv : Lv T Wx X) (ha : JB T Wx X a f1) (hb : JB T Wx X b f2) (hs : PlainIx b := by exact fun _ _ => rfl) : JE T Wx X (.Subscript a b pos) (cBin opIx f1 f2) := by
  have ho : IxR X (rIx T.K) := lv.hK ▸ ix_seq
  exact PE.imp (pe_ix ho ha hb hs) fun σ H Q h => t2 mono_w v_ix h
/-- d[k] -/
def opGet : Wv → Wv → M Wv := fun w1 w2 S => match viewK S w1, keyW w2 with
  | some kvs, some k => match lkD kvs k with
    | some d => .ok (.fz d) S
    | none => .bad
  | _, _ => .bad
def rGetD : R2 := fun x y H Q => ∃ a v, x = .ref a ∧ DGet H a y (some v) ∧ Q v H
theorem v_get : V2 T Wx (RW T) rGetD opGet := by
  intro g H S σ w1 w2 v1 v2 Q rs r1 r2 p
  unfold opGet at p
  split at p
  · rename_i kvs k h1 h2
    split at p
    · rename_i d hd
      obtain ⟨a1, vs1, rfl, q1, s1⟩ := viewK_ok rs r1 h1
      rw [keyW_ok r2 h2]
      rcases s1.lk (k := k) with ⟨z, _⟩ | ⟨d', v, z, zv, rv⟩
      · rw [hd] at z
        cases z
      · rw [hd] at z
        cases z
        exact ⟨a1, v, rfl, zv ▸ DGet.k q1, PostG.now (r := RW T H) p rs rv⟩
    · exact p.elim
  · exact p.elim
theorem je_get (lv : Lv T Wx X) (ha : JB T Wx X a f1) (hb : JB T Wx X b f2) (hs : NoSl b := by exact fun _ _ => rfl) : JE T Wx X (.Subscript a b pos) (cBin opGet f1 f2) :=
  PE.imp (pe_dget (by have := lv.un; omega) ha hb hs) fun σ H Q h => t2 (r := rGetD) mono_w v_get h
/-- a[b], whatever a is -/
def opSub2 : Wv → Wv → M Wv := fun w1 w2 S => match viewK S w1 with
  | some _ => opGet w1 w2 S
  | none => opIx w1 w2 S
theorem je_sub2 (lv : Lv T Wx X) (ha : JB T Wx X a f1) (hb : JB T Wx X b f2) (hs : PlainIx b := by exact fun _ _ => rfl) (hs2 : NoSl b := by exact fun _ _ => rfl) : JE T Wx X (.Subscript a b pos) (cBin opSub2 f1 f2) := by
  have ho : IxR X (rIx T.K) := lv.hK ▸ ix_seq
  refine PE.imp (PE.or (pe_dget (by have := lv.un; omega) ha hb hs2) (pe_ix ho ha hb hs)) fun σ H Q ⟨g0, H0, c, g, S, ds, fr, p⟩ => ?_
  cases q1 : f1 ds S with
  | bad =>
    unfold cBin at p
    rw [q1] at p
    exact p.elim
  | ex x S1 =>
    refine .inl (t2 (r := rGetD) mono_w v_get ⟨g0, H0, c, g, S, ds, fr, ?_⟩)
    unfold cBin at p ⊢
    rw [q1] at p ⊢
    exact p
  | ok w1 S1 =>
    cases q2 : f2 ds S1 with
    | bad =>
      unfold cBin at p
      rw [q1] at p
      dsimp only [bindR] at p
      rw [q2] at p
      exact p.elim
    | ex x S2 =>
      refine .inl (t2 (r := rGetD) mono_w v_get ⟨g0, H0, c, g, S, ds, fr, ?_⟩)
      unfold cBin at p ⊢
      rw [q1] at p ⊢
      dsimp only [bindR] at p ⊢
      rw [q2] at p ⊢
      exact p
    | ok w2 S2 =>
      cases q3 : viewK S2 w1 with
      | some kvs =>
        refine .inl (t2 (r := rGetD) mono_w v_get ⟨g0, H0, c, g, S, ds, fr, ?_⟩)
        unfold cBin at p ⊢
        rw [q1] at p ⊢
        dsimp only [bindR] at p ⊢
        rw [q2] at p ⊢
        dsimp only at p ⊢
        unfold opSub2 at p
        rw [q3] at p
        exact p
      | none =>
        refine .inr (t2 (r := rIx T.K) mono_w v_ix ⟨g0, H0, c, g, S, ds, fr, ?_⟩)
        unfold cBin at p ⊢
        rw [q1] at p ⊢
        dsimp only [bindR] at p ⊢
        rw [q2] at p ⊢
        dsimp only at p ⊢
        unfold opSub2 at p
        rw [q3] at p
        exact p
end
end Mir
set_option Elab.async false
set_option linter.all false
set_option maxRecDepth 100000
/-! Mir5: statements, loops, the body of a def, calls. -/
namespace Mir
open PySem PySem.Spec PyProof.Rows L2

/-! ### blocks -/
def cSkip : CS := fun ds S => .nx ds S
def cSeq (a b : CS) : CS := fun ds S => match a ds S with
  | .nx ds' S' => b ds' S'
  | r => r
def liftR {α : Type} (r : R α) (ds : Env) (k : α → Store → RS) : RS := match r with
  | .ok a S => k a S
  | .ex x S => .ex x ds S
  | .bad => .bad
section
variable {T : Tx} {Wx : WX} {X : Cx} {e : Expr} {g g0 g1 : Gh} {H H0 H1 : Hp} {c : Chk} {S S1 : Store} {ds : Env} {σ : SV} {st : Stmt} {rest : List Stmt} {pos : Pos} {f1 : CE}
theorem jss_nil : JSs T Wx X [] cSkip := PSs.imp pss_nil fun D σ H ⟨g0, H0, c, g, S, ds, fr, p⟩ => p g H σ fr
theorem jss_cons {a b : CS} (h : JS T Wx X st a) (h' : JSs T Wx X rest b) : JSs T Wx X (st :: rest) (cSeq a b) := PSs.imp (pss_cons h h') fun D σ H ⟨g0, H0, c, g, S, ds, fr, p⟩ => by
  refine ⟨g0, H0, c, g, S, ds, fr, ?_⟩
  unfold cSeq at p
  cases q : a ds S with
  | nx ds' S' =>
    rw [q] at p
    exact fun g' H' σ' fr' => ⟨g0, H0, c, g', S', ds', fr', p⟩
  | rt w S' => rw [q] at p; exact p
  | bk ds' S' => rw [q] at p; exact p
  | ct ds' S' => rw [q] at p; exact p
  | ex x ds' S' => rw [q] at p; exact p
  | bad => rw [q] at p; exact p
theorem jss_one {a : CS} (h : JS T Wx X st a) : JSs T Wx X [st] a := PSs.imp (pss_one h) fun D σ H h => h
theorem js_pass : JS T Wx X (.Pass pos) cSkip := PS.imp ps_pass fun D σ H ⟨g0, H0, c, g, S, ds, fr, p⟩ => p g H σ fr

/-- an expression in a statement -/
theorem PostS.expr {α β : Type} {r : Rl α β} (fr : FR T g0 H0 c g H S ds σ) {x : R α} {k : α → Store → RS} {D : Ends} {Q : β → Hp → Prop} (p : PostS T Wx g0 H0 c D (liftR x ds k))
    (h : ∀ w S1 g1 H1 v, Ext g H g1 H1 → FR T g0 H0 c g1 H1 S1 ds σ → r H g1 H1 w v → PostS T Wx g0 H0 c D (k w S1) → Q v H1) : PostG T Wx (r H) g H σ Q x := by
  cases x with
  | ok w S1 => exact fun g1 H1 v e rs rv => h w S1 g1 H1 v e (fr.on e rs) rv p
  | ex x S1 => exact fun g1 H1 cls dx e rs rx => p g1 H1 σ cls dx (fr.on e rs) rx
  | bad => exact p
theorem tG.stmt {α β : Type} {r : Rl α β} {f : Env → M α} (fr : FR T g0 H0 c g H S ds σ) {k : α → Store → RS} {D : Ends} {Q : β → Hp → Prop} (p : PostS T Wx g0 H0 c D (liftR (f ds S) ds k))
    (h : ∀ w S1 g1 H1 v, Ext g H g1 H1 → FR T g0 H0 c g1 H1 S1 ds σ → r H g1 H1 w v → PostS T Wx g0 H0 c D (k w S1) → Q v H1) : tG T Wx r f σ H Q := ⟨g0, H0, c, g, S, ds, fr, PostS.expr fr p h⟩

/-! ### slots -/
/-- a value that may go into a slot -/
def NewIn (T : Tx) (H0 : Hp) (g : Gh) (H : Hp) (ds : Env) (σ : SV) : Wv → V → Prop
  | .fz d, v => Rep T g H d v
  | .ow so, v => ∃ a, v = .ref a ∧ Own T H0 g H so a ∧ ∀ (i : Nat) (so' : SO), ds[i]? = some (some (.ow so')) → σ[i]? ≠ some (some (.ref a))
  | .xc, v => v = .ref T.xa
theorem NewIn.of {Hs : Hp} {gs : Gh} {w : Wv} {v : V} (fr : FR T g0 H0 c gs Hs S ds σ) (r : RepW T Hs g1 H1 w v) : NewIn T H0 g1 H1 ds σ w v := by
  cases w with
  | fz d => exact r
  | ow so =>
    obtain ⟨a, e, o⟩ := r
    refine ⟨a, e, ⟨fr.ext.free o.new, o.liv, o.nio, o.obj⟩, fun i so' hi z => ?_⟩
    obtain ⟨b, hb, ob⟩ := fr.env.ow i so' hi
    rw [z] at hb
    cases hb
    obtain ⟨ho, h1, _⟩ := ob.obj
    rw [o.new] at h1
    cases h1
  | xc => exact r.elim
theorem FR.set {i : Nat} {w : Wv} {v : V} (fr : FR T g0 H0 c g H S ds σ) (n : NewIn T H0 g H ds σ w v) (hi : i < ds.length) : FR T g0 H0 c g H S (ds.set i (some w)) (σ.set i (some v)) := by
  have hi' : i < σ.length := by rw [← fr.env.len]; exact hi
  refine ⟨fr.ext, fr.st, ⟨by simpa using fr.env.len, fun j d h => ?_, fun j so h => ?_, fun j k so so' a ne h1 h2 h3 h4 => ?_, fun j h => ?_⟩, fr.fz, fr.io, fr.ln⟩
  · by_cases e : i = j
    · subst e
      rw [List.getElem?_set_self hi] at h
      cases h
      exact ⟨v, List.getElem?_set_self hi', n⟩
    · rw [List.getElem?_set_ne e] at h ⊢
      exact fr.env.fz j d h
  · by_cases e : i = j
    · subst e
      rw [List.getElem?_set_self hi] at h
      cases h
      obtain ⟨a, ea, o, _⟩ := n
      subst ea
      exact ⟨a, List.getElem?_set_self hi', o⟩
    · rw [List.getElem?_set_ne e] at h ⊢
      exact fr.env.ow j so h
  · by_cases e : i = j
    · subst e
      rw [List.getElem?_set_self hi] at h1
      cases h1
      rw [List.getElem?_set_self hi'] at h3
      rw [List.getElem?_set_ne ne] at h2 h4
      obtain ⟨b, eb, o, nn⟩ := n
      cases h3
      cases eb
      exact nn k so' h2 h4
    · rw [List.getElem?_set_ne e] at h1 h3
      by_cases e' : i = k
      · subst e'
        rw [List.getElem?_set_self hi] at h2
        cases h2
        rw [List.getElem?_set_self hi'] at h4
        obtain ⟨b, eb, o, nn⟩ := n
        cases h4
        cases eb
        exact nn j so h1 h3
      · rw [List.getElem?_set_ne e'] at h2 h4
        exact fr.env.ne j k so so' a ne h1 h2 h3 h4
  · by_cases e : i = j
    · subst e
      rw [List.getElem?_set_self hi] at h
      cases h
      rw [List.getElem?_set_self hi']
      exact congrArg (fun z => some (some z)) n
    · rw [List.getElem?_set_ne e] at h ⊢
      exact fr.env.xc j h
def setE (i : Nat) (w : Wv) (ds : Env) (S : Store) : RS := if i < ds.length then .nx (ds.set i (some w)) S else .bad
def cSet (i : Nat) (f : CE) : CS := fun ds S => liftR (f ds S) ds fun w S => setE i w ds S
theorem js_set {i : Nat} {x : Str} {pos' : Pos} (hN : X.N.Nodup) (hi : X.N[i]? = some x) (hx : Loc X.env.scope x) (he : JE T Wx X e f1) (hs : swapsWith e (some (.Name x pos')) pos.line X.env = pure false := by rfl) (hf : X.fn x = true ∨ X.env.scope.names.lookup x = some .local := by first | exact .inl rfl | exact .inr rfl | assumption) :
    JS T Wx X (.Assign [.Name x pos'] e pos) (cSet i f1) := PS.imp (ps_set hN hi hx he hs hf) fun D σ H ⟨g0, H0, c, g, S, ds, fr, p⟩ =>
  tG.stmt fr p fun w S1 g1 H1 v e1 fr1 rv p1 => by
    unfold setE at p1
    split at p1
    · rename_i hl
      exact p1 g1 H1 _ (fr1.set (NewIn.of fr rv) hl)
    · exact p1.elim
def cRet (f : CE) : CS := fun ds S => liftR (f ds S) ds fun w S => .rt w S
theorem js_ret (he : JE T Wx X e f1) : JS T Wx X (.Return (some e) pos) (cRet f1) := PS.imp (ps_ret he) fun D σ H ⟨g0, H0, c, g, S, ds, fr, p⟩ =>
  tG.stmt fr p fun w S1 g1 H1 v e1 fr1 rv p1 => p1 g1 H1 v fr1.ext fr1.st (mono_w _ _ _ _ _ _ (fun a z => fr.ext.free z) rv)
/-- return x, a name: what is its own goes with it -/
def cRetV (i : Nat) : CS := fun ds S => match ds[i]? with
  | some (some (.fz d)) => .rt (.fz d) S
  | some (some (.ow so)) => .rt (.ow so) S
  | _ => .bad
theorem js_retv (i : Nat) {x : Str} {p' : Pos} (hN : X.N[i]? = some x := by rfl) (hv : Vis X.env.scope x := by first | exact Or.inl rfl | exact Or.inr (Or.inl rfl) | exact Or.inr (Or.inr rfl)) (hd : (x == ("__debug__" : Str)) = false := by decide)
    (hcd : (x == ("__classdict__" : Str)) = false := by decide) : JS T Wx X (.Return (some (.Name x p')) pos) (cRetV i) := PS.imp (ps_ret (pe_var hN hv hd hcd)) fun D σ H ⟨g0, H0, c, g, S, ds, fr, p⟩ => by
  unfold cRetV at p
  split at p
  · rename_i d h
    obtain ⟨v, hv, rv⟩ := fr.env.fz i d h
    exact ⟨v, hv, p g H v fr.ext fr.st rv⟩
  · rename_i so h
    obtain ⟨ad, hv, o⟩ := fr.env.ow i so h
    exact ⟨_, hv, p g H _ fr.ext fr.st ⟨ad, rfl, o⟩⟩
  · exact p.elim
def cRetN : CS := fun _ S => .rt (.fz .non) S
theorem js_retn : JS T Wx X (.Return none pos) cRetN := PS.imp ps_retN fun D σ H ⟨g0, H0, c, g, S, ds, fr, p⟩ => p g H .non fr.ext fr.st .non
def cDrop (f : CE) : CS := fun ds S => liftR (f ds S) ds fun _ S => .nx ds S
theorem js_drop (he : JE T Wx X e f1) (hs : swapsWith e none pos.line X.env = pure false := by rfl) : JS T Wx X (.Expr e pos) (cDrop f1) := PS.imp (ps_expr he hs) fun D σ H ⟨g0, H0, c, g, S, ds, fr, p⟩ =>
  tG.stmt fr p fun w S1 g1 H1 v e1 fr1 rv p1 => p1 g1 H1 σ fr1
theorem js_doc {x j pos pos'} : JS T Wx X (.Expr (.Constant (.str x) j pos) pos') cSkip := PS.imp ps_doc fun D σ H ⟨g0, H0, c, g, S, ds, fr, p⟩ => p g H σ fr
def cIfS (t : Env → M Bool) (a b : CS) : CS := fun ds S => liftR (t ds S) ds fun k S => if k then a ds S else b ds S
theorem js_if {t : Env → M Bool} {c' : Expr} {ss ss' : List Stmt} {a b : CS} (ht : JT T Wx X c' t) (ha : JSs T Wx X ss a) (hb : JSs T Wx X ss' b) : JS T Wx X (.If c' ss ss' pos) (cIfS t a b) := PS.imp (ps_if ht ha hb) fun D σ H ⟨g0, H0, c, g, S, ds, fr, p⟩ =>
  tG.stmt (r := RT) fr p fun k S1 g1 H1 v e1 fr1 rv p1 => by
    subst rv
    cases k with
    | true => exact ⟨g0, H0, c, g1, S1, ds, fr1, p1⟩
    | false => exact ⟨g0, H0, c, g1, S1, ds, fr1, p1⟩
def cBreak : CS := fun ds S => .bk ds S
def cCont : CS := fun ds S => .ct ds S
theorem js_break : JS T Wx X (.Break pos) cBreak := PS.imp ps_break fun D σ H ⟨g0, H0, c, g, S, ds, fr, p⟩ => p g H σ fr
theorem js_cont : JS T Wx X (.Continue pos) cCont := PS.imp ps_continue fun D σ H ⟨g0, H0, c, g, S, ds, fr, p⟩ => p g H σ fr

/-- a slot's own thing is frozen -/
def frzE (i : Nat) (ds : Env) : Env := match ds[i]? with
  | some (some (.ow so)) => ds.set i (some (.fz (Wv.ow so).frz))
  | _ => ds
theorem FR.frz (i : Nat) (fr : FR T g0 H0 c g H S ds σ) : ∃ g', FR T g0 H0 c g' H S (frzE i ds) σ := by
  unfold frzE
  split
  · rename_i so h
    · have _ := h
      obtain ⟨a, ha, o⟩ := fr.env.ow i so h
      obtain ⟨ho, hH, p⟩ := o.obj
      have hi : i < ds.length := (List.getElem?_eq_some_iff.mp h).1
      have fx : Fix g H ⟨g.io, fun b => g.L b ∧ b ≠ a⟩ H := ⟨⟨[], by simp⟩, fun b u hb n => ⟨hb, fun z => n z.1⟩⟩
      have na : ¬ (g.L a ∧ a ≠ a) := fun z => z.2 rfl
      refine ⟨⟨g.io, fun b => g.L b ∧ b ≠ a⟩, ⟨fr.ext.pre, fr.ext.trk, fun b u hb => ?_, fr.ext.kp⟩, ⟨fr.st.len, fr.st.nd, fun b hb => ⟨fr.st.liv b hb, fun z => o.nio (z ▸ hb)⟩, fun n so' b h1 h2 => ?_⟩,
        ⟨by simpa using fr.env.len, fun j d hj => ?_, fun j so' hj => ?_, fun j k so1 so2 b ne h1 h2 h3 h4 => ?_, fun j hj => ?_⟩, fun b u hb => ⟨(fr.fz b u hb).1, fun z => (fr.fz b u hb).2 z.1⟩, fr.io, fun b u hb => ⟨(fr.ln b u hb).1, fun z => (fr.ln b u hb).2 z.1⟩⟩
      · have nb : b ≠ a := fun z => by
          rw [z, o.new] at hb
          cases hb
        exact ⟨fun z => (fr.ext.liv b u hb).mp z.1, fun z => ⟨(fr.ext.liv b u hb).mpr z, nb⟩⟩
      · obtain ⟨ho', h3, p'⟩ := fr.st.obj n so' b h1 h2
        exact ⟨ho', h3, p'.fix fx⟩
      · by_cases e : i = j
        · subst e
          rw [List.getElem?_set_self hi] at hj
          cases hj
          refine ⟨_, ha, ?_⟩
          have p2 := p.fix fx
          cases p2 with
          | lst r => exact .lst hH na r
          | dct r => exact .dct hH na r
          | ins r => exact .ins hH na r
        · rw [List.getElem?_set_ne e] at hj
          obtain ⟨v, hv, rv⟩ := fr.env.fz j d hj
          exact ⟨v, hv, rv.fix fx⟩
      · by_cases e : i = j
        · subst e
          rw [List.getElem?_set_self hi] at hj
          cases hj
        · rw [List.getElem?_set_ne e] at hj
          obtain ⟨b, hb, ob⟩ := fr.env.ow j so' hj
          have nb : b ≠ a := fun z => fr.env.ne i j so so' a e h hj ha (z ▸ hb)
          obtain ⟨ho', h3, p'⟩ := ob.obj
          exact ⟨b, hb, ob.new, ⟨ob.liv, nb⟩, ob.nio, ho', h3, p'.fix fx⟩
      · have f : ∀ {m : Nat} {s : SO}, (ds.set i (some (Wv.fz (Wv.ow so).frz)))[m]? = some (some (.ow s)) → ds[m]? = some (some (.ow s)) := fun {m s} q => by
          by_cases e : i = m
          · subst e
            rw [List.getElem?_set_self hi] at q
            cases q
          · rw [List.getElem?_set_ne e] at q
            exact q
        exact fr.env.ne j k so1 so2 b ne (f h1) (f h2) h3 h4
      · by_cases e : i = j
        · subst e
          rw [List.getElem?_set_self hi] at hj
          cases hj
        · rw [List.getElem?_set_ne e] at hj
          exact fr.env.xc j hj
  · exact ⟨g, fr⟩
/-- ahead of the statement slot i is frozen -/
def cFrz (i : Nat) (a : CS) : CS := fun ds S => a (frzE i ds) S
theorem js_frz (i : Nat) {a : CS} (h : JS T Wx X st a) : JS T Wx X st (cFrz i a) := PS.imp h fun D σ H ⟨g0, H0, c, g, S, ds, fr, p⟩ => by
  obtain ⟨g', fr'⟩ := fr.frz i
  exact ⟨g0, H0, c, g', S, _, fr', p⟩

/-! ### targets -/
inductive Tgt where
  | nm (i : Nat) | tp (is : List Nat)
def setAll : List Nat → List D → Env → Option Env
  | [], [], ds => some ds
  | i :: is, d :: r, ds => if i < ds.length then setAll is r (ds.set i (some (.fz d))) else none
  | _, _, _ => none
def itemsOf (S : Store) (w : Wv) : Option (List D) := match viewT w with
  | some xs => some xs
  | none => viewR S w
def asgT (t : Tgt) (w : Wv) (S : Store) (ds : Env) : Option Env := match t with
  | .nm i => if i < ds.length then some (ds.set i (some w)) else none
  | .tp is => match itemsOf S w with
    | some xs => setAll is xs ds
    | none => none
def tGt (T : Tx) (t : Tgt) : TG := fun v σ H Q => ∃ g0 H0 c g S ds w ds', FR T g0 H0 c g H S ds σ ∧ RepB T g H w v ∧ NewIn T H0 g H ds σ w v ∧ asgT t w S ds = some ds' ∧ ∀ σ', FR T g0 H0 c g H S ds' σ' → Q σ' H
def JG (T : Tx) (X : Cx) (target : Expr) (t : Tgt) : Prop := PG X target (tGt T t)
theorem PG.imp {target : Expr} {t t' : TG} (h : PG X target t) (i : ∀ v σ H Q, t' v σ H Q → t v σ H Q) : PG X target t' := ⟨fun pins s σ H v u Q I r q => h.run pins s σ H v u Q I r (i v σ H Q q)⟩
theorem PG.or {target : Expr} {t t' : TG} (h : PG X target t) (h' : PG X target t') : PG X target (fun v σ H Q => t v σ H Q ∨ t' v σ H Q) := ⟨fun pins s σ H v u Q I r q => q.elim (h.run pins s σ H v u Q I r) (h'.run pins s σ H v u Q I r)⟩
theorem jg_name {i : Nat} {x : Str} (hN : X.N.Nodup) (hi : X.N[i]? = some x) (hx : Loc X.env.scope x) (hf : X.fn x = true ∨ X.env.scope.names.lookup x = some .local := by first | exact .inl rfl | exact .inr rfl | assumption) : JG T X (.Name x pos) (.nm i) :=
  PG.imp (pg_name hN hi hx hf) fun v σ H Q ⟨g0, H0, c, g, S, ds, w, ds', fr, rb, n, e, q⟩ => by
    unfold asgT at e
    dsimp only at e
    split at e
    · rename_i hl
      cases e
      exact q _ (fr.set n hl)
    · cases e
/-- the names of a tuple target -/
def tNms : List Nat → TGs
  | [] => gNil
  | i :: is => gCons (gName i) (tNms is)
theorem nms_ok {is : List Nat} : ∀ {xs : List D} {vs : List V} {ds ds' : Env} {σ : SV} {Q : SV → Hp → Prop}, FR T g0 H0 c g H S ds σ → Reps T g H xs vs → setAll is xs ds = some ds' → (∀ σ', FR T g0 H0 c g H S ds' σ' → Q σ' H) → tNms is vs σ H Q := by
  induction is with
  | nil =>
    intro xs vs ds ds' σ Q fr r e q
    cases xs with
    | nil =>
      cases e
      cases r
      exact ⟨rfl, q _ fr⟩
    | cons _ _ => cases e
  | cons i is ih =>
    intro xs vs ds ds' σ Q fr r e q
    cases xs with
    | nil => cases e
    | cons d xr =>
      cases r with
      | cons rd rr =>
        unfold setAll at e
        split at e
        · rename_i hl
          refine ⟨_, _, rfl, ?_⟩
          exact ih (fr.set (w := .fz d) rd hl) rr e q
        · cases e
theorem setAll_len : ∀ {is : List Nat} {xs : List D} {ds ds' : Env}, setAll is xs ds = some ds' → is.length = xs.length
  | [], [], _, _, _ => rfl
  | [], _ :: _, _, _, h => nomatch h
  | _ :: _, [], _, _, h => nomatch h
  | i :: is, d :: r, ds, ds', h => by
    unfold setAll at h
    split at h
    · rw [List.length_cons, List.length_cons, setAll_len h]
    · cases h
theorem jg_tup {is : List Nat} {es : List Expr} {k : Nat} (lv : Lv T Wx X) (hc : X.calm = true) (h : PGs X es (tNms is)) (hl : es.length = is.length := by rfl)
    (hn : (assignEach es X.env).length = is.length := by rfl) (hst : (assignEach es X.env).findIdx? (·.1) = none := by rfl) : JG T X (.Tuple es k pos) (.tp is) :=
  PG.imp (PG.or (pg_tup hc h hn hst) (pg_lst hc h hn hst)) fun v σ H Q ⟨g0, H0, c, g, S, ds, w, ds', fr, rb, n, e, q⟩ => by
    have hK := lv.hK
    unfold asgT itemsOf at e
    dsimp only at e
    cases hT : viewT w with
    | some xs =>
      rw [hT] at e
      dsimp only at e
      obtain ⟨a, vs, rfl, h1, r⟩ := viewT_ok rb hT
      exact .inl ⟨a, vs, rfl, SqT.of h1, by rw [← r.length, setAll_len e], nms_ok fr r e q⟩
    | none =>
      rw [hT] at e
      dsimp only at e
      cases hL : viewR S w with
      | none =>
        rw [hL] at e
        cases e
      | some xs =>
        rw [hL] at e
        dsimp only at e
        obtain ⟨a, vs, rfl, h1, r⟩ := viewR_ok fr.st rb hL
        exact .inr ⟨a, vs, rfl, hK ▸ h1, by rw [← r.length, setAll_len e], nms_ok fr r e q⟩
/-- a, b, .. = e -/
def cAsg (t : Tgt) (f : CE) : CS := fun ds S => liftR (f ds S) ds fun w S => match asgT t w S ds with
  | some ds' => .nx ds' S
  | none => .bad
theorem js_asg {t : Tgt} {tg : Expr} (he : JE T Wx X e f1) (hg : JG T X tg t) (hs : swapsWithSole [tg] e pos.line X.env = pure false := by rfl) (hw : swappedStores [tg] e X.env = pure none := by rfl)
    (h1 : (assignEach [tg] X.env).map (·.2) = [assign tg X.env] := by rfl) : JS T Wx X (.Assign [tg] e pos) (cAsg t f1) := PS.imp (ps_asg he hg hs hw h1) fun D σ H ⟨g0, H0, c, g, S, ds, fr, p⟩ =>
  tG.stmt fr p fun w S1 g1 H1 v e1 fr1 rv p1 => by
    split at p1
    · rename_i ds' ha
      exact ⟨g0, H0, c, g1, S1, ds, w, ds', fr1, rv.b, NewIn.of fr rv, ha, fun σ' fr' => p1 g1 H1 σ' fr'⟩
    · exact p1.elim
/-- x op= e -/
def cAug (i : Nat) (k : Wv → Wv → M Wv) (f : CE) : CS := fun ds S => match ds[i]? with
  | some (some .xc) => .bad
  | some (some w) => liftR (bindR (f ds S) fun w2 S => k w w2 S) ds fun w S => setE i w ds S
  | _ => .bad
theorem js_aug {i : Nat} {x : Str} {op : Operator} {pos' : Pos} {r : R2} {k : Wv → Wv → M Wv} (hN : X.N.Nodup) (hi : X.N[i]? = some x) (hx : Loc X.env.scope x) (he : JB T Wx X e f1) (ho : PIp X op r) (hv : V2 T Wx (RW T) r k) (hf : X.fn x = true ∨ X.env.scope.names.lookup x = some .local := by first | exact .inl rfl | exact .inr rfl | assumption) :
    JS T Wx X (.AugAssign (.Name x pos') op e pos) (cAug i k f1) := PS.imp (ps_aug hN hi hx he ho hf) fun D σ H ⟨g0, H0, c, g, S, ds, fr, p⟩ => by
  unfold cAug at p
  split at p
  · exact p.elim
  · rename_i w nx hw
    have slot : ∃ v, σ[i]? = some (some v) ∧ RepB T g H w v := by
      cases w with
      | xc => exact (nx rfl).elim
      | fz d => exact fr.env.fz i d hw
      | ow so =>
        obtain ⟨ad, hv, o⟩ := fr.env.ow i so hw
        obtain ⟨ho, h1, h2⟩ := o.obj
        exact ⟨_, hv, ad, ho, rfl, o.nio, h1, h2⟩
    obtain ⟨v, hv', rb⟩ := slot
    refine ⟨v, hv', ⟨g0, H0, c, g, S, ds, fr, ?_⟩⟩
    have fin : PostG T Wx (RW T H) g H σ (fun z H2 => D.nx (σ.set i (some z)) H2) (bindR (f1 ds S) fun w2 S => k w w2 S) := PostS.expr (r := RW T) fr p fun w3 S1 g1 H1 z e1 fr1 rv p1 => by
      unfold setE at p1
      split at p1
      · rename_i hl
        exact p1 g1 H1 _ (fr1.set (NewIn.of fr rv) hl)
      · exact p1.elim
    exact PostG.bind (r1 := RB T) (r2 := RW T) mono_w fr fin fun w2 S1 g1 H1 v2 e1 fr1 rv1 p1 => hv g1 H1 S1 σ w w2 v v2 _ fr1.st (rb.ext e1 fr.st) rv1 p1
  · exact p.elim
end
end Mir
set_option Elab.async false
set_option linter.all false
set_option maxRecDepth 100000
/-! Mir6: what is walked, for, while; changes of a slot's or the store's things; a def's body, calls. -/
namespace Mir
open PySem PySem.Spec PyProof.Rows L2

/-! ### what is walked -/
def Held (c : Chk) (g : Gh) (H : Hp) : Prop := (∀ a o, c.fz a o → H a = some o ∧ ¬ g.L a) ∧ ∃ t, g.io = c.io ++ t
structure IterOk (T : Tx) (J : It) (items : List D) (c : Chk) : Prop where
  go : ∀ i g H S, i < items.length → Held c g H → RelS T g S H → J.go i H
  stop : ∀ g H S, Held c g H → RelS T g S H → J.stop items.length H
  yld : ∀ i d g H S x H', items[i]? = some d → Held c g H → RelS T g S H → J.yld i H x H' → ∃ g', Ext g H g' H' ∧ RelS T g' S H' ∧ Rep T g' H' d x
/-- c leans on no less than c0 -/
def Chk.Le (c0 c : Chk) : Prop := (∀ a o, c0.fz a o → c.fz a o) ∧ ∃ t, c.io = c0.io ++ t
def PostI (T : Tx) (Wx : WX) (c : Chk) (g : Gh) (H : Hp) (σ : SV) (Rr : It → Hp → Prop) : R (List D) → Prop
  | .ok items S' => ∀ g' H' J c', Ext g H g' H' → RelS T g' S' H' → Held c' g' H' → c.Le c' → IterOk T J items c' → Rr J H'
  | .ex x S' => ∀ g' H' cls dx, Ext g H g' H' → RelS T g' S' H' → RepX T g' H' x cls dx → Wx cls dx σ H'
  | .bad => False
def tI (T : Tx) (Wx : WX) (f : Env → M (List D)) : TI := fun σ H Rr => ∃ g0 H0 c g S ds, FR T g0 H0 c g H S ds σ ∧ PostI T Wx c g H σ Rr (f ds S)
def JI (T : Tx) (Wx : WX) (X : Cx) (tg e : Expr) (f : Env → M (List D)) : Prop := PI X tg e (tI T Wx f)
theorem PI.imp {X : Cx} {tg e : Expr} {t t' : TI} (h : PI X tg e t) (i : ∀ σ H Q, t' σ H Q → t σ H Q) : PI X tg e t' := ⟨fun pins s σ H Q I q => h.run pins s σ H Q I (i σ H Q q)⟩
theorem PI.or {X : Cx} {tg e : Expr} {t t' : TI} (h : PI X tg e t) (h' : PI X tg e t') : PI X tg e (fun σ H Q => t σ H Q ∨ t' σ H Q) := ⟨fun pins s σ H Q I q => q.elim (h.run pins s σ H Q I) (h'.run pins s σ H Q I)⟩
/-- all that is frozen now -/
def Chk.now (g : Gh) (H : Hp) : Chk := ⟨fun a o => H a = some o ∧ ¬ g.L a, g.io⟩
theorem Chk.now_held (g : Gh) (H : Hp) : Held (Chk.now g H) g H := ⟨fun _ _ h => h, [], by simp [Chk.now]⟩
theorem Chk.now_fix {g g' : Gh} {H H' : Hp} (h : Held (Chk.now g H) g' H') : Fix g H g' H' := ⟨h.2, fun a o e n => h.1 a o ⟨e, n⟩⟩
section
variable {T : Tx} {Wx : WX} {X : Cx} {e : Expr} {g g0 g1 : Gh} {H H0 H1 : Hp} {c : Chk} {S S1 : Store} {ds : Env} {σ : SV} {st : Stmt} {rest : List Stmt} {pos : Pos} {f1 : CE} {tg : Expr}
theorem FR.now (fr : FR T g0 H0 c g H S ds σ) : c.Le (Chk.now g H) := ⟨fun a o h => fr.fz a o h, fr.io⟩
theorem FR.held (fr : FR T g0 H0 c g H S ds σ) : Held c g H := ⟨fr.fz, fr.io⟩
/-- the items of a frozen list, tuple, the script -/
def itemsD : D → Option (List D)
  | .lst xs => some xs
  | .tup xs => some xs
  | .scr ns => some (ns.map D.int)
  | _ => none
def cItems (f : Env → M D) : Env → M (List D) := fun ds S => bindR (f ds S) fun d S => match itemsD d with
  | some xs => .ok xs S
  | none => .bad
theorem iter_lst {a : Addr} {vs : List V} {items : List D} (hs : ∀ g' H', Held (Chk.now g H) g' H' → SqL T.K H' a vs) (r : Reps T g H items vs) : IterOk T (Itl T.K a) items (Chk.now g H) := by
  refine ⟨fun i g' H' S hi hh _ => ?_, fun g' H' S hh _ => ?_, fun i d g' H' S x H2 hd hh rs hy => ?_⟩
  · obtain ⟨v, hv, _⟩ := r.get (List.getElem?_eq_getElem hi)
    exact ⟨vs, v, hs g' H' hh, hv⟩
  · exact ⟨vs, hs g' H' hh, by rw [r.length]; exact Nat.le_refl _⟩
  · obtain ⟨rfl, q⟩ := hy
    obtain ⟨v, hv, rv⟩ := r.get hd
    have e1 := q vs (hs g' H2 hh)
    rw [hv] at e1
    cases e1
    exact ⟨g', Ext.refl _ _, rs, rv.fix (Chk.now_fix hh)⟩
theorem iter_tup {a : Addr} {vs : List V} {items : List D} (hs : ∀ g' H', Held (Chk.now g H) g' H' → SqT T.K H' a vs) (r : Reps T g H items vs) : IterOk T (Itt T.K a) items (Chk.now g H) := by
  refine ⟨fun i g' H' S hi hh _ => ?_, fun g' H' S hh _ => ?_, fun i d g' H' S x H2 hd hh rs hy => ?_⟩
  · obtain ⟨v, hv, _⟩ := r.get (List.getElem?_eq_getElem hi)
    exact ⟨vs, v, hs g' H' hh, hv⟩
  · exact ⟨vs, hs g' H' hh, by rw [r.length]; exact Nat.le_refl _⟩
  · obtain ⟨rfl, q⟩ := hy
    obtain ⟨v, hv, rv⟩ := r.get hd
    have e1 := q vs (hs g' H2 hh)
    rw [hv] at e1
    cases e1
    exact ⟨g', Ext.refl _ _, rs, rv.fix (Chk.now_fix hh)⟩
/-- one expression, then an iterator -/
theorem tG.iter {α β : Type} {r : Rl α β} {f : Env → M α} {k : α → Store → R (List D)} {Rr : It → Hp → Prop} {Q : β → Hp → Prop} (fr : FR T g0 H0 c g H S ds σ) (p : PostI T Wx c g H σ Rr (bindR (f ds S) k))
    (h : ∀ w S1 g1 H1 v, f ds S = .ok w S1 → Ext g H g1 H1 → FR T g0 H0 c g1 H1 S1 ds σ → r H g1 H1 w v → PostI T Wx c g1 H1 σ Rr (k w S1) → Q v H1) : tG T Wx r f σ H Q := by
  refine ⟨g0, H0, c, g, S, ds, fr, ?_⟩
  cases q : f ds S with
  | ok w S1 =>
    rw [q] at p
    intro g1 H1 v e1 rs rv
    refine h w S1 g1 H1 v q e1 (fr.on e1 rs) rv ?_
    dsimp only [bindR] at p
    cases q2 : k w S1 with
    | ok items S2 =>
      rw [q2] at p
      exact fun g' H' J c' e' => p g' H' J c' (e1.trans e')
    | ex x S2 =>
      rw [q2] at p
      exact fun g' H' cls dx e' => p g' H' cls dx (e1.trans e')
    | bad =>
      rw [q2] at p
      exact p
  | ex x S1 =>
    rw [q] at p
    exact p
  | bad =>
    rw [q] at p
    exact p
theorem FzL.sq {a : Addr} {xs : List V} (z : FzL T.K g H a xs) : SqL T.K H a xs := by
  rcases z with ⟨z, _⟩ | z
  · exact .inl z
  · exact .inr z
theorem ji_seq {f : Env → M D} (lv : Lv T Wx X) (h : JD T Wx X e f) : JI T Wx X tg e (cItems f) := PI.imp (PI.or (pi_list h) (pi_tup h)) fun σ H Rr ⟨g0, H0, c, g, S, ds, fr, p⟩ => by
  have hK := lv.hK
  have left : (∀ xs S1, f ds S ≠ .ok (.tup xs) S1) → iList X.K (tG T Wx (RD T) f) σ H Rr := fun nt => by
    refine tG.iter (r := RD T) fr p fun d S1 g1 H1 v hf e1 fr1 rv p1 => ?_
    split at p1
    · rename_i items hi
      cases d with
      | lst xs =>
        cases hi
        cases rv with
        | lst h1 n1 r1 =>
          refine ⟨_, rfl, ⟨_, SqL.of h1⟩, ?_⟩
          refine p1 g1 H1 _ (Chk.now g1 H1) (Ext.refl _ _) fr1.st (Chk.now_held _ _) fr1.now ?_
          rw [hK]
          exact iter_lst (fun g' H' hh => SqL.of (hh.1 _ _ ⟨h1, n1⟩).1) r1
      | tup xs => exact (nt xs S1 hf).elim
      | scr ns =>
        cases hi
        cases rv with
        | scr h1 =>
          refine ⟨_, rfl, ⟨_, hK.symm ▸ FzL.sq h1⟩, ?_⟩
          refine p1 g1 H1 _ (Chk.now g1 H1) (Ext.refl _ _) fr1.st (Chk.now_held _ _) fr1.now ?_
          rw [hK]
          exact iter_lst (fun g' H' hh => FzL.sq ((Chk.now_fix hh).fzl h1)) (reps_ints ns)
      | _ => cases hi
    · exact p1.elim
  cases q : f ds S with
  | bad => exact .inl (left fun _ _ z => by rw [q] at z; cases z)
  | ex x S1 => exact .inl (left fun _ _ z => by rw [q] at z; cases z)
  | ok d S1 =>
    by_cases ht : ∃ xs, d = .tup xs
    · obtain ⟨xs, rfl⟩ := ht
      refine .inr (tG.iter (r := RD T) fr p fun d S1 g1 H1 v hf e1 fr1 rv p1 => ?_)
      rw [q] at hf
      cases hf
      cases rv with
      | tup h1 n1 r1 =>
        refine ⟨_, rfl, ⟨_, SqT.of h1⟩, ?_⟩
        refine p1 g1 H1 _ (Chk.now g1 H1) (Ext.refl _ _) fr1.st (Chk.now_held _ _) fr1.now ?_
        rw [hK]
        exact iter_tup (fun g' H' hh => SqT.of (hh.1 _ _ ⟨h1, n1⟩).1) r1
    · exact .inl (left fun xs S2 z => by
        rw [q] at z
        cases z
        exact ht ⟨_, rfl⟩)
/-- range -/
def rngOk (i : Int) : Bool := decide (-(2 ^ 62) ≤ i) && decide (i < 2 ^ 62)
theorem rngOk_of {i : Int} (h : rngOk i = true) : -(2 ^ 62) ≤ i ∧ i < 2 ^ 62 := by
  rcases Bool.and_eq_true_iff.mp h with ⟨h1, h2⟩
  exact ⟨of_decide_eq_true h1, of_decide_eq_true h2⟩
def rngD (lo : Int) (n : Nat) : List D := (List.range n).map fun i => .int (lo + (i : Nat))
def rng1 : List D → M (List D) := fun xs S => match xs with
  | [.int j] => if rngOk j then .ok (rngD 0 j.toNat) S else .bad
  | _ => .bad
def rng2 : List D → M (List D) := fun xs S => match xs with
  | [.int i, .int j] => if rngOk i && rngOk j then .ok (rngD i (j - i).toNat) S else .bad
  | _ => .bad
def cRng (k : List D → M (List D)) (fs : Env → M (List D)) : Env → M (List D) := fun ds S => bindR (fs ds S) fun xs S => k xs S
theorem iter_rng (lo : Int) (n : Nat) : IterOk T (Itr lo n) (rngD lo n) (Chk.now g H) := by
  have hl : (rngD lo n).length = n := by simp [rngD]
  refine ⟨fun i g' H' S hi hh _ => ?_, fun g' H' S hh _ => ?_, fun i d g' H' S x H2 hd hh rs hy => ?_⟩
  · show i < n
    rw [hl] at hi
    exact hi
  · show n ≤ (rngD lo n).length
    rw [hl]
    exact Nat.le_refl _
  · obtain ⟨rfl, rfl⟩ := hy
    have hi : i < n := by
      have := (List.getElem?_eq_some_iff.mp hd).1
      rw [hl] at this
      exact this
    have e1 : (rngD lo n)[i]? = some (.int (lo + (i : Nat))) := by simp [rngD, hi]
    rw [e1] at hd
    cases hd
    exact ⟨g', Ext.refl _ _, rs, .int _⟩
theorem ji_rng1 {a : Expr} {fs : Env → M (List D)} {p' : Pos} (hg : Gl X "range") (hm : X.mg "range" = none) (ha : JA T Wx X [a] fs) (hs : starEach [a] X.env = [(false, eval a X.env)] := by rfl) : JI T Wx X tg (.Call (.Name "range" p') [a] [] pos) (cRng rng1 fs) :=
  PI.imp (pi_range1 hg hm ha hs) fun σ H Rr ⟨g0, H0, c, g, S, ds, fr, p⟩ => by
    refine tG.iter (r := RA T) fr p fun xs S1 g1 H1 vs hf e1 fr1 rv p1 => ?_
    unfold rng1 at p1
    split at p1
    · rename_i j
      split at p1
      · rename_i hz
        cases rv with
        | cons r1 r2 =>
          cases r2
          cases r1
          exact ⟨j, rfl, (rngOk_of hz).1, (rngOk_of hz).2, p1 g1 H1 _ (Chk.now g1 H1) (Ext.refl _ _) fr1.st (Chk.now_held _ _) fr1.now (iter_rng 0 j.toNat)⟩
      · exact p1.elim
    · exact p1.elim
theorem ji_rng2 {a b : Expr} {fs : Env → M (List D)} {p' : Pos} (hg : Gl X "range") (hm : X.mg "range" = none) (ha : JA T Wx X [a, b] fs) (hs : starEach [a, b] X.env = [(false, eval a X.env), (false, eval b X.env)] := by rfl) (hs2 : starEach [b] X.env = [(false, eval b X.env)] := by rfl) :
    JI T Wx X tg (.Call (.Name "range" p') [a, b] [] pos) (cRng rng2 fs) :=
  PI.imp (pi_range2 hg hm ha hs hs2) fun σ H Rr ⟨g0, H0, c, g, S, ds, fr, p⟩ => by
    refine tG.iter (r := RA T) fr p fun xs S1 g1 H1 vs hf e1 fr1 rv p1 => ?_
    unfold rng2 at p1
    split at p1
    · rename_i i j
      split at p1
      · rename_i hz
        rcases Bool.and_eq_true_iff.mp hz with ⟨z1, z2⟩
        cases rv with
        | cons r1 r2 =>
          cases r2 with
          | cons r2 r3 =>
            cases r3
            cases r1
            cases r2
            exact ⟨i, j, rfl, ⟨(rngOk_of z1).1, (rngOk_of z1).2, (rngOk_of z2).1, (rngOk_of z2).2⟩, p1 g1 H1 _ (Chk.now g1 H1) (Ext.refl _ _) fr1.st (Chk.now_held _ _) fr1.now (iter_rng i (j - i).toNat)⟩
      · exact p1.elim
    · exact p1.elim

/-! ### for -/
def forRun (t : Tgt) (body : CS) : List D → Env → Store → RS
  | [], ds, S => .nx ds S
  | d :: r, ds, S => match asgT t (.fz d) S ds with
    | none => .bad
    | some ds1 => match body ds1 S with
      | .nx ds2 S2 => forRun t body r ds2 S2
      | .ct ds2 S2 => forRun t body r ds2 S2
      | .bk ds2 S2 => .nx ds2 S2
      | .rt w S2 => .rt w S2
      | .ex x ds2 S2 => .ex x ds2 S2
      | .bad => .bad
def cFor (fi : Env → M (List D)) (t : Tgt) (body : CS) : CS := fun ds S => liftR (fi ds S) ds fun items S => forRun t body items ds S
theorem Held.io_fix {c' : Chk} {g : Gh} {H : Hp} (h : Held c' g H) : True := trivial
theorem js_for {fi : Env → M (List D)} {t : Tgt} {b : CS} {iter : Expr} {body : List Stmt} (lv : Lv T Wx X) (hc : X.calm = true) (hp : PassesOwn (model X.prog X.w) X.A X.env X.xe) (hi : JI T Wx X tg iter fi) (hg : JG T X tg t) (hb : JSs T Wx X body b)
    (hs : ∀ x, foldedSetIterable iter X.env x = pure x := by intro _; rfl) : JS T Wx X (.For tg iter body [] pos) (cFor fi t b) :=
  PS.imp (ps_for hp hc hi hg hb hs) fun D' σ H ⟨g0, H0, c, g, S, ds, fr, p⟩ => by
    refine ⟨g0, H0, c, g, S, ds, fr, ?_⟩
    unfold cFor at p
    cases q : fi ds S with
    | ex x S1 =>
      rw [q] at p
      exact fun g1 H1 cls dx e1 rs rx => p g1 H1 σ cls dx (fr.on e1 rs) rx
    | bad =>
      rw [q] at p
      exact p
    | ok items S1 =>
      rw [q] at p
      intro g1 H1 J c' e1 rs1 hh le ok
      have p : PostS T Wx g0 H0 c D' (forRun t b items ds S1) := p
      refine ⟨fun i m σ' H' => m = items.length - i ∧ i ≤ items.length ∧ ∃ g' S' ds', FR T g0 H0 c' g' H' S' ds' σ' ∧ PostS T Wx g0 H0 c D' (forRun t b (items.drop i) ds' S'), ⟨items.length, by simp, Nat.zero_le _, g1, S1, ds, (fr.on e1 rs1).chk hh.1 hh.2, by simpa using p⟩, ?_⟩
      have back : ∀ {g' : Gh} {H' : Hp} {S' : Store} {ds' : Env} {σ' : SV}, FR T g0 H0 c' g' H' S' ds' σ' → FR T g0 H0 c g' H' S' ds' σ' := fun {g' H' S' ds' σ'} f => f.chk (fun a o z => f.fz a o (le.1 a o z)) (by
        obtain ⟨t1, h1⟩ := f.io
        obtain ⟨t2, h2⟩ := le.2
        exact ⟨t2 ++ t1, by rw [h1, h2, List.append_assoc]⟩)
      rintro i m σ' H' ⟨rfl, hi', g', S', ds', fr', p'⟩
      by_cases hlt : i < items.length
      · refine .inr ⟨ok.go i g' H' S' hlt fr'.held fr'.st, fun σ2 H2 => ∃ g2 S2 ds2, FR T g0 H0 c' g2 H2 S2 ds2 σ2 ∧ PostS T Wx g0 H0 c D' (forRun t b (items.drop (i + 1)) ds2 S2), fun σ2 H2 ⟨g2, S2, ds2, fr2, p2⟩ => ⟨items.length - (i + 1), by omega, rfl, hlt, g2, S2, ds2, fr2, p2⟩, fun x H2 hy => ?_⟩
        obtain ⟨g2, e2, rs2, rx⟩ := ok.yld i _ g' H' S' x H2 (List.getElem?_eq_getElem hlt) fr'.held fr'.st hy
        have fr2 := fr'.on e2 rs2
        have p2 := p'
        rw [List.drop_eq_getElem_cons hlt] at p2
        unfold forRun at p2
        split at p2
        · exact p2.elim
        · rename_i ds1 ha
          refine ⟨g0, H0, c', g2, S', ds', .fz items[i], ds1, fr2, rx, rx, ha, fun σ3 fr3 => ⟨g0, H0, c', g2, S', ds1, fr3, ?_⟩⟩
          cases q3 : b ds1 S' with
          | nx ds3 S3 =>
            rw [q3] at p2
            exact fun g3 H3 σ4 fr4 => ⟨g3, S3, ds3, fr4, p2⟩
          | ct ds3 S3 =>
            rw [q3] at p2
            exact fun g3 H3 σ4 fr4 => ⟨g3, S3, ds3, fr4, p2⟩
          | bk ds3 S3 =>
            rw [q3] at p2
            exact fun g3 H3 σ4 fr4 => p2 g3 H3 σ4 (back fr4)
          | rt w S3 =>
            rw [q3] at p2
            exact p2
          | ex x' ds3 S3 =>
            rw [q3] at p2
            exact fun g3 H3 σ4 cls dx fr4 rx => p2 g3 H3 σ4 cls dx (back fr4) rx
          | bad =>
            rw [q3] at p2
            exact p2
      · have ei : i = items.length := Nat.le_antisymm hi' (Nat.le_of_not_lt hlt)
        subst ei
        refine .inl ⟨ok.stop g' H' S' fr'.held fr'.st, ?_⟩
        rw [List.drop_length] at p'
        exact p' g' H' σ' (back fr')
/-! ### while -/
def whRun (t : Env → M Bool) (body : CS) : Nat → Env → Store → RS
  | 0, _, _ => .bad
  | n + 1, ds, S => liftR (t ds S) ds fun k S1 => if k then (match body ds S1 with
      | .nx ds2 S2 => whRun t body n ds2 S2
      | .ct ds2 S2 => whRun t body n ds2 S2
      | .bk ds2 S2 => .nx ds2 S2
      | .rt w S2 => .rt w S2
      | .ex x ds2 S2 => .ex x ds2 S2
      | .bad => .bad) else .nx ds S1
def cWhile (fu : Env → Nat) (t : Env → M Bool) (body : CS) : CS := fun ds S => whRun t body (fu ds) ds S
theorem js_while (fu : Env → Nat) {c' : Expr} {t : Env → M Bool} {b : CS} {body : List Stmt} (hp : PassesOwn (model X.prog X.w) X.A X.env X.xe) (ht : JT T Wx X c' t) (hb : JSs T Wx X body b) : JS T Wx X (.While c' body [] pos) (cWhile fu t b) :=
  PS.imp (ps_while hp ht hb) fun D' σ H ⟨g0, H0, c, g, S, ds, fr, p⟩ => by
    refine ⟨fun m σ' H' => ∃ g' S' ds', FR T g0 H0 c g' H' S' ds' σ' ∧ PostS T Wx g0 H0 c D' (whRun t b m ds' S'), ⟨fu ds, g, S, ds, fr, p⟩, ?_⟩
    rintro m σ' H' ⟨g', S', ds', fr', p'⟩
    cases m with
    | zero => exact p'.elim
    | succ n =>
      unfold whRun at p'
      refine tG.stmt (r := RT) fr' p' fun k S1 g1 H1 v e1 fr1 rv p1 => ?_
      subst rv
      cases k with
      | false => exact p1 g1 H1 σ' fr1
      | true =>
        rw [if_pos rfl] at p1 ⊢
        refine ⟨fun σ2 H2 => ∃ g2 S2 ds2, FR T g0 H0 c g2 H2 S2 ds2 σ2 ∧ PostS T Wx g0 H0 c D' (whRun t b n ds2 S2), fun σ2 H2 hN => ⟨n, Nat.lt_succ_self n, hN⟩, ⟨g0, H0, c, g1, S1, ds', fr1, ?_⟩⟩
        cases q3 : b ds' S1 with
        | nx ds3 S3 =>
          rw [q3] at p1
          exact fun g3 H3 σ4 fr4 => ⟨g3, S3, ds3, fr4, p1⟩
        | ct ds3 S3 =>
          rw [q3] at p1
          exact fun g3 H3 σ4 fr4 => ⟨g3, S3, ds3, fr4, p1⟩
        | bk ds3 S3 =>
          rw [q3] at p1
          exact p1
        | rt w S3 =>
          rw [q3] at p1
          exact p1
        | ex x' ds3 S3 =>
          rw [q3] at p1
          exact p1
        | bad =>
          rw [q3] at p1
          exact p1
end
end Mir
set_option Elab.async false
set_option linter.all false
set_option maxRecDepth 100000
/-! Mir7: the body of a def, calls, changes of things. -/
namespace Mir
open PySem PySem.Spec PyProof.Rows L2

abbrev Fn := List D → Store → R Wv
def PostF (T : Tx) (g : Gh) (H : Hp) (Q : VK) (E : XK) : R Wv → Prop
  | .ok w S' => ∀ g' H' v, Ext g H g' H' → RelS T g' S' H' → RepW T H g' H' w v → Q v H'
  | .ex x S' => ∀ g' H' cls dx, Ext g H g' H' → RelS T g' S' H' → RepX T g' H' x cls dx → E cls dx H'
  | .bad => False
/-- the promise: the def does m -/
def spF (T : Tx) (n : Nat) (m : Fn) : Sp := fun vs H Q E => vs.length = n ∧ ∃ g S ds, RelS T g S H ∧ Reps T g H ds vs ∧ PostF T g H Q E (m ds S)
def startE (n : Nat) (args : List D) : Env := (args.map fun d => some (Wv.fz d)) ++ List.replicate (n - args.length) none
/-- what a body does, as a function -/
def runF (n : Nat) (body : CS) : Fn := fun args S => match body (startE n args) S with
  | .nx _ S' => .ok (.fz .non) S'
  | .rt w S' => .ok w S'
  | .ex x _ S' => .ex x S'
  | _ => .bad
section
variable {T : Tx} {Wx : WX} {X : Cx} {e : Expr} {g g0 g1 : Gh} {H H0 H1 : Hp} {c : Chk} {S S1 : Store} {ds : Env} {σ : SV} {pos : Pos}
theorem start_get {n : Nat} {vs : List V} {N : List Str} (hN : N.length = n) : ∀ (i : Nat), (L2.start N vs)[i]? = (vs.map some ++ List.replicate (n - vs.length) none)[i]? := fun i => by
  unfold L2.start
  rw [hN]
theorem EnvR.start {N : List Str} {args : List D} {vs : List V} (r : Reps T g H args vs) : EnvR T H0 g H (startE N.length args) (L2.start N vs) := by
  have hl := r.length
  have noow : ∀ (i : Nat) (so : SO), (startE N.length args)[i]? ≠ some (some (.ow so)) := fun i so h => by
    unfold startE at h
    by_cases hi : i < args.length
    · rw [List.getElem?_append_left (by simpa using hi), List.getElem?_map] at h
      cases q : args[i]? with
      | none =>
        rw [q] at h
        cases h
      | some d =>
        rw [q] at h
        cases h
    · rw [List.getElem?_append_right (by simpa using Nat.le_of_not_lt hi), List.getElem?_replicate] at h
      split at h <;> cases h
  have noxc : ∀ (i : Nat), (startE N.length args)[i]? ≠ some (some .xc) := fun i h => by
    unfold startE at h
    by_cases hi : i < args.length
    · rw [List.getElem?_append_left (by simpa using hi), List.getElem?_map] at h
      cases q : args[i]? with
      | none =>
        rw [q] at h
        cases h
      | some d =>
        rw [q] at h
        cases h
    · rw [List.getElem?_append_right (by simpa using Nat.le_of_not_lt hi), List.getElem?_replicate] at h
      split at h <;> cases h
  refine ⟨by simp [startE, L2.start, hl], fun i d h => ?_, fun i so h => (noow i so h).elim, fun i j so so' a ne h => (noow i so h).elim, fun i h => (noxc i h).elim⟩
  unfold startE at h
  by_cases hi : i < args.length
  · rw [List.getElem?_append_left (by simpa using hi), List.getElem?_map] at h
    cases q : args[i]? with
    | none =>
      rw [q] at h
      cases h
    | some d' =>
      rw [q] at h
      cases h
      obtain ⟨v, hv, rv⟩ := r.get q
      refine ⟨v, ?_, rv⟩
      unfold L2.start
      rw [List.getElem?_append_left (by simpa [← hl] using hi), List.getElem?_map, hv]
      rfl
  · rw [List.getElem?_append_right (by simpa using Nat.le_of_not_lt hi), List.getElem?_replicate] at h
    split at h <;> cases h
theorem FR.start {N : List Str} {args : List D} {vs : List V} (hl : ∀ a o, ¬ T.lean a o) (rs : RelS T g S H) (r : Reps T g H args vs) : FR T g H ⟨fun _ _ => False, []⟩ g H S (startE N.length args) (L2.start N vs) :=
  ⟨Ext.refl g H, rs, EnvR.start r, fun _ _ h => h.elim, ⟨g.io, rfl⟩, fun a o h => (hl a o h).elim⟩
/-- the body's reading, from the def's start -/
theorem body_end {N : List Str} {n : Nat} {m : CS} {vs : List V} {Q : VK} {E : XK} (hl : ∀ a o, ¬ T.lean a o) (hsp : spF T n (runF N.length m) vs H Q E) : tS T (fun cls d _ H => E cls d H) m { nx := fun _ H' => Q .non H', rt := Q } (L2.start N vs) H := by
  obtain ⟨_, g, S, ds, rs, r, p⟩ := hsp
  refine ⟨g, H, _, g, S, startE N.length ds, FR.start hl rs r, ?_⟩
  unfold runF at p
  cases q : m (startE N.length ds) S with
  | nx ds' S' =>
    rw [q] at p
    exact fun g' H' σ' fr' => p g' H' .non fr'.ext fr'.st .non
  | rt w S' =>
    rw [q] at p
    exact fun g' H' v ex rs' rw' => p g' H' v ex rs' rw'
  | bk ds' S' =>
    rw [q] at p
    exact p.elim
  | ct ds' S' =>
    rw [q] at p
    exact p.elim
  | ex x ds' S' =>
    rw [q] at p
    exact fun g' H' σ' cls dx fr' rx => p g' H' cls dx fr'.ext fr'.st rx
  | bad =>
    rw [q] at p
    exact p.elim

/-- what a body's derivation may use -/
structure Bd (T : Tx) (mg : Str → Option Value) (P : Program) (w : World) (base : Heap) (k : Nat) (Wx : WX) (X : Cx) : Prop extends Lv T Wx X where
  calm : X.calm = true
  mg : X.mg = mg
  prog : X.prog = P
  wo : X.w = w
  ba : X.base = base
  rm : Room k X.A
  po : PassesOwn (model X.prog X.w) X.A X.env X.xe
/-- THE RULE for a def -/
theorem fn_ok {P : Program} {w : World} {K : PySem.W.Frag} {mg : Str → Option Value} {base : Heap} {x qual : Str} {st : Stmt} {f : Addr} {fd : FuncData} {N ps : List Str} {k : Nat} {m : CS} (F : Fun K x qual st f fd) (Sc : FnScope N ps (defScope st)) {T : Tx} (hT : T.K = K) (hl : ∀ a o, ¬ T.lean a o)
    (hb : ∀ (cdv : Value) (A : Around) (outer : List PySem.Env) (s : Shared) (H : Hp) (E : XK), Bd T mg P w base k (fun cls d _ H => E cls d H) (cxOf (L2.CX P w) P w K mg base N qual (defScope st) f cdv A outer s H E) →
      JSs T (fun cls d _ H => E cls d H) (cxOf (L2.CX P w) P w K mg base N qual (defScope st) f cdv A outer s H E) (defBody st) m) :
    FnOk P w K mg base (L2.CX P w) (k + 1) f fd ps (spF T ps.length (runF N.length m)) := by
  refine F.okX Sc (fun vs H Q E h => h.1) (fun cdv A outer s H vs Q E hr h => ?_)
  have tk : Takes (cxOf (L2.CX P w) P w K mg base N qual (defScope st) f cdv A outer s H E) (fun cls d _ H => E cls d H) := takes_of rfl rfl rfl rfl
  have po : PassesOwn (model P w) (A.deeper (envOfC qual (defScope st) s.heap.objs.size f cdv)) (envOfC qual (defScope st) s.heap.objs.size f cdv) (cxOf (L2.CX P w) P w K mg base N qual (defScope st) f cdv A outer s H E).xe :=
    passes_of (X := cxOf (L2.CX P w) P w K mg base N qual (defScope st) f cdv A outer s H E) rfl
  exact ⟨_, hb cdv A outer s H E ⟨⟨hT.symm, tk, by have := hr.un; show (A.deeper _).units + 200 < _; omega⟩, rfl, rfl, rfl, rfl, rfl, hr, po⟩, body_end hl h⟩

/-! ### calls -/
/-- what a name of the text promises -/
structure Def (P : Program) (w : World) (K : PySem.W.Frag) (mg : Str → Option Value) (base : Heap) (T : Tx) (k : Nat) (x : Str) (np : Nat) (m : Fn) : Prop where
  ex : ∃ (f : Addr) (fd : FuncData) (ps : List Str), mg x = some (.ref f) ∧ PySem.W.keepIn K (.ref f) = true ∧ ps.length = np ∧ Binds K fd ps [] ∧ FnOk P w K mg base (L2.CX P w) k f fd ps (spF T np m)
theorem Def.mono {P : Program} {w : World} {K : PySem.W.Frag} {mg : Str → Option Value} {base : Heap} {j k : Nat} {x : Str} {np : Nat} {m : Fn} (d : Def P w K mg base T j x np m) (h : j ≤ k) : Def P w K mg base T k x np m := by
  obtain ⟨f, fd, ps, h1, h2, h3, h4, h5⟩ := d.ex
  exact ⟨f, fd, ps, h1, h2, h3, h4, h5.mono h⟩
def cCall (m : Fn) (fs : Env → M (List D)) : CE := fun ds S => bindR (fs ds S) fun args S => m args S
theorem je_call {P : Program} {w : World} {mg : Str → Option Value} {base : Heap} {k : Nat} {x : Str} {np : Nat} {m : Fn} {p' : Pos} {es : List Expr} {fs : Env → M (List D)} (B : Bd T mg P w base k Wx X) (d : Def P w T.K mg base T k x np m) (hg : Gl X x) (ha : JA T Wx X (e :: es) fs)
    (hn : (e :: es).length = np := by rfl) (hdb : (x == ("__debug__" : Str)) = false := by decide) (he : starEach (e :: es) X.env = (false, eval e X.env) :: starEach es X.env := by rfl) (hpl : (backTo pos (starEach es X.env)).any (·.1) = false := by rfl)
    (hlen : ∀ ds S args S', fs ds S = .ok args S' → args.length = np) :
    JE T Wx X (.Call (.Name x p') (e :: es) [] pos) (cCall m fs) := by
  obtain ⟨f, fd, ps, h1, h2, h3, h4, h5⟩ := d.ex
  have hK := B.hK
  have F : FnOk X.prog X.w X.K X.mg X.base (L2.CX X.prog X.w) k f fd ps (spF T np m) := by rw [B.prog, B.wo, hK, B.mg, B.ba]; exact h5
  refine PE.imp (pe_callS (E := fun σ => WE Wx σ) F B.rm hg (by rw [B.mg]; exact h1) (by rw [hK]; exact h2) (by rw [hK]; exact h4) (fun σ => passAt B.tk σ) ha hdb he hpl) fun σ H Q ⟨g0, H0, c, g, S, ds, fr, p⟩ => ?_
  unfold cCall at p
  refine ⟨g0, H0, c, g, S, ds, fr, ?_⟩
  cases q : fs ds S with
  | ok args S1 =>
    rw [q] at p
    intro g1 H1 vs e1 rs rv
    refine ⟨by rw [← rv.length]; exact hlen ds S args S1 q, g1, S1, args, rs, rv, ?_⟩
    have p2 : PostG T Wx (RW T H1) g1 H1 σ Q (m args S1) := PostG.from mono_w e1 p
    cases q2 : m args S1 with
    | ok w2 S2 =>
      rw [q2] at p2
      exact p2
    | ex x2 S2 =>
      rw [q2] at p2
      exact p2
    | bad =>
      rw [q2] at p2
      exact p2
  | ex x1 S1 =>
    rw [q] at p
    exact p
  | bad =>
    rw [q] at p
    exact p
end
end Mir
set_option Elab.async false
set_option linter.all false
set_option maxRecDepth 100000
/-! Mir8: list comprehensions; slices; built-ins. -/
namespace Mir
open PySem PySem.Spec PyProof.Rows L2

/-! ### targets by their slots -/
def setAllV : List Nat → List V → SV → SV
  | i :: is, v :: r, σ => setAllV is r (σ.set i (some v))
  | _, _, σ => σ
def tGc (K : PySem.W.Frag) : Tgt → TG
  | .nm i => gName i
  | .tp is => fun v σ H Q => gTup K is.length (tNms is) v σ H Q ∨ gLst K is.length (tNms is) v σ H Q
def JGc (T : Tx) (X : Cx) (target : Expr) (t : Tgt) : Prop := PG X target (tGc T.K t)
def Tgt.slots : Tgt → List Nat
  | .nm i => [i]
  | .tp is => is
section
variable {T : Tx} {Wx : WX} {X : Cx} {e : Expr} {g g0 g1 : Gh} {H H0 H1 : Hp} {c : Chk} {S S1 : Store} {ds : Env} {σ : SV} {pos : Pos} {tg : Expr}
theorem jgc_name {i : Nat} {x : Str} (hN : X.N.Nodup) (hi : X.N[i]? = some x) (hx : Loc X.env.scope x) (hf : X.fn x = true ∨ X.env.scope.names.lookup x = some .local := by first | exact .inl rfl | exact .inr rfl | assumption) : JGc T X (.Name x pos) (.nm i) := pg_name hN hi hx hf
theorem jgc_tup {is : List Nat} {es : List Expr} {k : Nat} (lv : Lv T Wx X) (hc : X.calm = true) (h : PGs X es (tNms is))
    (hn : (assignEach es X.env).length = is.length := by rfl) (hst : (assignEach es X.env).findIdx? (·.1) = none := by rfl) : JGc T X (.Tuple es k pos) (.tp is) := by
  have hK := lv.hK
  have q := PG.or (pg_tup (pos := pos) (k := k) hc h hn hst) (pg_lst (pos := pos) (k := k) hc h hn hst)
  rw [hK] at q
  exact q
theorem nms_eq {Q : SV → Hp → Prop} : ∀ {is : List Nat} {vs : List V} {σ : SV}, is.length = vs.length → Q (setAllV is vs σ) H → tNms is vs σ H Q
  | [], [], _, _, q => ⟨rfl, q⟩
  | [], _ :: _, _, h, _ => nomatch h
  | _ :: _, [], _, h, _ => nomatch h
  | i :: is, v :: r, σ, h, q => ⟨v, r, rfl, nms_eq (Nat.succ.inj h) q⟩
theorem FR.setAll {is : List Nat} : ∀ {xs : List D} {vs : List V} {ds ds' : Env} {σ : SV}, FR T g0 H0 c g H S ds σ → Reps T g H xs vs → setAll is xs ds = some ds' → FR T g0 H0 c g H S ds' (setAllV is vs σ) := by
  induction is with
  | nil =>
    intro xs vs ds ds' σ fr r e
    cases xs with
    | nil =>
      cases e
      cases r
      exact fr
    | cons _ _ => cases e
  | cons i is ih =>
    intro xs vs ds ds' σ fr r e
    cases xs with
    | nil => cases e
    | cons d xr =>
      cases r with
      | cons rd rr =>
        unfold Mir.setAll at e
        split at e
        · rename_i hl
          exact ih (fr.set (w := .fz d) rd hl) rr e
        · cases e
theorem wipe_get (σ : SV) : ∀ (own : List Nat) (j : Nat), (wipe σ own)[j]? = if j ∈ own ∧ j < σ.length then some none else σ[j]?
  | [], j => by simp [wipe]
  | v :: vs, j => by
    unfold wipe
    by_cases e : v = j
    · subst e
      by_cases h : v < σ.length
      · rw [List.getElem?_set_self (by rw [wipe_length]; exact h), if_pos ⟨List.mem_cons_self, h⟩]
      · rw [List.getElem?_eq_none (by rw [List.length_set, wipe_length]; exact Nat.le_of_not_lt h), if_neg (fun z => h z.2), List.getElem?_eq_none (Nat.le_of_not_lt h)]
    · rw [List.getElem?_set_ne e, wipe_get σ vs j]
      have q : (j ∈ v :: vs) ↔ j ∈ vs := by
        rw [List.mem_cons]
        exact ⟨fun z => z.elim (fun y => (e y.symm).elim) id, .inr⟩
      simp only [q]
theorem wipe_set {σ : SV} {own : List Nat} {i : Nat} {v : Option V} (h : i ∈ own) : wipe (σ.set i v) own = wipe σ own := by
  apply List.ext_getElem?
  intro j
  rw [wipe_get, wipe_get, List.length_set]
  by_cases e : i = j
  · subst e
    by_cases hl : i < σ.length
    · rw [if_pos ⟨h, hl⟩, if_pos ⟨h, hl⟩]
    · rw [if_neg (fun z => hl z.2), if_neg (fun z => hl z.2), List.getElem?_eq_none (by rw [List.length_set]; exact Nat.le_of_not_lt hl), List.getElem?_eq_none (Nat.le_of_not_lt hl)]
  · rw [List.getElem?_set_ne e]
theorem wipe_setAll {own : List Nat} : ∀ {is : List Nat} {vs : List V} {σ : SV}, (∀ i ∈ is, i ∈ own) → wipe (setAllV is vs σ) own = wipe σ own
  | [], _, _, _ => rfl
  | _ :: _, [], _, _ => rfl
  | i :: is, v :: r, σ, h => by
    unfold setAllV
    rw [wipe_setAll (fun j hj => h j (List.mem_cons_of_mem _ hj)), wipe_set (h i List.mem_cons_self)]
theorem wipe_wipe (σ : SV) (own : List Nat) : wipe (wipe σ own) own = wipe σ own := by
  apply List.ext_getElem?
  intro j
  rw [wipe_get, wipe_get, wipe_length]
  split <;> rfl
/-- own slots forgotten -/
def wipeE (ds : Env) : List Nat → Env
  | [] => ds
  | v :: vs => (wipeE ds vs).set v none
theorem FR.forget {i : Nat} (fr : FR T g0 H0 c g H S ds σ) : FR T g0 H0 c g H S (ds.set i none) (σ.set i none) := by
  refine ⟨fr.ext, fr.st, ⟨by simpa using fr.env.len, fun j d h => ?_, fun j so h => ?_, fun j k so so' a ne h1 h2 h3 h4 => ?_, fun j h => ?_⟩, fr.fz, fr.io, fr.ln⟩
  · by_cases e : i = j
    · subst e
      rw [List.getElem?_set] at h
      simp at h
    · rw [List.getElem?_set_ne e] at h ⊢
      exact fr.env.fz j d h
  · by_cases e : i = j
    · subst e
      rw [List.getElem?_set] at h
      simp at h
    · rw [List.getElem?_set_ne e] at h ⊢
      exact fr.env.ow j so h
  · have f : ∀ {m : Nat} {s : SO}, (ds.set i none)[m]? = some (some (.ow s)) → i ≠ m ∧ ds[m]? = some (some (.ow s)) := fun {m s} q => by
      by_cases e : i = m
      · subst e
        rw [List.getElem?_set] at q
        simp at q
      · rw [List.getElem?_set_ne e] at q
        exact ⟨e, q⟩
    obtain ⟨n1, q1⟩ := f h1
    obtain ⟨n2, q2⟩ := f h2
    rw [List.getElem?_set_ne n1] at h3
    rw [List.getElem?_set_ne n2] at h4
    exact fr.env.ne j k so so' a ne q1 q2 h3 h4
  · by_cases e : i = j
    · subst e
      rw [List.getElem?_set] at h
      simp at h
    · rw [List.getElem?_set_ne e] at h ⊢
      exact fr.env.xc j h
theorem FR.wipe (fr : FR T g0 H0 c g H S ds σ) : ∀ own : List Nat, FR T g0 H0 c g H S (wipeE ds own) (L2.wipe σ own)
  | [] => fr
  | v :: vs => (FR.wipe fr vs).forget

/-! ### a thing of our own is changed -/
theorem fix_upd {a : Addr} {ho : HO} (h : g.L a) : Fix g H g (upd H a ho) := ⟨⟨[], by simp⟩, fun b o hb n => ⟨by rw [upd_ne (show b ≠ a from fun z => n (by rw [z]; exact h))]; exact hb, n⟩⟩
theorem Ext.upd_new {a : Addr} {ho : HO} (x : Ext g0 H0 g H) (h0 : H0 a = none) : Ext g0 H0 g (upd H a ho) := by
  have ne : ∀ {b : Addr} {u : HO}, H0 b = some u → b ≠ a := fun {b u} hb z => by
    rw [z, h0] at hb
    cases hb
  refine ⟨x.pre, fun b o hb => ?_, x.liv, fun b o hb n => ?_⟩
  · obtain ⟨o', h1⟩ := x.trk b o hb
    exact ⟨o', by rw [upd_ne (ne hb)]; exact h1⟩
  · obtain ⟨h1, n1⟩ := x.kp b o hb n
    exact ⟨by rw [upd_ne (ne hb)]; exact h1, n1⟩
theorem RelS.upd {a : Addr} {ho : HO} (rs : RelS T g S H) (hl : g.L a) (hn : a ∉ g.io) : RelS T g S (upd H a ho) := by
  refine ⟨rs.len, rs.nd, rs.liv, fun n o b h1 h2 => ?_⟩
  obtain ⟨ho', h3, p⟩ := rs.obj n o b h1 h2
  have nb : b ≠ a := fun z => hn (z ▸ List.mem_of_getElem? h2)
  exact ⟨ho', by rw [upd_ne nb]; exact h3, p.fix (fix_upd hl)⟩
theorem FR.upd {a : Addr} {ho : HO} (fr : FR T g0 H0 c g H S ds σ) (h0 : H0 a = none) (hl : g.L a) (hn : a ∉ g.io) (hd : ∀ (i : Nat) (so : SO), ds[i]? = some (some (.ow so)) → σ[i]? ≠ some (some (.ref a))) : FR T g0 H0 c g (upd H a ho) S ds σ := by
  have fx : Fix g H g (L2.upd H a ho) := fix_upd hl
  refine ⟨fr.ext.upd_new h0, fr.st.upd hl hn, ⟨fr.env.len, fun i d h => ?_, fun i so h => ?_, fr.env.ne, fr.env.xc⟩, fun b o h => ?_, fr.io, fun b o h => fx.kp b o (fr.ln b o h).1 (fr.ln b o h).2⟩
  · obtain ⟨v, hv, rv⟩ := fr.env.fz i d h
    exact ⟨v, hv, rv.fix fx⟩
  · obtain ⟨b, hb, o⟩ := fr.env.ow i so h
    obtain ⟨ho', h1, p⟩ := o.obj
    have nb : b ≠ a := fun z => hd i so h (z ▸ hb)
    exact ⟨b, hb, o.new, o.liv, o.nio, ho', by rw [upd_ne nb]; exact h1, p.fix fx⟩
  · obtain ⟨h1, n1⟩ := fr.fz b o h
    exact fx.kp b o h1 n1

/-! ### comprehensions -/
def noEx {α : Type} : R α → R α
  | .ok a S => .ok a S
  | _ => .bad
def lcRun (own : List Nat) (t : Tgt) (tst : Env → M Bool) (fe : Env → M D) (ds : Env) : List D → List D → Store → R Wv
  | [], acc, S => .ok (.ow (.lst acc)) S
  | d :: r, acc, S => match asgT t (.fz d) S (wipeE ds own) with
    | none => .bad
    | some ds1 => bindR (noEx (tst ds1 S)) fun b S => if b then bindR (noEx (fe ds1 S)) (fun y S => if szOk (acc.length + 1) then lcRun own t tst fe ds r (acc ++ [y]) S else .bad) else lcRun own t tst fe ds r acc S
def cLc (own : List Nat) (t : Tgt) (tst : Env → M Bool) (fe : Env → M D) (fi : Env → M (List D)) : CE := fun ds S => bindR (fi ds S) fun items S => lcRun own t tst fe ds items [] S
abbrev W0 : WX := fun _ _ _ _ => False
def cYes : Env → M Bool := fun _ S => .ok true S
theorem noEx_ok {ga : Gh} {Ha : Hp} {σa : SV} {α β : Type} {r : Gh → Hp → α → β → Prop} {Q : β → Hp → Prop} {x : R α} {γ δ : Type} {r2 : Gh → Hp → γ → δ → Prop} {Q2 : δ → Hp → Prop} {k : α → Store → R γ} (p : PostG T Wx r2 g H σ Q2 (bindR (noEx x) k))
    (h : ∀ w S1, x = .ok w S1 → PostG T Wx r2 g H σ Q2 (k w S1) → ∀ g' H' v, Ext ga Ha g' H' → RelS T g' S1 H' → r g' H' w v → Q v H') : PostG T W0 r ga Ha σa Q x := by
  cases x with
  | ok w S1 => exact h w S1 rfl p
  | ex x S1 => exact p.elim
  | bad => exact p.elim
/-- the test of a comprehension -/
def JTs (T : Tx) (X : Cx) (es : List Expr) (f : Env → M Bool) : Prop := PTs X es (tG T W0 RT f)
theorem jts_nil : JTs T X [] cYes := ⟨fun pins s σ H Q I ⟨g0, H0, c, g, S, ds, fr, p⟩ => pts_nil.run pins s σ H Q I (show Q true H from PostG.now (r := RT H) p fr.st rfl)⟩
theorem jts_one {a : Expr} {f : Env → M Bool} (h : JT T W0 X a f) : JTs T X [a] f := pts_one h
theorem asgT_gc {t : Tgt} {w : Wv} {v : V} {ds' : Env} {own : List Nat} {σ0 : SV} {Q : SV → Hp → Prop} (fr : FR T g0 H0 c g H S ds σ) (rb : RepB T g H w v) (n : NewIn T H0 g H ds σ w v) (ho : ∀ i ∈ t.slots, i ∈ own) (hw : wipe σ own = σ0)
    (e : asgT t w S ds = some ds') (q : ∀ σ', FR T g0 H0 c g H S ds' σ' → wipe σ' own = σ0 → Q σ' H) : tGc T.K t v σ H Q := by
  unfold asgT at e
  cases t with
  | nm i =>
    dsimp only at e
    split at e
    · rename_i hl
      cases e
      exact q _ (fr.set n hl) (by rw [wipe_set (ho i (by simp [Tgt.slots])), hw])
    · cases e
  | tp is =>
    dsimp only at e
    unfold itemsOf at e
    cases hT : viewT w with
    | some xs =>
      rw [hT] at e
      dsimp only at e
      obtain ⟨a, vs, rfl, h1, r⟩ := viewT_ok rb hT
      exact .inl ⟨a, vs, rfl, SqT.of h1, by rw [← r.length, setAll_len e], nms_eq (by rw [← r.length, setAll_len e]) (q _ (fr.setAll r e) (by rw [wipe_setAll (is := is) ho, hw]))⟩
    | none =>
      rw [hT] at e
      dsimp only at e
      cases hL : viewR S w with
      | none =>
        rw [hL] at e
        cases e
      | some xs =>
        rw [hL] at e
        dsimp only at e
        obtain ⟨a, vs, rfl, h1, r⟩ := viewR_ok fr.st rb hL
        exact .inr ⟨a, vs, rfl, h1, by rw [← r.length, setAll_len e], nms_eq (by rw [← r.length, setAll_len e]) (q _ (fr.setAll r e) (by rw [wipe_setAll (is := is) ho, hw]))⟩
theorem tlc {own : List Nat} {t : Tgt} {tst : Env → M Bool} {fe : Env → M D} {fi : Env → M (List D)} (ho : ∀ i ∈ t.slots, i ∈ own) {Q : VK} (h : tG T Wx (RW T) (cLc own t tst fe fi) σ H Q) :
    tLc (tI T Wx fi) (tGc T.K t) (tG T W0 RT tst) (tG T W0 (RD T) fe) own σ H Q := by
  obtain ⟨g0, H0, c, g, S, ds, fr, p⟩ := h
  refine ⟨g0, H0, c, g, S, ds, fr, ?_⟩
  unfold cLc at p
  cases q : fi ds S with
  | ex x S1 =>
    rw [q] at p
    exact p
  | bad =>
    rw [q] at p
    exact p
  | ok items S1 =>
    rw [q] at p
    intro g1 H1 J c' e1 rs1 hh le ok Dd hD
    have p : PostG T Wx (RW T H) g H σ Q (lcRun own t tst fe ds items [] S1) := p
    have fr1 : FR T g0 H0 c' g1 H1 S1 ds σ := (fr.on e1 rs1).chk hh.1 hh.2
    -- the new list is a thing of our own
    obtain ⟨g2, e2, rs2, rw2⟩ := alloc_ow (so := .lst []) rs1 hD (ho := .lst []) fun g' H' fx => .lst .nil
    have fr2 := fr1.on e2 rs2
    obtain ⟨Da, ea, ow2⟩ := rw2
    cases ea
    have hD0 : H Dd = none := e1.free hD
    have nsl : ∀ (i : Nat) (so : SO), ds[i]? = some (some (.ow so)) → σ[i]? ≠ some (some (.ref Dd)) := fun i so h z => by
      obtain ⟨b, hb, ob⟩ := fr.env.ow i so h
      rw [z] at hb
      cases hb
      obtain ⟨ho, h1, _⟩ := ob.obj
      rw [hD0] at h1
      cases h1
    refine ⟨fun i m H' => m = items.length - i ∧ i ≤ items.length ∧ ∃ g' S' acc vacc, FR T g0 H0 c' g' H' S' ds σ ∧ Ext g H g' H' ∧ H' Dd = some (.lst vacc) ∧ g'.L Dd ∧ Dd ∉ g'.io ∧ Reps T g' H' acc vacc ∧ PostG T Wx (RW T H) g H σ Q (lcRun own t tst fe ds (items.drop i) acc S'),
      ⟨items.length, by simp, Nat.zero_le _, g2, S1, [], [], fr2, e1.trans e2, upd_same, ow2.liv, ow2.nio, .nil, by rw [List.drop_zero]; exact p⟩, ?_⟩
    rintro i m H' ⟨rfl, hi, g', S', acc, vacc, fr', ex', hDd, hL, hio, hacc, p'⟩
    by_cases hlt : i < items.length
    · refine .inr ⟨ok.go i g' H' S' hlt fr'.held fr'.st, fun H2 => ∃ g2 S2 acc2 vacc2, FR T g0 H0 c' g2 H2 S2 ds σ ∧ Ext g H g2 H2 ∧ H2 Dd = some (.lst vacc2) ∧ g2.L Dd ∧ Dd ∉ g2.io ∧ Reps T g2 H2 acc2 vacc2 ∧ PostG T Wx (RW T H) g H σ Q (lcRun own t tst fe ds (items.drop (i + 1)) acc2 S2),
        fun H2 ⟨g2, S2, acc2, vacc2, hN⟩ => ⟨items.length - (i + 1), by omega, rfl, hlt, g2, S2, acc2, vacc2, hN⟩, fun x H2 hy => ?_⟩
      obtain ⟨g2, e2, rs2, rx⟩ := ok.yld i _ g' H' S' x H2 (List.getElem?_eq_getElem hlt) fr'.held fr'.st hy
      have fr2 := fr'.on e2 rs2
      rw [List.drop_eq_getElem_cons hlt] at p'
      unfold lcRun at p'
      split at p'
      · exact p'.elim
      · rename_i ds1 ha
        refine asgT_gc (w := .fz items[i]) (fr2.wipe own) rx rx ho (wipe_wipe σ own) ha fun σ3 fr3 hw => ⟨hw, ⟨g0, H0, c', g2, S', ds1, fr3, ?_⟩⟩
        refine noEx_ok (r := RT H2) p' fun b S3 _ p3 g3 H3 b' e3 rs3 hb => ?_
        subst hb
        have k3 := e2.trans e3
        obtain ⟨hD3, hio3⟩ := k3.kp Dd _ hDd hio
        have hL3 := (k3.liv Dd _ hDd).mpr hL
        have fr4 := fr3.on e3 rs3
        cases b with
        | false =>
          rw [if_neg Bool.false_ne_true] at p3 ⊢
          exact ⟨g3, S3, acc, vacc, fr'.on k3 rs3, ex'.trans k3, hD3, hL3, hio3, hacc.fix (k3.fix fr'.st), p3⟩
        | true =>
          rw [if_pos rfl] at p3 ⊢
          refine ⟨g0, H0, c', g3, S3, ds1, fr4, ?_⟩
          refine noEx_ok (r := RD T H3) p3 fun y S4 _ p4 g4 H4 yv e4 rs4 hy4 => ?_
          have k4 := k3.trans e4
          obtain ⟨hD4, hio4⟩ := k4.kp Dd _ hDd hio
          have hL4 := (k4.liv Dd _ hDd).mpr hL
          split at p4
          · rename_i hz
            have hacc4 := hacc.fix (k4.fix fr'.st)
            have fx : Fix g4 H4 g4 (L2.upd H4 Dd (.lst (vacc ++ [yv]))) := fix_upd hL4
            refine ⟨vacc, hD4, ?_, g4, S4, acc ++ [y], vacc ++ [yv], (fr'.on k4 rs4).upd (fr.ext.free hD0) hL4 hio4 nsl, (ex'.trans k4).upd_new hD0, upd_same, hL4, hio4, (hacc4.fix fx).append (.cons (hy4.fix fx) .nil), p4⟩
            rw [← hacc4.length]
            have := szOk_of hz
            omega
          · exact p4.elim
    · have ei : i = items.length := Nat.le_antisymm hi (Nat.le_of_not_lt hlt)
      subst ei
      refine .inl ⟨ok.stop g' H' S' fr'.held fr'.st, ?_⟩
      rw [List.drop_length] at p'
      exact p' g' H' _ ex' fr'.st ⟨Dd, rfl, hD0, hL, hio, _, hDd, .lst hacc⟩
end
end Mir
set_option Elab.async false
set_option linter.all false
set_option maxRecDepth 100000
/-! Mir9: comprehensions as expressions and statements; slices; built-ins; append and its like. -/
namespace Mir
open PySem PySem.Spec PyProof.Rows L2
section
variable {T : Tx} {Wx : WX} {X : Cx} {e : Expr} {g g0 g1 : Gh} {H H0 H1 : Hp} {c : Chk} {S S1 : Store} {ds : Env} {σ : SV} {pos : Pos} {tg : Expr} {f1 f2 : CE}
theorem Lv.blk (lv : Lv T Wx X) {s : Shared} {H : Hp} {scope : Scope} {cenv : PySem.Env} {fp : List Addr} : Lv T W0 (X.blk s H scope cenv fp) := ⟨lv.hK, takes0, lv.un⟩
theorem Bd.blk {mg : Str → Option Value} {P : Program} {w : World} {base : Heap} {k : Nat} (B : Bd T mg P w base k Wx X) {s : Shared} {H : Hp} {scope : Scope} {cenv : PySem.Env} {fp : List Addr} : Bd T mg P w base k W0 (X.blk s H scope cenv fp) :=
  ⟨B.toLv.blk, B.calm, B.mg, B.prog, B.wo, B.ba, B.rm, PassesOwn.never⟩
theorem je_lc {elt iter : Expr} {ifs : List Expr} {scope : Scope} {own : List (Str × Nat)} {t : Tgt} {tst : Env → M Bool} {fe : Env → M D} {fi : Env → M (List D)} (lv : Lv T Wx X) (hc : X.calm = true) (hN : X.N.Nodup) (hi : JI T Wx X tg iter fi) (ok : BlkOk X.N X.env.scope scope own)
    (hg : ∀ (s : Shared) (H : Hp) (C : Addr) (cl : List (Str × Addr)) (fp : List Addr), JGc T (X.blk s H scope (compEnvC scope cl C X.env) fp) tg t) (ht : ∀ (s : Shared) (H : Hp) (C : Addr) (cl : List (Str × Addr)) (fp : List Addr), JTs T (X.blk s H scope (compEnvC scope cl C X.env) fp) ifs tst)
    (he : ∀ (s : Shared) (H : Hp) (C : Addr) (cl : List (Str × Addr)) (fp : List Addr), JD T W0 (X.blk s H scope (compEnvC scope cl C X.env) fp) elt fe) (ho : ∀ i ∈ t.slots, i ∈ own.map (·.2) := by decide) (hs : ∀ x, foldedSetIterable iter X.env x = pure x := by intro _; rfl) :
    JE T Wx X (.ListComp elt [⟨tg, iter, ifs, 0⟩] scope pos) (cLc (own.map (·.2)) t tst fe fi) := PE.imp (pe_lc hc hN hi ok hg ht he hs) fun σ H Q h => tlc ho h
theorem js_setLc {i : Nat} {y : Str} {py : Pos} {spos : Pos} {elt iter : Expr} {ifs : List Expr} {scope : Scope} {own : List (Str × Nat)} {t : Tgt} {tst : Env → M Bool} {fe : Env → M D} {fi : Env → M (List D)} (lv : Lv T Wx X) (hc : X.calm = true) (hN : X.N.Nodup) (hy : X.N[i]? = some y) (hyl : X.env.scope.names.lookup y = some .local)
    (hsw : swapsWith (.ListComp elt [⟨tg, iter, ifs, 0⟩] scope pos) (some (.Name y py)) spos.line X.env = pure true) (hi : JI T Wx X tg iter fi) (ok : BlkOk X.N X.env.scope scope own)
    (hg : ∀ (s : Shared) (H : Hp) (C : Addr) (cl : List (Str × Addr)) (fp : List Addr), JGc T (X.blk s H scope (compEnvC scope cl C X.env) fp) tg t) (ht : ∀ (s : Shared) (H : Hp) (C : Addr) (cl : List (Str × Addr)) (fp : List Addr), JTs T (X.blk s H scope (compEnvC scope cl C X.env) fp) ifs tst)
    (he : ∀ (s : Shared) (H : Hp) (C : Addr) (cl : List (Str × Addr)) (fp : List Addr), JD T W0 (X.blk s H scope (compEnvC scope cl C X.env) fp) elt fe) (ho : ∀ i ∈ t.slots, i ∈ own.map (·.2) := by decide) (hs : ∀ x, foldedSetIterable iter X.env x = pure x := by intro _; rfl) :
    JS T Wx X (.Assign [.Name y py] (.ListComp elt [⟨tg, iter, ifs, 0⟩] scope pos) spos) (cSet i (cLc (own.map (·.2)) t tst fe fi)) :=
  PS.imp (ps_setLc hc hN hy hyl hsw hi ok hg ht he hs) fun D σ H ⟨g0, H0, c, g, S, ds, fr, p⟩ => tlc ho (tG.stmt (r := RW T) (Q := fun v H1 => gName i v σ H1 D.nx) fr p fun w S1 g1 H1 v e1 fr1 rv p1 => by
    unfold setE at p1
    split at p1
    · rename_i hl
      exact p1 g1 H1 _ (fr1.set (NewIn.of fr rv) hl)
    · exact p1.elim)

/-! ### slices -/
def cNoP : Env → M (Option Int) := fun _ S => .ok none S
def cPart (f : CE) : Env → M (Option Int) := fun ds S => bindR (f ds S) fun w S => match w with
  | .fz (.int i) => .ok (some i) S
  | _ => .bad
abbrev RO : Rl (Option Int) (Option Int) := fun _ _ _ a b => a = b
theorem mono_o : Mono RO := fun _ _ _ _ _ _ _ r => r
def JO (T : Tx) (Wx : WX) (X : Cx) (e : Option Expr) (f : Env → M (Option Int)) : Prop := PO X e (tG T Wx RO f)
theorem PO.imp {X : Cx} {e : Option Expr} {t t' : TO} (h : PO X e t) (i : ∀ σ H Q, t' σ H Q → t σ H Q) : PO X e t' := ⟨fun pins s σ H Q I q => h.run pins s σ H Q I (i σ H Q q)⟩
theorem jo_none : JO T Wx X none cNoP := PO.imp po_none fun σ H Q ⟨g0, H0, c, g, S, ds, fr, p⟩ => by
  show Q none H
  exact PostG.now (r := RO H) p fr.st rfl
theorem jo_some (h : JB T Wx X e f1) : JO T Wx X (some e) (cPart f1) := PO.imp (po_some h) fun σ H Q ⟨g0, H0, c, g, S, ds, fr, p⟩ => by
  refine tG.bind (r1 := RB T) (r2 := RO) mono_o fr p fun w S1 g1 H1 v e1 fr1 rv p1 => ?_
  split at p1
  · cases rv
    exact ⟨_, rfl, PostG.now (r := RO H1) p1 fr1.st rfl⟩
  · exact p1.elim
def cutD {α : Type} (xs : List α) (lo hi : Option Int) : List α := (xs.drop (HT.sIx xs.length 0 lo)).take (HT.sIx xs.length xs.length hi - HT.sIx xs.length 0 lo)
def slWhole (n : Nat) (lo hi : Option Int) : Bool := decide (HT.sIx n 0 lo = 0) && decide (HT.sIx n n hi = n)
def opSl (w : Wv) (lo hi : Option Int) : M Wv := fun S => match w with
  | .fz (.tup xs) => if slWhole xs.length lo hi then .bad else .ok (.fz (.tup (cutD xs lo hi))) S
  | w => match viewR S w with
    | some xs => .ok (.ow (.lst (cutD xs lo hi))) S
    | none => .bad
def cSl (f : CE) (fl fh : Env → M (Option Int)) : CE := fun ds S => bindR (f ds S) fun w S => bindR (fl ds S) fun lo S => bindR (fh ds S) fun hi S => opSl w lo hi S
theorem Reps.cut {T : Tx} {g : Gh} {H : Hp} {xs : List D} {vs : List V} (r : Reps T g H xs vs) (lo hi : Option Int) : Reps T g H (cutD xs lo hi) (cutV vs lo hi) := by
  unfold cutD cutV
  rw [r.length]
  exact (r.drop _).take _
theorem je_sl {pos2 : Pos} {lo hi : Option Expr} {fl fh : Env → M (Option Int)} (lv : Lv T Wx X) (h : JB T Wx X e f1) (hl : JO T Wx X lo fl) (hh : JO T Wx X hi fh) : JE T Wx X (.Subscript e (.Slice lo hi none pos2) pos) (cSl f1 fl fh) := by
  have hr : SlR X (fun x l u H Q => rSlL T.K x l u H Q ∨ rSlT T.K x l u H Q) := by
    have q : SlR X (fun x l u H Q => rSlL X.K x l u H Q ∨ rSlT X.K x l u H Q) := SlR.or sl_list sl_tup
    rw [lv.hK] at q
    exact q
  refine PE.imp (pe_slice hr h hl hh) fun σ H Q ⟨g0, H0, c, g, S, ds, fr, p⟩ => ?_
  refine tG.bind (r1 := RB T) (r2 := RW T) mono_w fr p fun w S1 g1 H1 v e1 fr1 rv p1 => ?_
  refine tG.bind (r1 := RO) (r2 := RW T) mono_w fr1 p1 fun lo' S2 g2 H2 v2 e2 fr2 rv2 p2 => ?_
  refine tG.bind (r1 := RO) (r2 := RW T) mono_w fr2 p2 fun hi' S3 g3 H3 v3 e3 fr3 rv3 p3 => ?_
  subst rv2 rv3
  have rv' := rv.ext (e2.trans e3) fr1.st
  unfold opSl at p3
  split at p3
  · rename_i xs
    split at p3
    · exact p3.elim
    · rename_i hw
      obtain ⟨a, vs, rfl, h1, r⟩ := viewT_ok (xs := xs) rv' rfl
      refine .inr ⟨a, vs, rfl, SqT.of h1, fun z => hw ?_, fun q hq => ?_⟩
      · unfold slWhole
        rw [r.length, Bool.and_eq_true]
        exact ⟨decide_eq_true z.1, decide_eq_true z.2⟩
      · obtain ⟨g4, e4, rs4, fx, nl⟩ := alloc_fz fr3.st hq (.tup (cutV vs lo' hi'))
        exact p3 g4 _ _ e4 rs4 (Rep.tup upd_same nl (Reps.fix fx (r.cut lo' hi')))
  · split at p3
    · rename_i xs hx
      obtain ⟨a, vs, rfl, h1, r⟩ := viewR_ok fr3.st rv' hx
      refine .inl ⟨a, vs, rfl, h1, fun q hq => ?_⟩
      obtain ⟨g4, e4, rs4, rw4⟩ := alloc_ow (so := .lst (cutD xs lo' hi')) fr3.st hq (ho := .lst (cutV vs lo' hi')) fun g' H' fx => .lst (Reps.fix fx (r.cut lo' hi'))
      exact p3 g4 _ _ e4 rs4 rw4
    · exact p3.elim

/-! ### arguments that are but looked at; built-ins -/
inductive RepBs (T : Tx) (g : Gh) (H : Hp) : List Wv → List V → Prop
  | nil : RepBs T g H [] []
  | cons {w : Wv} {v : V} {ws : List Wv} {vs : List V} : RepB T g H w v → RepBs T g H ws vs → RepBs T g H (w :: ws) (v :: vs)
abbrev RBs (T : Tx) : Rl (List Wv) (List V) := fun _ => RepBs T
theorem mono_bs {T : Tx} : Mono (RBs T) := fun _ _ _ _ _ _ _ r => r
def JAB (T : Tx) (Wx : WX) (X : Cx) (es : List Expr) (f : Env → M (List Wv)) : Prop := PA X es (tG T Wx (RBs T) f)
def bNil : Env → M (List Wv) := fun _ S => .ok [] S
def bCons (f : CE) (fs : Env → M (List Wv)) : Env → M (List Wv) := fun ds S => bindR (f ds S) fun d S => bindR (fs ds S) fun r S => .ok (d :: r) S
theorem jab_nil : JAB T Wx X [] bNil := PA.imp pa_nil fun σ H Q ⟨g0, H0, c, g, S, ds, fr, p⟩ => by
  show Q [] H
  exact PostG.now (r := RBs T H) p fr.st .nil
theorem jab_cons {es : List Expr} {fs : Env → M (List Wv)} (h : JB T Wx X e f1) (hr : JAB T Wx X es fs) (hs : starEach (e :: es) X.env = (false, eval e X.env) :: starEach es X.env := by rfl) : JAB T Wx X (e :: es) (bCons f1 fs) :=
  PA.imp (pa_cons h hr hs) fun σ H Q ⟨g0, H0, c, g, S, ds, fr, p⟩ => by
    refine tG.bind (r1 := RB T) (r2 := RBs T) mono_bs fr p fun d S1 g1 H1 v e1 fr1 rv p1 => ?_
    refine tG.bind (r1 := RBs T) (r2 := RBs T) mono_bs fr1 p1 fun r S2 g2 H2 vs e2 fr2 rvs p2 => ?_
    exact p2.now fr2.st (.cons (rv.ext e2 fr1.st) rvs)
/-- the rule r of a list of values does k -/
def VC (T : Tx) (Wx : WX) (r : List V → Hp → VK → Prop) (k : List Wv → M Wv) : Prop :=
  ∀ (g : Gh) (H : Hp) (S : Store) (σ : SV) (ws : List Wv) (vs : List V) (Q : VK), RelS T g S H → RepBs T g H ws vs → PostG T Wx (RW T H) g H σ Q (k ws S) → r vs H Q
def cBlt (k : List Wv → M Wv) (fs : Env → M (List Wv)) : CE := fun ds S => bindR (fs ds S) fun ws S => k ws S
theorem tcb {r : List V → Hp → VK → Prop} {k : List Wv → M Wv} {fs : Env → M (List Wv)} (hv : VC T Wx r k) {Q : VK} (h : tG T Wx (RW T) (cBlt k fs) σ H Q) : tCB r (tG T Wx (RBs T) fs) σ H Q := by
  obtain ⟨g0, H0, c, g, S, ds, fr, p⟩ := h
  exact tG.bind (r1 := RBs T) (r2 := RW T) mono_w fr p fun ws S1 g1 H1 vs e1 fr1 rv p1 => hv g1 H1 S1 σ ws vs Q fr1.st rv p1
theorem je_callB {id : String} {x : Str} {p' : Pos} {es : List Expr} {r : List V → Hp → VK → Prop} {k : List Wv → M Wv} {fs : Env → M (List Wv)} (hc : CallR X (.builtin id) r) (hv : VC T Wx r k) (hg : Gl X x) (hm : X.mg x = none) (hb : bootBuiltins x = some (.builtin id)) (ha : JAB T Wx X (e :: es) fs)
    (hn : x ≠ "__name__" := by decide) (hdb : (x == ("__debug__" : Str)) = false := by decide) (he : starEach (e :: es) X.env = (false, eval e X.env) :: starEach es X.env := by rfl) (hpl : (backTo pos (starEach es X.env)).any (·.1) = false := by rfl) :
    JE T Wx X (.Call (.Name x p') (e :: es) [] pos) (cBlt k fs) := PE.imp (pe_callB hc hg hm hb ha hn hdb he hpl) fun σ H Q h => tcb hv h
theorem je_callTy {id : String} {x : Str} {p' : Pos} {es : List Expr} {r : List V → Hp → VK → Prop} {k : List Wv → M Wv} {fs : Env → M (List Wv)} (hc : CallR X (.type id) r) (hv : VC T Wx r k) (hg : Gl X x) (hm : X.mg x = none) (hb : bootBuiltins x = some (.type id)) (ha : JAB T Wx X (e :: es) fs)
    (hn : x ≠ "__name__" := by decide) (hdb : (x == ("__debug__" : Str)) = false := by decide) (he : starEach (e :: es) X.env = (false, eval e X.env) :: starEach es X.env := by rfl) (hpl : (backTo pos (starEach es X.env)).any (·.1) = false := by rfl) :
    JE T Wx X (.Call (.Name x p') (e :: es) [] pos) (cBlt k fs) := PE.imp (pe_callTy hc hg hm hb ha hn hdb he hpl) fun σ H Q h => tcb hv h

/-- len -/
def bLen : List Wv → M Wv := fun ws S => match ws with
  | [w] => match viewT w with
    | some xs => .ok (.fz (.int xs.length)) S
    | none => match viewR S w with
      | some xs => .ok (.fz (.int xs.length)) S
      | none => match w with
        | .fz (.str z) => if szOk z.length then .ok (.fz (.int z.length)) S else .bad
        | _ => .bad
  | _ => .bad
def rLen1 (K : PySem.W.Frag) : List V → Hp → VK → Prop := fun xs H Q => ∃ x n, xs = [x] ∧ LenV K x H n ∧ Q (.int n) H
theorem v_len : VC T Wx (rLen1 T.K) bLen := by
  intro g H S σ ws vs Q rs rv p
  unfold bLen at p
  split at p
  · rename_i w
    cases rv with
    | cons r1 r2 =>
      cases r2
      split at p
      · rename_i xs hx
        obtain ⟨a, us, rfl, h1, r⟩ := viewT_ok r1 hx
        exact ⟨_, xs.length, rfl, .inr ⟨us, SqT.of h1, r.length⟩, PostG.now (r := RW T H) p rs (.int _)⟩
      · split at p
        · rename_i xs hx
          obtain ⟨a, us, rfl, h1, r⟩ := viewR_ok rs r1 hx
          exact ⟨_, xs.length, rfl, .inl ⟨us, h1, r.length⟩, PostG.now (r := RW T H) p rs (.int _)⟩
        · split at p
          · rename_i z _ _
            split at p
            · rename_i hz
              cases r1
              exact ⟨_, z.length, rfl, ⟨szOk_of hz, rfl⟩, PostG.now (r := RW T H) p rs (.int _)⟩
            · exact p.elim
          · exact p.elim
  · exact p.elim
theorem je_len {p' : Pos} {fs : Env → M (List Wv)} {es : List Expr} (lv : Lv T Wx X) (hg : Gl X "len") (hm : X.mg "len" = none) (ha : JAB T Wx X (e :: es) fs)
    (he : starEach (e :: es) X.env = (false, eval e X.env) :: starEach es X.env := by rfl) (hpl : (backTo pos (starEach es X.env)).any (·.1) = false := by rfl) : JE T Wx X (.Call (.Name "len" p') (e :: es) [] pos) (cBlt bLen fs) := by
  have hc : CallR X (.builtin "len") (rLen1 T.K) := by rw [← lv.hK]; exact call_len
  exact je_callB hc v_len hg hm PySem.boot_len ha (by decide) (by decide) he hpl
/-- max, min of two ints -/
def bInt2 (f : Int → Int → Int) : List Wv → M Wv := fun ws S => match ws with
  | [.fz (.int i), .fz (.int j)] => .ok (.fz (.int (f i j))) S
  | _ => .bad
theorem v_int2c {f : Int → Int → Int} : VC T Wx (fun xs H Q => ∃ i j, xs = [.int i, .int j] ∧ Q (.int (f i j)) H) (bInt2 f) := by
  intro g H S σ ws vs Q rs rv p
  unfold bInt2 at p
  split at p
  · cases rv with
    | cons r1 r2 =>
      cases r2 with
      | cons r2 r3 =>
        cases r3
        cases r1
        cases r2
        exact ⟨_, _, rfl, PostG.now (r := RW T H) p rs (.int _)⟩
  · exact p.elim
def maxI (i j : Int) : Int := if j > i then j else i
def minI (i j : Int) : Int := if j < i then j else i
def intsD : List D → Option (List Int)
  | [] => some []
  | .int i :: r => (intsD r).map (i :: ·)
  | _ => none
theorem intsD_ok {T : Tx} {g : Gh} {H : Hp} : ∀ {xs : List D} {vs : List V} {ns : List Int}, Reps T g H xs vs → intsD xs = some ns → vs = ns.map V.int
  | [], _, _, .nil, h => by
    cases h
    rfl
  | d :: r, _, ns, .cons rd rr, h => by
    cases d with
    | int i =>
      unfold intsD at h
      cases q : intsD r with
      | none =>
        rw [q] at h
        cases h
      | some ms =>
        rw [q] at h
        cases h
        cases rd
        rw [intsD_ok rr q]
        rfl
    | _ => cases h
/-- sum of a list of ints -/
def bSum : List Wv → M Wv := fun ws S => match ws with
  | [w] => match viewR S w with
    | some xs => match intsD xs with
      | some ns => .ok (.fz (.int ns.sum)) S
      | none => .bad
    | none => .bad
  | _ => .bad
theorem v_sum : VC T Wx (rSum T.K) bSum := by
  intro g H S σ ws vs Q rs rv p
  unfold bSum at p
  split at p
  · cases rv with
    | cons r1 r2 =>
      cases r2
      split at p
      · rename_i xs hx
        split at p
        · rename_i ns hn
          obtain ⟨a, us, rfl, h1, r⟩ := viewR_ok rs r1 hx
          rw [intsD_ok r hn] at h1
          exact ⟨a, ns, rfl, h1, PostG.now (r := RW T H) p rs (.int _)⟩
        · exact p.elim
      · exact p.elim
  · exact p.elim
/-- min, max of a list of ints -/
def minL : List Int → Int
  | [] => 0
  | [x] => x
  | x :: r => minI x (minL r)
def maxL : List Int → Int
  | [] => 0
  | [x] => x
  | x :: r => maxI x (maxL r)
theorem minL_mem : ∀ ns : List Int, ns ≠ [] → minL ns ∈ ns ∧ ∀ y ∈ ns, minL ns ≤ y
  | [], h => (h rfl).elim
  | [x], _ => by simp [minL]
  | x :: y :: r, _ => by
    obtain ⟨h1, h2⟩ := minL_mem (y :: r) (by simp)
    show minI x (minL (y :: r)) ∈ _ ∧ ∀ z ∈ x :: y :: r, minI x (minL (y :: r)) ≤ z
    unfold minI
    split
    · rename_i h
      exact ⟨List.mem_cons_of_mem _ h1, fun z hz => (List.mem_cons.mp hz).elim (fun e => by subst e; omega) (h2 z)⟩
    · rename_i h
      refine ⟨List.mem_cons_self, fun z hz => (List.mem_cons.mp hz).elim (fun e => by subst e; omega) fun hz => ?_⟩
      have := h2 z hz
      omega
theorem maxL_mem : ∀ ns : List Int, ns ≠ [] → maxL ns ∈ ns ∧ ∀ y ∈ ns, y ≤ maxL ns
  | [], h => (h rfl).elim
  | [x], _ => by simp [maxL]
  | x :: y :: r, _ => by
    obtain ⟨h1, h2⟩ := maxL_mem (y :: r) (by simp)
    show maxI x (maxL (y :: r)) ∈ _ ∧ ∀ z ∈ x :: y :: r, z ≤ maxI x (maxL (y :: r))
    unfold maxI
    split
    · rename_i h
      exact ⟨List.mem_cons_of_mem _ h1, fun z hz => (List.mem_cons.mp hz).elim (fun e => by subst e; omega) (h2 z)⟩
    · rename_i h
      refine ⟨List.mem_cons_self, fun z hz => (List.mem_cons.mp hz).elim (fun e => by subst e; omega) fun hz => ?_⟩
      have := h2 z hz
      omega
def bIntL (f : List Int → Int) : List Wv → M Wv := fun ws S => match ws with
  | [w] => match viewR S w with
    | some xs => match intsD xs with
      | some ns => if ns.isEmpty then .bad else .ok (.fz (.int (f ns))) S
      | none => .bad
    | none => .bad
  | _ => .bad
theorem v_min : VC T Wx (rMin T.K) (bIntL minL) := by
  intro g H S σ ws vs Q rs rv p
  unfold bIntL at p
  split at p
  · cases rv with
    | cons r1 r2 =>
      cases r2
      split at p
      · rename_i xs hx
        split at p
        · rename_i ns hn
          split at p
          · exact p.elim
          · rename_i he
            have he' : ns ≠ [] := fun z => he (by rw [z]; rfl)
            obtain ⟨a, us, rfl, h1, r⟩ := viewR_ok rs r1 hx
            rw [intsD_ok r hn] at h1
            refine ⟨a, ns, rfl, h1, List.length_pos_iff.mpr he', fun m hm hle => ?_⟩
            obtain ⟨q1, q2⟩ := minL_mem ns he'
            have em : m = minL ns := Int.le_antisymm (hle _ q1) (q2 _ hm)
            rw [em]
            exact PostG.now (r := RW T H) p rs (.int _)
        · exact p.elim
      · exact p.elim
  · exact p.elim
theorem v_max : VC T Wx (rMax T.K) (bIntL maxL) := by
  intro g H S σ ws vs Q rs rv p
  unfold bIntL at p
  split at p
  · cases rv with
    | cons r1 r2 =>
      cases r2
      split at p
      · rename_i xs hx
        split at p
        · rename_i ns hn
          split at p
          · exact p.elim
          · rename_i he
            have he' : ns ≠ [] := fun z => he (by rw [z]; rfl)
            obtain ⟨a, us, rfl, h1, r⟩ := viewR_ok rs r1 hx
            rw [intsD_ok r hn] at h1
            refine ⟨a, ns, rfl, h1, List.length_pos_iff.mpr he', fun m hm hle => ?_⟩
            obtain ⟨q1, q2⟩ := maxL_mem ns he'
            have em : m = maxL ns := Int.le_antisymm (q2 _ hm) (hle _ q1)
            rw [em]
            exact PostG.now (r := RW T H) p rs (.int _)
        · exact p.elim
      · exact p.elim
  · exact p.elim
/-- list(x) of a list, a tuple -/
def bList : List Wv → M Wv := fun ws S => match ws with
  | [w] => match itemsOf S w with
    | some xs => .ok (.ow (.lst xs)) S
    | none => .bad
  | _ => .bad
def rListA (K : PySem.W.Frag) : List V → Hp → VK → Prop := fun xs H Q => ∃ p ys, xs = [.ref p] ∧ (SqL K H p ys ∨ SqT K H p ys) ∧ ∀ l, H l = none → Q (.ref l) (upd H l (.lst ys))
theorem items_ok {w : Wv} {v : V} {xs : List D} (rs : RelS T g S H) (r : RepB T g H w v) (h : itemsOf S w = some xs) : ∃ a vs, v = .ref a ∧ (SqL T.K H a vs ∨ SqT T.K H a vs) ∧ Reps T g H xs vs := by
  unfold itemsOf at h
  split at h
  · rename_i ys hy
    cases h
    obtain ⟨a, us, rfl, h1, r⟩ := viewT_ok r hy
    exact ⟨a, us, rfl, .inr (SqT.of h1), r⟩
  · obtain ⟨a, us, rfl, h1, r⟩ := viewR_ok rs r h
    exact ⟨a, us, rfl, .inl h1, r⟩
theorem v_list : VC T Wx (rListA T.K) bList := by
  intro g H S σ ws vs Q rs rv p
  unfold bList at p
  split at p
  · cases rv with
    | cons r1 r2 =>
      cases r2
      split at p
      · rename_i xs hx
        obtain ⟨a, us, rfl, h1, r⟩ := items_ok rs r1 hx
        refine ⟨a, us, rfl, h1, fun l hl => ?_⟩
        obtain ⟨g2, e2, rs2, rw2⟩ := alloc_ow (so := .lst xs) rs hl (ho := .lst us) fun g' H' fx => .lst (r.fix fx)
        exact p g2 _ _ e2 rs2 rw2
      · exact p.elim
  · exact p.elim
/-- int(b), int(i) -/
def bInt : List Wv → M Wv := fun ws S => match ws with
  | [.fz (.int i)] => .ok (.fz (.int i)) S
  | [.fz (.bl b)] => .ok (.fz (.int (if b then 1 else 0))) S
  | _ => .bad
theorem v_int1 : VC T Wx (fun xs H Q => (∃ i, xs = [.int i] ∧ Q (.int i) H) ∨ ∃ k, xs = [.bl k] ∧ Q (.int (if k then 1 else 0)) H) bInt := by
  intro g H S σ ws vs Q rs rv p
  unfold bInt at p
  split at p
  · cases rv with
    | cons r1 r2 =>
      cases r2
      cases r1
      exact .inl ⟨_, rfl, PostG.now (r := RW T H) p rs (.int _)⟩
  · cases rv with
    | cons r1 r2 =>
      cases r2
      cases r1
      exact .inr ⟨_, rfl, PostG.now (r := RW T H) p rs (.int _)⟩
  · exact p.elim

/-! ### isinstance, a built-in type -/
def soTy : SO → Option String
  | .lst _ => some "list"
  | .dct _ => some "dict"
  | .ins _ _ => none
def wTy (S : Store) : Wv → Option String
  | .fz .non => some "NoneType"
  | .fz (.bl _) => some "bool"
  | .fz (.int _) => some "int"
  | .fz (.str _) => some "str"
  | .fz (.tup _) => some "tuple"
  | .fz (.lst _) => some "list"
  | .fz (.scr _) => some "list"
  | .fz (.dct _) => some "dict"
  | .fz (.ins _ _) => none
  | .fz (.ref n) => match S[n]? with
    | some so => soTy so
    | none => none
  | .ow so => soTy so
  | .xc => none
def isTy (a b : String) : Bool := a == b || (a == "bool" && b == "int")
def opIsTy (b : String) : Wv → M Wv := fun w S => match wTy S w with
  | some a => .ok (.fz (.bl (isTy a b))) S
  | none => .bad
theorem soTy_ok {so : SO} {ho : HO} {a : Addr} {t : String} (h : H a = some ho) (r : RepO T g H so ho) (e : soTy so = some t) : TyX T.K H (.ref a) (.type t) := by
  cases r with
  | lst r =>
    cases e
    exact .base (.lst h)
  | dct r =>
    cases e
    exact .base (.dK h)
  | ins r => cases e
theorem wTy_ok {w : Wv} {v : V} {t : String} (rs : RelS T g S H) (r : RepB T g H w v) (e : wTy S w = some t) : TyX T.K H v (.type t) := by
  cases w with
  | ow so =>
    obtain ⟨a, ho, rfl, _, h1, h2⟩ := r
    exact soTy_ok h1 h2 e
  | xc => exact r.elim
  | fz d =>
    cases r with
    | non => cases e; exact .base .non
    | bl b => cases e; exact .base (.bl b)
    | int i => cases e; exact .base (.int i)
    | str x => cases e; exact .base (.str x)
    | tup h _ _ => cases e; exact .base (.tup h)
    | lst h _ _ => cases e; exact .base (.lst h)
    | dct h _ _ => cases e; exact .base (.dK h)
    | scr h =>
      cases e
      rcases h with ⟨h | ⟨o, h⟩, _⟩ | ⟨o, its, n, h1, h2, _⟩
      · exact .base (.lst h)
      · exact .base (.frz h)
      · exact .kList h1 h2
    | ins _ _ _ => cases e
    | @ref n a hio =>
      unfold wTy at e
      dsimp only at e
      split at e
      · rename_i so hs
        obtain ⟨ho, h1, h2⟩ := rs.obj n so a hs hio
        exact soTy_ok h1 h2 e
      · cases e
theorem soTy_in {so : SO} {t : String} (e : soTy so = some t) : t ∈ ["list", "dict"] := by
  cases so with
  | lst _ => cases e; decide
  | dct _ => cases e; decide
  | ins _ _ => cases e
theorem wTy_in {w : Wv} {t : String} (e : wTy S w = some t) : t ∈ ["NoneType", "bool", "int", "str", "tuple", "list", "dict"] := by
  have up : t ∈ ["list", "dict"] → t ∈ ["NoneType", "bool", "int", "str", "tuple", "list", "dict"] := fun h => by
    rcases List.mem_cons.mp h with rfl | h
    · decide
    · rcases List.mem_cons.mp h with rfl | h
      · decide
      · cases h
  unfold wTy at e
  split at e <;> first
    | (cases e; decide)
    | cases e
    | exact up (soTy_in e)
    | (split at e
       · exact up (soTy_in e)
       · cases e)
theorem kit_all : ∀ t ∈ ["NoneType", "bool", "int", "str", "tuple", "list", "dict"], ∀ b ∈ ["int", "bool", "str", "list", "tuple", "dict"], kitB t b = some (isTy t b) := by decide +kernel
theorem je_isTy {b : String} {x : Str} {pf px : Pos} (lv : Lv T Wx X) (hb : b ∈ ["int", "bool", "str", "list", "tuple", "dict"]) (hg : Gl X "isinstance") (hm : X.mg "isinstance" = none) (hgx : Gl X x) (hmx : X.mg x = none) (hbx : bootBuiltins x = some (.type b)) (ha : JB T Wx X e f1)
    (hnx : x ≠ "__name__" := by decide) (hdbx : (x == ("__debug__" : Str)) = false := by decide)
    (he : starEach [e, .Name x px] X.env = (false, eval e X.env) :: starEach [.Name x px] X.env := by rfl) (he2 : starEach [.Name x px] X.env = [(false, eval (.Name x px) X.env)] := by rfl) (hpl : (backTo pos (starEach [.Name x px] X.env)).any (·.1) = false := by rfl) :
    JE T Wx X (.Call (.Name "isinstance" pf) [e, .Name x px] [] pos) (cUn (opIsTy b) f1) := by
  have hc : CallR X (.builtin "isinstance") (rIsi T.K) := by rw [← lv.hK]; exact call_isi
  have h2 : PE X (.Name x px) (tC (.ty b)) := pe_bltn (v := .ty b) hgx hmx hbx rfl hnx hdbx
  refine PE.imp (pe_callB hc hg hm (by decide +kernel) (pa_cons ha (pa_cons h2 pa_nil he2) he) (by decide) (by decide) he hpl) fun σ H Q ⟨g0, H0, c, g, S, ds, fr, p⟩ => ?_
  refine tG.bind (r1 := RB T) (r2 := RW T) mono_w fr p fun w S1 g1 H1 v e1 fr1 rv p1 => ?_
  unfold opIsTy at p1
  split at p1
  · rename_i t ht
    exact ⟨v, .ty b, .type t, .type b, isTy t b, rfl, .ty b, wTy_ok fr1.st rv ht, kit_ty (kit_all t (wTy_in ht) b hb), PostG.now (r := RW T H1) p1 fr1.st (.bl _)⟩
  · exact p1.elim
end
end Mir
set_option Elab.async false
set_option linter.all false
set_option maxRecDepth 100000
/-! Mir10: methods that change a thing; in. -/
namespace Mir
open PySem PySem.Spec PyProof.Rows L2

abbrev Mu := SO → List D → Option (SO × D)
/-- the method's rule r does m -/
def VM (T : Tx) (ty : String) (r : V → List V → Hp → VK → Prop) (m : Mu) : Prop :=
  ∀ (g : Gh) (H : Hp) (a : Addr) (ho : HO) (so : SO) (ds : List D) (vs : List V) (so' : SO) (d : D), H a = some ho → RepO T g H so ho → Reps T g H ds vs → m so ds = some (so', d) →
    ∃ ho' v, (∀ g' H', Fix g H g' H' → RepO T g' H' so' ho') ∧ (∀ g' H', Fix g H g' H' → Rep T g' H' d v) ∧ ∀ Q : VK, Q v (upd H a ho') → r (.ref a) vs H Q
/-- which things have the method -/
def MuTy (ty : String) (m : Mu) : Prop := ∀ so ds p, m so ds = some p → soTy so = some ty
section
variable {T : Tx} {Wx : WX} {X : Cx} {e o : Expr} {g g0 g1 : Gh} {H H0 H1 : Hp} {c : Chk} {S S1 : Store} {ds : Env} {σ : SV} {pos : Pos} {tg : Expr} {f1 f2 : CE}
theorem tyV_so {so : SO} {ho : HO} {a : Addr} {ty : String} (h : H a = some ho) (r : RepO T g H so ho) (e : soTy so = some ty) : tyV T.K ty (.ref a) H := by
  cases r with
  | lst r =>
    cases e
    exact .inl ⟨rfl, _, SqL.of h⟩
  | dct r =>
    cases e
    exact .inr (.inr (.inl ⟨rfl, .inl ⟨_, h⟩⟩))
  | ins r => cases e
theorem FR.forgetD {i : Nat} (fr : FR T g0 H0 c g H S ds σ) : FR T g0 H0 c g H S (ds.set i none) σ := by
  have f : ∀ {m : Nat} {w : Wv}, (ds.set i none)[m]? = some (some w) → i ≠ m ∧ ds[m]? = some (some w) := fun {m w} q => by
    by_cases e : i = m
    · subst e
      rw [List.getElem?_set] at q
      simp at q
    · rw [List.getElem?_set_ne e] at q
      exact ⟨e, q⟩
  exact ⟨fr.ext, fr.st, ⟨by simpa using fr.env.len, fun j d h => fr.env.fz j d (f h).2, fun j so h => fr.env.ow j so (f h).2, fun j k so so' a ne h1 h2 => fr.env.ne j k so so' a ne (f h1).2 (f h2).2, fun j h => fr.env.xc j (f h).2⟩, fr.fz, fr.io, fr.ln⟩
theorem FR.setOw {i : Nat} {so so' : SO} {a : Addr} {ho' : HO} (fr : FR T g0 H0 c g H S ds σ) (hi : ds[i]? = some (some (.ow so))) (ha : σ[i]? = some (some (.ref a))) (own : Own T H0 g H so a) (r : ∀ g' H', Fix g H g' H' → RepO T g' H' so' ho') :
    FR T g0 H0 c g (L2.upd H a ho') S (ds.set i (some (.ow so'))) σ := by
  have hl : i < ds.length := (List.getElem?_eq_some_iff.mp hi).1
  have f1 := fr.forgetD (i := i)
  have nd : ∀ (j : Nat) (s : SO), (ds.set i none)[j]? = some (some (.ow s)) → σ[j]? ≠ some (some (.ref a)) := fun j s h z => by
    by_cases e : i = j
    · subst e
      rw [List.getElem?_set] at h
      simp at h
    · rw [List.getElem?_set_ne e] at h
      exact fr.env.ne i j so s a e hi h ha z
  have f2 := f1.upd (ho := ho') own.new own.liv own.nio nd
  have f3 := f2.set (i := i) (w := .ow so') (v := .ref a) ⟨a, rfl, ⟨own.new, own.liv, own.nio, ho', upd_same, r _ _ (fix_upd own.liv)⟩, nd⟩ (by simpa using hl)
  have e1 : (ds.set i none).set i (some (.ow so')) = ds.set i (some (.ow so')) := List.set_set ..
  have e2 : σ.set i (some (.ref a)) = σ := by
    apply List.ext_getElem?
    intro j
    by_cases q : i = j
    · subst q
      rw [List.getElem?_set_self (List.getElem?_eq_some_iff.mp ha).1, ha]
    · rw [List.getElem?_set_ne q]
  rw [e1, e2] at f3
  exact f3
theorem nodup_at {l : List Addr} (h : l.Nodup) {i j : Nat} {a : Addr} (h1 : l[i]? = some a) (h2 : l[j]? = some a) : i = j := by
  obtain ⟨k1, e1⟩ := List.getElem?_eq_some_iff.mp h1
  obtain ⟨k2, e2⟩ := List.getElem?_eq_some_iff.mp h2
  exact (List.getElem_inj h).mp (e1.trans e2.symm)
/-- a cell of the store is changed -/
theorem sto_upd {n : Nat} {so so' : SO} {a : Addr} {ho ho' : HO} (rs : RelS T g S H) (hn : S[n]? = some so) (ha : g.io[n]? = some a) (h : H a = some ho) (r : ∀ g' H', Fix g H g' H' → RepO T g' H' so' ho') :
    Ext g H g (upd H a ho') ∧ RelS T g (S.set n so') (upd H a ho') := by
  have hio : a ∈ g.io := List.mem_of_getElem? ha
  have hL := rs.liv a hio
  have fx : Fix g H g (upd H a ho') := fix_upd hL
  refine ⟨⟨⟨[], by simp⟩, fun b o hb => ?_, fun _ _ _ => Iff.rfl, fun b o hb nb => ⟨by rw [upd_ne (show b ≠ a from fun z => nb (by rw [z]; exact hio))]; exact hb, nb⟩⟩, ⟨by simpa using rs.len, rs.nd, rs.liv, fun m o b h1 h2 => ?_⟩⟩
  · by_cases e : b = a
    · subst e
      exact ⟨_, upd_same⟩
    · exact ⟨o, by rw [upd_ne e]; exact hb⟩
  · by_cases e : n = m
    · subst e
      rw [List.getElem?_set_self (List.getElem?_eq_some_iff.mp hn).1] at h1
      cases h1
      rw [ha] at h2
      cases h2
      exact ⟨ho', upd_same, r _ _ fx⟩
    · rw [List.getElem?_set_ne e] at h1
      have ne : b ≠ a := fun z => e (nodup_at rs.nd ha (z ▸ h2))
      obtain ⟨hb, h3, p⟩ := rs.obj m o b h1 h2
      exact ⟨hb, by rw [upd_ne ne]; exact h3, p.fix fx⟩
/-- what a slot's method call leaves, and tells -/
def mutE (i : Nat) (m : Mu) (args : List D) (ds : Env) (S : Store) (k : D → Env → Store → RS) : RS := match ds[i]? with
  | some (some (.ow so)) => match m so args with
    | some (so', d) => k d (ds.set i (some (.ow so'))) S
    | none => .bad
  | some (some (.fz (.ref n))) => match S[n]? with
    | some so => match m so args with
      | some (so', d) => k d ds (S.set n so')
      | none => .bad
    | none => .bad
  | _ => .bad
theorem mutE_ok {i : Nat} {ty : String} {r : V → List V → Hp → VK → Prop} {m : Mu} {args : List D} {vs : List V} {k : D → Env → Store → RS} {D' : Ends} (hv : VM T ty r m) (hty : MuTy ty m) (fr : FR T g0 H0 c g H S ds σ) (ra : Reps T g H args vs) {v : V} (hσ : σ[i]? = some (some v)) {Q : VK}
    (p : PostS T Wx g0 H0 c D' (mutE i m args ds S k)) (q : ∀ d g' H' ds' S' y, FR T g0 H0 c g' H' S' ds' σ → Rep T g' H' d y → PostS T Wx g0 H0 c D' (k d ds' S') → Q y H') : r v vs H Q := by
  unfold mutE at p
  split at p
  · rename_i so hso
    split at p
    · rename_i so' d hm
      obtain ⟨a, ha, own⟩ := fr.env.ow i so hso
      rw [hσ] at ha
      cases ha
      obtain ⟨ho, h1, h2⟩ := own.obj
      obtain ⟨ho', y, r1, r2, r3⟩ := hv g H a ho so args vs so' d h1 h2 ra hm
      exact r3 Q (q d g _ _ S y (fr.setOw hso hσ own r1) (r2 _ _ (fix_upd own.liv)) p)
    · exact p.elim
  · rename_i n hn
    split at p
    · rename_i so hso
      split at p
      · rename_i so' d hm
        obtain ⟨v', hv', rv⟩ := fr.env.fz i _ hn
        rw [hσ] at hv'
        cases hv'
        cases rv with
        | @ref _ a hio =>
          obtain ⟨ho, h1, h2⟩ := fr.st.obj n so a hso hio
          obtain ⟨ho', y, r1, r2, r3⟩ := hv g H a ho so args vs so' d h1 h2 ra hm
          obtain ⟨e1, rs1⟩ := sto_upd fr.st hso hio h1 r1
          exact r3 Q (q d g _ _ _ y (fr.on e1 rs1) (r2 _ _ (e1.fix fr.st)) p)
      · exact p.elim
    · exact p.elim
  · exact p.elim
/-- is the slot's thing of that type now? -/
def slTy (i : Nat) (ty : String) (ds : Env) (S : Store) : Bool := match ds[i]? with
  | some (some (.ow so)) => soTy so == some ty
  | some (some (.fz (.ref n))) => match S[n]? with
    | some so => soTy so == some ty
    | none => false
  | _ => false
theorem slTy_ok {i : Nat} {ty : String} (fr : FR T g0 H0 c g H S ds σ) (h : slTy i ty ds S = true) : ∃ v, σ[i]? = some (some v) ∧ tyV T.K ty v H := by
  unfold slTy at h
  split at h
  · rename_i so hso
    obtain ⟨a, ha, own⟩ := fr.env.ow i so hso
    obtain ⟨ho, h1, h2⟩ := own.obj
    exact ⟨_, ha, tyV_so h1 h2 (eq_of_beq h)⟩
  · rename_i n hn
    split at h
    · rename_i so hso
      obtain ⟨v', hv', rv⟩ := fr.env.fz i _ hn
      cases rv with
      | @ref _ a hio =>
        obtain ⟨ho, h1, h2⟩ := fr.st.obj n so a hso hio
        exact ⟨_, hv', tyV_so h1 h2 (eq_of_beq h)⟩
    · cases h
  · cases h
/-- x.m(..), its value dropped -/
def cMut (i : Nat) (ty : String) (m : Mu) (fs : Env → M (List D)) : CS := fun ds S => if slTy i ty ds S then liftR (fs ds S) ds fun args S => mutE i m args ds S fun _ ds S => .nx ds S else .bad
theorem js_mut {i : Nat} {x name : Str} {ty id : String} {m : Mu} {r : V → List V → Hp → VK → Prop} {a : Expr} {es : List Expr} {px apos cpos : Pos} {fs : Env → M (List D)} (lv : Lv T Wx X) (pa : PlainAttrs ty) (slot : Slot ty name id) (hty : typeOf (.builtin id) = pure (.type "method_descriptor")) (hm : MtR X id r) (hv : VM T ty r m) (ht : MuTy ty m)
    (hN : X.N[i]? = some x) (hx : Vis X.env.scope x) (ha : JA T Wx X (a :: es) fs) (hd : (x == ("__debug__" : Str)) = false := by decide) (hcd : (x == ("__classdict__" : Str)) = false := by decide)
    (hbase : attributeBase (.Name x px) name X.env (eval (.Name x px) X.env) = eval (.Name x px) X.env := by rfl)
    (hfew : ((backTo cpos (starEach (a :: es) X.env)).all (fun x => !x.1) && (backToKw cpos (keywordEach [] X.env)).all (fun x => x.1.isSome)
      && decide ((a :: es).length + ([] : List Keyword).length + (if ([] : List Keyword).isEmpty then 0 else 1) < 30)) = true := by rfl)
    (hline : (apos.endLine == cpos.line) = true := by rfl) (hs : starEach (a :: es) X.env = (false, eval a X.env) :: starEach es X.env := by rfl) (hplain : (backTo cpos (starEach es X.env)).any (·.1) = false := by rfl)
    (hsw : swapsWith (.Call (.Attribute (.Name x px) name apos) (a :: es) [] cpos) none pos.line X.env = pure false := by rfl) :
    JS T Wx X (.Expr (.Call (.Attribute (.Name x px) name apos) (a :: es) [] cpos) pos) (cMut i ty m fs) := by
  have hK := lv.hK
  refine PS.imp (ps_expr (pe_bm pa slot hty hm (pe_var hN hx hd hcd) ha hbase hfew hline hs hplain) hsw) fun D' σ H ⟨g0, H0, c, g, S, ds, fr, p⟩ => ?_
  unfold cMut at p
  split at p
  · rename_i hz
    obtain ⟨v, hv1, tv⟩ := slTy_ok fr hz
    refine ⟨v, hv1, hK.symm ▸ tv, tG.stmt (r := RA T) fr p fun args S1 g1 H1 vs e1 fr1 rv p1 => ?_⟩
    exact mutE_ok hv ht fr1 rv hv1 p1 fun d g' H' ds' S' y fr' _ p2 => p2 g' H' σ fr'
  · exact p.elim
theorem js_mut0 {i : Nat} {x name : Str} {ty id : String} {m : Mu} {r : V → List V → Hp → VK → Prop} {px apos cpos : Pos} (lv : Lv T Wx X) (pa : PlainAttrs ty) (slot : Slot ty name id) (hty : typeOf (.builtin id) = pure (.type "method_descriptor")) (hm : MtR X id r) (hv : VM T ty r m) (ht : MuTy ty m)
    (hN : X.N[i]? = some x) (hx : Vis X.env.scope x) (hd : (x == ("__debug__" : Str)) = false := by decide) (hcd : (x == ("__classdict__" : Str)) = false := by decide)
    (hbase : attributeBase (.Name x px) name X.env (eval (.Name x px) X.env) = eval (.Name x px) X.env := by rfl) (hline : (apos.endLine == cpos.line) = true := by rfl)
    (hsw : swapsWith (.Call (.Attribute (.Name x px) name apos) [] [] cpos) none pos.line X.env = pure false := by rfl) :
    JS T Wx X (.Expr (.Call (.Attribute (.Name x px) name apos) [] [] cpos) pos) (cMut i ty m cNil) := by
  have hK := lv.hK
  refine PS.imp (ps_expr (pe_bm0 pa slot hty hm (pe_var hN hx hd hcd) hbase hline) hsw) fun D' σ H ⟨g0, H0, c, g, S, ds, fr, p⟩ => ?_
  unfold cMut at p
  split at p
  · rename_i hz
    obtain ⟨v, hv1, tv⟩ := slTy_ok fr hz
    refine ⟨v, hv1, hK.symm ▸ tv, ?_⟩
    have p1 : PostS T Wx g0 H0 c D' (mutE i m [] ds S fun _ ds S => .nx ds S) := p
    exact mutE_ok hv ht fr .nil hv1 p1 fun d g' H' ds' S' y fr' _ p2 => p2 g' H' σ fr'
  · exact p.elim

/-! ### append, extend, pop, clear, insert .. -/
def mAppend : Mu := fun so xs => match so, xs with
  | .lst ys, [d] => if szOk (ys.length + 1) then some (.lst (ys ++ [d]), .non) else none
  | _, _ => none
theorem ty_append : MuTy "list" mAppend := fun so ds p h => by
  unfold mAppend at h
  split at h
  · rfl
  · cases h
theorem v_append : VM T "list" rAppend mAppend := by
  intro g H a ho so ds vs so' d h r ra hm
  unfold mAppend at hm
  split at hm
  · rename_i ys d
    split at hm
    · rename_i hz
      cases hm
      cases r with
      | @lst _ vys r =>
        cases ra with
        | cons r1 r2 =>
          cases r2
          rename_i v
          refine ⟨.lst (vys ++ [v]), .non, fun g' H' fx => .lst ((r.fix fx).append (.cons (r1.fix fx) .nil)), fun _ _ _ => .non, fun Q q => ⟨a, vys, v, rfl, rfl, h, ?_, q⟩⟩
          rw [← r.length]
          have := szOk_of hz
          omega
    · cases hm
  · cases hm
def mClear : Mu := fun so xs => match so, xs with
  | .lst _, [] => some (.lst [], .non)
  | _, _ => none
theorem ty_clear : MuTy "list" mClear := fun so ds p h => by
  unfold mClear at h
  split at h
  · rfl
  · cases h
theorem v_clear : VM T "list" rClear mClear := by
  intro g H a ho so ds vs so' d h r ra hm
  unfold mClear at hm
  split at hm
  · cases hm
    cases r with
    | lst r =>
      cases ra
      exact ⟨.lst [], .non, fun g' H' fx => .lst .nil, fun _ _ _ => .non, fun Q q => ⟨a, _, rfl, rfl, h, q⟩⟩
  · cases hm

/-! ### in -/
def dV : D → Option V
  | .non => some .non
  | .bl b => some (.bl b)
  | .int i => some (.int i)
  | .str x => some (.str x)
  | _ => none
def dVs : List D → Option (List V)
  | [] => some []
  | d :: r => match dV d, dVs r with
    | some v, some vs => some (v :: vs)
    | _, _ => none
theorem dV_ok {d : D} {v u : V} (r : Rep T g H d v) (h : dV d = some u) : v = u ∧ flatV u = true := by
  cases r with
  | non => cases h; exact ⟨rfl, rfl⟩
  | bl b => cases h; exact ⟨rfl, rfl⟩
  | int i => cases h; exact ⟨rfl, rfl⟩
  | str x => cases h; exact ⟨rfl, rfl⟩
  | _ => cases h
theorem dVs_ok : ∀ {ds : List D} {vs us : List V}, Reps T g H ds vs → dVs ds = some us → vs = us ∧ us.all flatV = true
  | _, _, _, .nil, h => by
    cases h
    exact ⟨rfl, rfl⟩
  | d :: ds, _, us, .cons r1 r2, h => by
    unfold dVs at h
    split at h
    · rename_i v vs h1 h2
      cases h
      obtain ⟨e1, q1⟩ := dV_ok r1 h1
      obtain ⟨e2, q2⟩ := dVs_ok r2 h2
      subst e1 e2
      exact ⟨rfl, by rw [List.all_cons, q1, q2]; rfl⟩
    · cases h
/-- x in l (a list, a tuple of flat things, a dict, one sign in a text) -/
def opIn : Wv → Wv → M Bool := fun w1 w2 S => match viewK S w2 with
  | some kvs => match keyW w1 with
    | some k => .ok (lkD kvs k).isSome S
    | none => .bad
  | none => match itemsOf S w2 with
    | some xs => match w1 with
      | .fz d => match dV d, dVs xs with
        | some v, some vs => .ok (inV v vs) S
        | _, _ => .bad
      | _ => .bad
    | none => match w1, w2 with
      | .fz (.str ⟨⟨[c]⟩⟩), .fz (.str z) => .ok (decide (c ∈ z.cps.toList)) S
      | _, _ => .bad
def rDIn' : R2 := fun y x H Q => ∃ a o, x = .ref a ∧ DGet H a y o ∧ Q (.bl o.isSome) H
def rDNi' : R2 := fun y x H Q => ∃ a o, x = .ref a ∧ DGet H a y o ∧ Q (.bl (!o.isSome)) H
theorem op_din (hu : X.A.units + 1 < cLine) : OpR X (compareOp .In) rDIn' := by
  intro pins s σ H x y v u Q I rx ry h
  obtain ⟨a, o, rfl, hd, q⟩ := h
  cases ry
  exact d_in hu I hd rx fun s' I' => ⟨.bl _, H, I', rfl, q⟩
theorem op_dni (hu : X.A.units + 1 < cLine) : OpR X (compareOp .NotIn) rDNi' := by
  intro pins s σ H x y v u Q I rx ry h
  obtain ⟨a, o, rfl, hd, q⟩ := h
  cases ry
  exact d_notIn hu I hd rx fun s' I' => ⟨.bl _, H, I', rfl, q⟩
def rInA (K : PySem.W.Frag) : R2 := fun x y H Q => rDIn' x y H Q ∨ rIn K false x y H Q ∨ rInS x y H Q
def rNiA (K : PySem.W.Frag) : R2 := fun x y H Q => rDNi' x y H Q ∨ rIn K true x y H Q ∨ rNotInS x y H Q
theorem v_in : V2 T Wx RBl (rInA T.K) opIn := by
  intro g H S σ w1 w2 v1 v2 Q rs r1 r2 p
  unfold opIn at p
  split at p
  · rename_i kvs hk
    split at p
    · rename_i k hkw
      obtain ⟨a, vs, rfl, h1, r⟩ := viewK_ok rs r2 hk
      rw [keyW_ok r1 hkw]
      refine .inl ⟨a, _, rfl, DGet.k h1, ?_⟩
      rcases r.lk (k := k) with ⟨e1, e2⟩ | ⟨d, v, e1, e2, _⟩
      · rw [e1] at p
        rw [e2]
        exact PostG.now (r := RBl H) p rs rfl
      · rw [e1] at p
        rw [e2]
        exact PostG.now (r := RBl H) p rs rfl
    · exact p.elim
  · split at p
    · rename_i xs hx
      split at p
      · rename_i d
        split at p
        · rename_i v vs h1 h2
          obtain ⟨a, us, rfl, q1, r⟩ := items_ok rs r2 hx
          obtain ⟨e1, f1⟩ := dV_ok r1 h1
          obtain ⟨e2, f2⟩ := dVs_ok r h2
          subst e1 e2
          exact .inr (.inl ⟨a, us, rfl, q1, f1, f2, PostG.now (r := RBl H) p rs rfl⟩)
        · exact p.elim
      · exact p.elim
    · split at p
      · rename_i c' z _ _
        cases r1
        cases r2
        exact .inr (.inr ⟨c', z, rfl, rfl, PostG.now (r := RBl H) p rs rfl⟩)
      · exact p.elim
theorem v_ni : V2 T Wx RBl (rNiA T.K) (notM opIn) := by
  intro g H S σ w1 w2 v1 v2 Q rs r1 r2 p
  unfold notM opIn at p
  split at p
  · rename_i kvs hk
    split at p
    · rename_i k hkw
      obtain ⟨a, vs, rfl, h1, r⟩ := viewK_ok rs r2 hk
      rw [keyW_ok r1 hkw]
      refine .inl ⟨a, _, rfl, DGet.k h1, ?_⟩
      rcases r.lk (k := k) with ⟨e1, e2⟩ | ⟨d, v, e1, e2, _⟩
      · rw [e1] at p
        rw [e2]
        exact PostG.now (r := RBl H) p rs rfl
      · rw [e1] at p
        rw [e2]
        exact PostG.now (r := RBl H) p rs rfl
    · exact p.elim
  · split at p
    · rename_i xs hx
      split at p
      · rename_i d
        split at p
        · rename_i v vs h1 h2
          obtain ⟨a, us, rfl, q1, r⟩ := items_ok rs r2 hx
          obtain ⟨e1, f1⟩ := dV_ok r1 h1
          obtain ⟨e2, f2⟩ := dVs_ok r h2
          subst e1 e2
          exact .inr (.inl ⟨a, us, rfl, q1, f1, f2, PostG.now (r := RBl H) p rs rfl⟩)
        · exact p.elim
      · exact p.elim
    · split at p
      · rename_i c' z _ _
        cases r1
        cases r2
        exact .inr (.inr ⟨c', z, rfl, rfl, PostG.now (r := RBl H) p rs rfl⟩)
      · exact p.elim
end

/-! ### comparisons, each with its rule -/
section
variable {T : Tx} {Wx : WX} {X : Cx} {a b : Expr} {f1 f2 : CE} {pos : Pos}
structure CmpR (T : Tx) (Wx : WX) (X : Cx) (op : CmpOp) (k : Wv → Wv → M Bool) : Prop where
  ex : ∃ r, OpR X (compareOp op) r ∧ V2 T Wx RBl r k
theorem cm_eq (lv : Lv T Wx X) : CmpR T Wx X .Eq opEq := ⟨rEqA T.K, by
  have q : OpR X (compareOp .Eq) (rEqA X.K) := OpR.or op_eq (OpR.or (op_eqD (by have := lv.un; omega)) (op_eqL (by have := lv.un; omega)))
  rw [lv.hK] at q
  exact q, v_eq⟩
theorem cm_ne (lv : Lv T Wx X) : CmpR T Wx X .NotEq (notM opEq) := ⟨rNeA T.K, by
  have q : OpR X (compareOp .NotEq) (rNeA X.K) := OpR.or op_ne (OpR.or (op_neD (by have := lv.un; omega)) (op_neL (by have := lv.un; omega)))
  rw [lv.hK] at q
  exact q, v_ne⟩
theorem cm_lt : CmpR T Wx X .Lt opLt := ⟨_, op_lt, v_cmpI⟩
theorem cm_le : CmpR T Wx X .LtE opLe := ⟨_, op_le, v_cmpI⟩
theorem cm_gt : CmpR T Wx X .Gt opGt := ⟨_, op_gt, v_cmpI⟩
theorem cm_ge : CmpR T Wx X .GtE opGe := ⟨_, op_ge, v_cmpI⟩
theorem cm_is : CmpR T Wx X .Is opIsN := ⟨_, op_isN, v_isN⟩
theorem cm_isnot : CmpR T Wx X .IsNot (notM opIsN) := ⟨_, op_notN, v_notN⟩
theorem cm_in (lv : Lv T Wx X) : CmpR T Wx X .In opIn := ⟨rInA T.K, by
  have q : OpR X (compareOp .In) (rInA X.K) := OpR.or (op_din (by have := lv.un; omega)) (OpR.or op_in_seq op_inS)
  rw [lv.hK] at q
  exact q, v_in⟩
theorem cm_ni (lv : Lv T Wx X) : CmpR T Wx X .NotIn (notM opIn) := ⟨rNiA T.K, by
  have q : OpR X (compareOp .NotIn) (rNiA X.K) := OpR.or (op_dni (by have := lv.un; omega)) (OpR.or op_notIn_seq op_notInS)
  rw [lv.hK] at q
  exact q, v_ni⟩
theorem je_cm {op : CmpOp} {k : Wv → Wv → M Bool} (h : CmpR T Wx X op k) (ha : JB T Wx X a f1) (hb : JB T Wx X b f2) (hm : behindInMarks op b = false := by rfl) : JE T Wx X (.Compare a [op] [b] pos) (cBl (cBin k f1 f2)) := by
  obtain ⟨r, h1, h2⟩ := h.ex
  exact je_cmp h1 h2 ha hb hm
theorem jt_cm {op : CmpOp} {k : Wv → Wv → M Bool} (h : CmpR T Wx X op k) (ha : JB T Wx X a f1) (hb : JB T Wx X b f2) (hm : behindInMarks op b = false := by rfl) : JT T Wx X (.Compare a [op] [b] pos) (cBin k f1 f2) := by
  obtain ⟨r, h1, h2⟩ := h.ex
  exact jt_cmp h1 h2 ha hb hm
theorem je_cm2 {c' : Expr} {f3 : CE} {op op' : CmpOp} {k k' : Wv → Wv → M Bool} (h : CmpR T Wx X op k) (h' : CmpR T Wx X op' k') (ha : JB T Wx X a f1) (hb : JB T Wx X b f2) (hc : JB T Wx X c' f3) (hm : lastMarks [op, op'] [b, c'] = false := by with_unfolding_all rfl) :
    JE T Wx X (.Compare a [op, op'] [b, c'] pos) (cBl (cChain k k' f1 f2 f3)) := by
  obtain ⟨r, h1, h2⟩ := h.ex
  obtain ⟨r', h1', h2'⟩ := h'.ex
  exact je_chain h1 h1' h2 h2' ha hb hc hm
theorem jt_cm2 {c' : Expr} {f3 : CE} {op op' : CmpOp} {k k' : Wv → Wv → M Bool} (h : CmpR T Wx X op k) (h' : CmpR T Wx X op' k') (ha : JB T Wx X a f1) (hb : JB T Wx X b f2) (hc : JB T Wx X c' f3) (hm : lastMarks [op, op'] [b, c'] = false := by with_unfolding_all rfl) :
    JT T Wx X (.Compare a [op, op'] [b, c'] pos) (cChain k k' f1 f2 f3) := by
  obtain ⟨r, h1, h2⟩ := h.ex
  obtain ⟨r', h1', h2'⟩ := h'.ex
  exact jt_chain h1 h1' h2 h2' ha hb hc hm
end
end Mir
set_option Elab.async false
set_option linter.all false
set_option maxRecDepth 100000
/-! Mir11: from the text's facts to the defs' promises; the end of a law. -/
namespace Mir
open PySem PySem.Spec PyProof.Rows L2

/-- a def stands at a name of the module -/
def FnFact (K : PySem.W.Frag) (x : Str) (st : Stmt) : Prop := ∃ f fd, PySem.W.nsIn K mainGlobals x = some (some (.ref f)) ∧ Fun K x x st f fd
theorem fn_fact {K : PySem.W.Frag} {x : Str} {st : Stmt} {f : Addr} {oc : Value} {od an : Option Addr} {osl : Array (Option Value)} {kV doc pm cdv ct : Value} (a : PySem.W.nsIn K mainGlobals x = some (some (.ref f)))
    (l : K.lookup f = some ⟨oc, od, .func (PySem.W.fnOf x x (defArgs st) (defBody st) (defScope st) .none kV doc pm an cdv ct), osl⟩)
    (c : PySem.W.codeIn K cdv x = true) (k : PySem.W.keepIn K (.ref f) = true) : FnFact K x st := ⟨_, _, a, fun_mk l c k⟩
theorem binds_of {K : PySem.W.Frag} {x qual : Str} {st : Stmt} {f : Addr} {fd : FuncData} {ps : List Str} (F : Fun K x qual st f fd)
    (h : ∀ (kV doc pm : Value) (an : Option Addr) (cdv ct : Value) (us : List Value), us.length = ps.length → bindArgs (PySem.W.fnOf x qual (defArgs st) (defBody st) (defScope st) .none kV doc pm an cdv ct) ⟨us, []⟩ = pure (ps.zip us)) : Binds K fd ps [] := F.binds h
theorem def_mk {P : Program} {w : World} {K : PySem.W.Frag} {mg : Str → Option Value} {base h : Heap} {x : Str} {st : Stmt} {N ps : List Str} {k : Nat} {m : CS} {T : Tx} (X : K.In h) (G : h.Ns mainGlobals mg) (F : FnFact K x st) (Sc : FnScope N ps (defScope st)) (hT : T.K = K) (hl : ∀ a o, ¬ T.lean a o)
    (hbi : ∀ (kV doc pm : Value) (an : Option Addr) (cdv ct : Value) (us : List Value), us.length = ps.length → bindArgs (PySem.W.fnOf x x (defArgs st) (defBody st) (defScope st) .none kV doc pm an cdv ct) ⟨us, []⟩ = pure (ps.zip us))
    (hb : ∀ (f : Addr) (cdv : Value) (A : Around) (outer : List PySem.Env) (s : Shared) (H : Hp) (E : XK), Bd T mg P w base k (fun cls d _ H => E cls d H) (cxOf (L2.CX P w) P w K mg base N x (defScope st) f cdv A outer s H E) →
      JSs T (fun cls d _ H => E cls d H) (cxOf (L2.CX P w) P w K mg base N x (defScope st) f cdv A outer s H E) (defBody st) m) :
    Def P w T.K mg base T (k + 1) x ps.length (runF N.length m) := by
  obtain ⟨f, fd, a, F⟩ := F
  rw [hT]
  exact ⟨f, fd, ps, PySem.W.mg_of X G a, F.kp, rfl, F.binds hbi, fn_ok F Sc hT hl (hb f)⟩
theorem cNil_len {ds : Env} {S S' : Store} {args : List D} (h : cNil ds S = .ok args S') : args.length = 0 := by
  cases h
  rfl
theorem cCons_len {f : Env → M D} {fs : Env → M (List D)} {n : Nat} (hl : ∀ ds S args S', fs ds S = .ok args S' → args.length = n) : ∀ ds S args S', cCons f fs ds S = .ok args S' → args.length = n + 1 := fun ds S args S' h => by
  unfold cCons at h
  cases q : f ds S with
  | ok d S1 =>
    rw [q] at h
    dsimp only [bindR] at h
    cases q2 : fs ds S1 with
    | ok r S2 =>
      rw [q2] at h
      cases h
      rw [List.length_cons, hl _ _ _ _ q2]
    | ex x S2 =>
      rw [q2] at h
      cases h
    | bad =>
      rw [q2] at h
      cases h
  | ex x S1 =>
    rw [q] at h
    cases h
  | bad =>
    rw [q] at h
    cases h
theorem len0 : ∀ (ds : Env) (S : Store) (args : List D) (S' : Store), cNil ds S = .ok args S' → args.length = 0 := fun _ _ _ _ h => cNil_len h

/-- the promise of a law -/
theorem law_sp {T : Tx} {m : Fn} {H : Hp} {a : Addr} {ns : List Int} (hO : Only H) (hS : SqL T.K H a (ns.map V.int)) (h : ∃ S', m [.scr ns] [] = .ok (.fz (.bl true)) S') : spF T 1 m [.ref a] H (fun v _ => v = .bl true) fun _ _ _ => False := by
  obtain ⟨S', h⟩ := h
  refine ⟨rfl, ⟨[], fun _ => False⟩, [], [.scr ns], ⟨rfl, List.nodup_nil, fun _ z => (nomatch z), fun n o a h => by simp at h⟩, .cons (.scr ?_) .nil, ?_⟩
  · rcases hS with q | q
    · exact .inl ⟨q, fun z => z⟩
    · exact .inr q
  · rw [h]
    intro g' H' v _ _ rv
    cases rv
    rfl
theorem cx_end {P : Program} {w : World} {H : Hp} {s : Shared} {e : Value} {s' : Shared} (h : L2.CX P w [] H s (fun _ _ _ => False) e s') : False := by
  obtain ⟨_, _, _, _, _, _, _, _, _, _, _, _, z⟩ := h
  exact z
theorem law_mk {P : Program} {w : World} {K : PySem.W.Frag} {mg : Str → Option Value} {h : Heap} {x p : Str} {st : Stmt} {N : List Str} {k : Nat} {m : CS} {T : Tx} {fa : Addr} (X : K.In h) (G : h.Ns mainGlobals mg) (F : FnFact K x st) (hfa : mg x = some (.ref fa)) (Sc : FnScope N [p] (defScope st)) (hT : T.K = K) (hl : ∀ a o, ¬ T.lean a o)
    (hbi : ∀ (kV doc pm : Value) (an : Option Addr) (cdv ct : Value) (us : List Value), us.length = 1 → bindArgs (PySem.W.fnOf x x (defArgs st) (defBody st) (defScope st) .none kV doc pm an cdv ct) ⟨us, []⟩ = pure ([p].zip us))
    (hb : ∀ base : Heap, K.In base → base.Ns mainGlobals mg → ∀ (f : Addr) (cdv : Value) (A : Around) (outer : List PySem.Env) (s : Shared) (H : Hp) (E : XK), Bd T mg P w base k (fun cls d _ H => E cls d H) (cxOf (L2.CX P w) P w K mg base N x (defScope st) f cdv A outer s H E) →
      JSs T (fun cls d _ H => E cls d H) (cxOf (L2.CX P w) P w K mg base N x (defScope st) f cdv A outer s H E) (defBody st) m) :
    ∃ fd : FuncData, (∀ (s : Shared) (v : Value), BindsTo s fd ⟨[v], []⟩ [(p, v)]) ∧ ∀ base : Heap, K.In base → base.Ns mainGlobals mg → FnOk P w K mg base (L2.CX P w) (k + 1) fa fd [p] (spF T 1 (runF N.length m)) := by
  obtain ⟨f, fd, a, F⟩ := F
  have e := (PySem.W.mg_of X G a).symm.trans hfa
  cases e
  refine ⟨fd, fun s v => ?_, fun base kb gb => fn_ok F Sc hT hl (hb base kb gb _)⟩
  obtain ⟨oc, od, kV, doc, pm, an, cdv, ct, osl, rfl, lk, hcd⟩ := F.ex
  exact .of_eq (hbi kV doc pm an cdv ct [v] rfl)
section
variable {T : Tx} {mg : Str → Option Value} {P : Program} {w : World} {base : Heap} {k : Nat} {Wx : WX} {X : Cx}
theorem Bd.no (B : Bd T mg P w base k Wx X) {x : Str} (z : mg x = none) : X.mg x = none := B.mg ▸ z
theorem Bd.yes (B : Bd T mg P w base k Wx X) {x : Str} {u : Value} (z : mg x = some u) : X.mg x = some u := B.mg ▸ z
theorem Bd.crK (B : Bd T mg P w base k Wx X) {v : Value} {r : PySem.W.Frag → List V → Hp → VK → Prop} (h : X.calm = true → CallR X v (r X.K)) : CallR X v (r T.K) := B.hK ▸ h B.calm
theorem Bd.crList (B : Bd T mg P w base k Wx X) : CallR X (.type "list") (rListA T.K) := B.hK ▸ (show CallR X (.type "list") (rListA X.K) from call_list_of)
end
end Mir
set_option Elab.async false
set_option linter.all false
set_option maxRecDepth 100000
/-! MirL: reckoning with mirrors: how runs are opened. -/
namespace Mir
open PySem L2
section
variable {α β : Type} {S S' : Store} {a : α} {k : α → Store → R β} {x : Xn} {ds ds' : Env} {ks : α → Store → RS}
@[simp] theorem bindR_ok : bindR (.ok a S) k = k a S := rfl
@[simp] theorem bindR_ex : bindR (R.ex x S : R α) k = .ex x S := rfl
@[simp] theorem bindR_bad : bindR (R.bad : R α) k = .bad := rfl
@[simp] theorem liftR_ok : liftR (.ok a S) ds ks = ks a S := rfl
@[simp] theorem liftR_ex : liftR (R.ex x S : R α) ds ks = .ex x ds S := rfl
@[simp] theorem liftR_bad : liftR (R.bad : R α) ds ks = .bad := rfl
end
/-- b behind r -/
def andThen (r : RS) (b : CS) : RS := match r with
  | .nx ds S => b ds S
  | r => r
theorem cSeq_eq (a b : CS) (ds : Env) (S : Store) : cSeq a b ds S = andThen (a ds S) b := rfl
@[simp] theorem then_nx {ds : Env} {S : Store} {b : CS} : andThen (.nx ds S) b = b ds S := rfl
@[simp] theorem then_rt {w : Wv} {S : Store} {b : CS} : andThen (.rt w S) b = .rt w S := rfl
@[simp] theorem then_bk {ds : Env} {S : Store} {b : CS} : andThen (.bk ds S) b = .bk ds S := rfl
@[simp] theorem then_ct {ds : Env} {S : Store} {b : CS} : andThen (.ct ds S) b = .ct ds S := rfl
@[simp] theorem then_ex {x : Xn} {ds : Env} {S : Store} {b : CS} : andThen (.ex x ds S) b = .ex x ds S := rfl

/-! ### sizes -/
theorem mulOk_l {i j : Int} (h1 : -18446744073709551616 < i) (h2 : i < 18446744073709551616) : mulOk i j = true := by
  unfold mulOk
  rw [show decide (-(2 ^ 64) < i ∧ i < 2 ^ 64) = true from decide_eq_true ⟨by omega, by omega⟩]
  simp
theorem mulOk_r {i j : Int} (h1 : -18446744073709551616 < j) (h2 : j < 18446744073709551616) : mulOk i j = true := by
  unfold mulOk
  rw [show decide (-(2 ^ 64) < j ∧ j < 2 ^ 64) = true from decide_eq_true ⟨by omega, by omega⟩]
  simp
theorem log2_lt {n k : Nat} (h : n < 2 ^ k) (hk : 0 < k) : n.log2 < k := by
  by_cases e : n = 0
  · subst e
    simpa using hk
  · exact (Nat.log2_lt e).mpr h
theorem mulOk_b {i j : Int} (a b : Nat) (h1 : i.natAbs < 2 ^ a) (h2 : j.natAbs < 2 ^ b) (ha : 0 < a) (hb : 0 < b) (h : a + b ≤ 1000000) : mulOk i j = true := by
  unfold mulOk
  have x := log2_lt h1 ha
  have y := log2_lt h2 hb
  rw [show decide (i.natAbs.log2 + j.natAbs.log2 < 1000000) = true from decide_eq_true (by omega)]
  simp
theorem divOk_b {i j : Int} (b : Nat) (h0 : 0 < j) (h2 : j.natAbs < 2 ^ b) (hb : 0 < b) (h : b ≤ 9000) : divOk i j = true := by
  unfold divOk
  have y := log2_lt h2 hb
  rw [decide_eq_true h0, show decide (j.natAbs.log2 < 9000) = true from decide_eq_true (by omega)]
  rfl
theorem divOk_s {i j : Int} (h0 : 0 < j) (h2 : j < 18446744073709551616) : divOk i j = true := divOk_b 64 h0 (by omega) (by decide) (by decide)
theorem modOk_p {i j : Int} (h0 : 0 < j) : modOk i j = true := decide_eq_true h0
theorem szOk_le {n : Nat} (h : n ≤ 16777216) : szOk n = true := decide_eq_true h

/-! ### loops -/
section
variable {t : Tgt} {body : CS} {S : Store}
theorem forRun_cons {d : D} {r : List D} {ds ds1 ds2 : Env} {S2 : Store} (h1 : asgT t (.fz d) S ds = some ds1) (h2 : body ds1 S = .nx ds2 S2) : forRun t body (d :: r) ds S = forRun t body r ds2 S2 := by
  show (match asgT t (.fz d) S ds with | none => RS.bad | some ds1 => _) = _
  rw [h1]
  dsimp only
  rw [h2]
/-- each turn keeps P -/
theorem for_inv {items : List D} (P : Env → Prop) (h : ∀ d ∈ items, ∀ ds, P ds → ∃ ds1, asgT t (.fz d) S ds = some ds1 ∧ ∃ ds2, body ds1 S = .nx ds2 S ∧ P ds2) : ∀ ds, P ds → ∃ ds', forRun t body items ds S = .nx ds' S ∧ P ds' := by
  induction items with
  | nil => exact fun ds p => ⟨ds, rfl, p⟩
  | cons d r ih =>
    intro ds p
    obtain ⟨ds1, h1, ds2, h2, p2⟩ := h d List.mem_cons_self ds p
    obtain ⟨ds3, h3, p3⟩ := ih (fun d hd => h d (List.mem_cons_of_mem _ hd)) ds2 p2
    refine ⟨ds3, ?_, p3⟩
    unfold forRun
    rw [h1]
    dsimp only
    rw [h2]
    exact h3
/-- each turn adds to what was gathered -/
theorem for_fold {α β : Type} {xs : List β} (dt : β → D) (f : α → β → α) (P : α → Env → Prop) (h : ∀ x ∈ xs, ∀ a ds, P a ds → ∃ ds1, asgT t (.fz (dt x)) S ds = some ds1 ∧ ∃ ds2, body ds1 S = .nx ds2 S ∧ P (f a x) ds2) : ∀ a ds, P a ds → ∃ ds', forRun t body (xs.map dt) ds S = .nx ds' S ∧ P (xs.foldl f a) ds' := by
  induction xs with
  | nil => exact fun a ds p => ⟨ds, rfl, p⟩
  | cons d r ih =>
    intro a ds p
    obtain ⟨ds1, h1, ds2, h2, p2⟩ := h d List.mem_cons_self a ds p
    obtain ⟨ds3, h3, p3⟩ := ih (fun d hd => h d (List.mem_cons_of_mem _ hd)) (f a d) ds2 p2
    refine ⟨ds3, ?_, p3⟩
    rw [List.map_cons]
    unfold forRun
    rw [h1]
    dsimp only
    rw [h2]
    exact h3
/-- by what was taken so far -/
theorem for_pre {β : Type} {xs : List β} (dt : β → D) (P : List β → Env → Prop) (h : ∀ pre x post, xs = pre ++ x :: post → ∀ ds, P pre ds → ∃ ds1, asgT t (.fz (dt x)) S ds = some ds1 ∧ ∃ ds2, body ds1 S = .nx ds2 S ∧ P (pre ++ [x]) ds2) : ∀ ds, P [] ds → ∃ ds', forRun t body (xs.map dt) ds S = .nx ds' S ∧ P xs ds' := by
  have go : ∀ (post pre : List β), xs = pre ++ post → ∀ ds, P pre ds → ∃ ds', forRun t body (post.map dt) ds S = .nx ds' S ∧ P xs ds' := by
    intro post
    induction post with
    | nil =>
      intro pre e ds p
      rw [List.append_nil] at e
      subst e
      exact ⟨ds, rfl, p⟩
    | cons x r ih =>
      intro pre e ds p
      obtain ⟨ds1, h1, ds2, h2, p2⟩ := h pre x r e ds p
      obtain ⟨ds3, h3, p3⟩ := ih (pre ++ [x]) (by rw [e, List.append_assoc]; rfl) ds2 p2
      refine ⟨ds3, ?_, p3⟩
      rw [List.map_cons]
      unfold forRun
      rw [h1]
      dsimp only
      rw [h2]
      exact h3
  exact fun ds p => go xs [] rfl ds p
end
section
variable {own : List Nat} {t : Tgt} {tst : Env → M Bool} {fe : Env → M D} {ds : Env} {S : Store}
theorem lc_filter {β : Type} (dt : β → D) (p : β → Bool) (f : β → D) : ∀ (xs : List β) (acc : List D), (∀ x ∈ xs, ∃ ds1, asgT t (.fz (dt x)) S (wipeE ds own) = some ds1 ∧ tst ds1 S = .ok (p x) S ∧ (p x = true → fe ds1 S = .ok (f x) S)) → acc.length + xs.length ≤ 16777216 →
    lcRun own t tst fe ds (xs.map dt) acc S = .ok (.ow (.lst (acc ++ (xs.filter p).map f))) S
  | [], acc, _, _ => by simp [lcRun]
  | x :: r, acc, h, hl => by
    obtain ⟨ds1, h1, h2, h3⟩ := h x List.mem_cons_self
    rw [List.length_cons] at hl
    have ih := fun acc' hh => lc_filter dt p f r acc' (fun y hy => h y (List.mem_cons_of_mem _ hy)) hh
    rw [List.map_cons]
    unfold lcRun
    rw [h1]
    dsimp only
    rw [h2]
    cases hp : p x with
    | false =>
      rw [List.filter_cons_of_neg (by simp [hp])]
      exact ih acc (by omega)
    | true =>
      rw [List.filter_cons_of_pos hp]
      show bindR (noEx (fe ds1 S)) _ = _
      rw [h3 hp]
      show (if szOk (acc.length + 1) = true then _ else _) = _
      rw [if_pos (szOk_le (by omega)), ih (acc ++ [f x]) (by rw [List.length_append, List.length_singleton]; omega)]
      simp
theorem lc_map {β : Type} (dt : β → D) (f : β → D) (xs : List β) (h : ∀ x ∈ xs, ∃ ds1, asgT t (.fz (dt x)) S (wipeE ds own) = some ds1 ∧ tst ds1 S = .ok true S ∧ fe ds1 S = .ok (f x) S) (hl : xs.length ≤ 16777216) :
    lcRun own t tst fe ds (xs.map dt) [] S = .ok (.ow (.lst (xs.map f))) S := by
  have q := lc_filter (own := own) (t := t) (tst := tst) (fe := fe) (ds := ds) (S := S) dt (fun _ => true) f xs [] (fun x hx => by
    obtain ⟨ds1, h1, h2, h3⟩ := h x hx
    exact ⟨ds1, h1, h2, fun _ => h3⟩) (by simpa using hl)
  rw [q, List.filter_eq_self.mpr (fun _ _ => rfl)]
  rfl
end
end Mir
set_option Elab.async false
set_option linter.all false
set_option maxRecDepth 100000
/-! MirS: how a mirror's run is opened, step by step (all rows in applied form). -/
namespace Mir
open PySem L2
def outF : RS → R Wv
  | .nx _ S' => .ok (.fz .non) S'
  | .rt w S' => .ok w S'
  | .ex x _ S' => .ex x S'
  | _ => .bad
def lookW (o : Option (Option Wv)) (S : Store) : R Wv := match o with
  | some (some (.fz d)) => .ok (.fz d) S
  | some (some (.ow so)) => .ok (.ow so) S
  | _ => .bad
def lookD (o : Option (Option Wv)) (S : Store) : R D := match o with
  | some (some (.fz d)) => .ok d S
  | _ => .bad
def lookR (o : Option (Option Wv)) (S : Store) : RS := match o with
  | some (some (.fz d)) => .rt (.fz d) S
  | some (some (.ow so)) => .rt (.ow so) S
  | _ => .bad
section
variable {α β : Type} {S S' : Store} {ds ds' : Env} {w w1 w2 : Wv} {d : D} {x : Xn} {n i : Nat} {body : CS} {args : List D} {f f1 f2 f3 : CE} {fd : Env → M D} {fs : Env → M (List D)} {fb : Env → M (List Wv)} {a b : CS} {p q : Env → M Bool} {z : Option Wv}
@[simp] theorem s_outF_nx : outF (.nx ds S) = .ok (.fz .non) S := rfl
@[simp] theorem s_outF_rt : outF (.rt w S) = .ok w S := rfl
@[simp] theorem s_outF_ex : outF (.ex x ds S) = .ex x S := rfl
theorem s_runF : runF n body args S = outF (body (startE n args) S) := by
  unfold runF outF
  cases body (startE n args) S <;> rfl
@[simp] theorem s_lookW : lookW (some (some (.fz d))) S = .ok (.fz d) S := rfl
@[simp] theorem s_lookWo {so : SO} : lookW (some (some (.ow so))) S = .ok (.ow so) S := rfl
@[simp] theorem s_lookD : lookD (some (some (.fz d))) S = .ok d S := rfl
@[simp] theorem s_lookR : lookR (some (some (.fz d))) S = .rt (.fz d) S := rfl
@[simp] theorem s_lookRo {so : SO} : lookR (some (some (.ow so))) S = .rt (.ow so) S := rfl
@[simp] theorem s_up : cUp fd ds S = bindR (fd ds S) fun d S => .ok (.fz d) S := rfl
@[simp] theorem s_fz : cFz f ds S = bindR (f ds S) fun w S => .ok w.frz S := rfl
@[simp] theorem s_frz1 : (Wv.fz d).frz = d := rfl
@[simp] theorem s_frz2 {xs : List D} : (Wv.ow (.lst xs)).frz = .lst xs := rfl
@[simp] theorem s_frz3 {xs : List (Key × D)} : (Wv.ow (.dct xs)).frz = .dct xs := rfl
@[simp] theorem s_frz4 {c : Nat} {xs : List (Str × D)} : (Wv.ow (.ins c xs)).frz = .ins c xs := rfl
@[simp] theorem s_bor : cBor i ds S = lookW ds[i]? S := rfl
@[simp] theorem s_var : cVar i ds S = lookD ds[i]? S := rfl
@[simp] theorem s_c : cC d ds S = .ok d S := rfl
@[simp] theorem s_nil : cNil ds S = .ok [] S := rfl
@[simp] theorem s_cons : cCons fd fs ds S = bindR (fd ds S) fun d S => bindR (fs ds S) fun r S => .ok (d :: r) S := rfl
@[simp] theorem s_tup : cTup fs ds S = bindR (fs ds S) fun r S => if szOk r.length then .ok (.tup r) S else .bad := rfl
@[simp] theorem s_lst : cLst fs ds S = bindR (fs ds S) fun r S => if szOk r.length then .ok (.ow (.lst r)) S else .bad := rfl
@[simp] theorem s_bin {k : Wv → Wv → M α} : cBin k f1 f2 ds S = bindR (f1 ds S) fun w1 S => bindR (f2 ds S) fun w2 S => k w1 w2 S := rfl
@[simp] theorem s_un {k : Wv → M α} : cUn k f1 ds S = bindR (f1 ds S) fun w1 S => k w1 S := rfl
@[simp] theorem s_int2 {C : Int → Int → Bool} {g : Int → Int → D} {i j : Int} : int2 C g (.fz (.int i)) (.fz (.int j)) S = if C i j then .ok (.fz (g i j)) S else .bad := rfl
@[simp] theorem s_add {i j : Int} : opAdd (.fz (.int i)) (.fz (.int j)) S = .ok (.fz (.int (i + j))) S := rfl
@[simp] theorem s_addS {i j : Str} : opAdd (.fz (.str i)) (.fz (.str j)) S = if szOk (i.length + j.length) then .ok (.fz (.str (i ++ j))) S else .bad := rfl
@[simp] theorem s_addT {xs ys : List D} : opAdd (.fz (.tup xs)) (.fz (.tup ys)) S = if !xs.isEmpty && szOk (xs.length + ys.length) then .ok (.fz (.tup (xs ++ ys))) S else .bad := rfl
@[simp] theorem s_addLL {xs ys : List D} : opAdd (.ow (.lst xs)) (.ow (.lst ys)) S = if szOk (xs.length + ys.length) then .ok (.ow (.lst (xs ++ ys))) S else .bad := rfl
@[simp] theorem s_addFL {xs ys : List D} : opAdd (.fz (.lst xs)) (.ow (.lst ys)) S = if szOk (xs.length + ys.length) then .ok (.ow (.lst (xs ++ ys))) S else .bad := rfl
@[simp] theorem s_addLF {xs ys : List D} : opAdd (.ow (.lst xs)) (.fz (.lst ys)) S = if szOk (xs.length + ys.length) then .ok (.ow (.lst (xs ++ ys))) S else .bad := rfl
@[simp] theorem s_addFF {xs ys : List D} : opAdd (.fz (.lst xs)) (.fz (.lst ys)) S = if szOk (xs.length + ys.length) then .ok (.ow (.lst (xs ++ ys))) S else .bad := rfl
@[simp] theorem s_sub {i j : Int} : opSub (.fz (.int i)) (.fz (.int j)) S = .ok (.fz (.int (i - j))) S := rfl
@[simp] theorem s_mul {i j : Int} : opMul (.fz (.int i)) (.fz (.int j)) S = if mulOk i j then .ok (.fz (.int (i * j))) S else .bad := rfl
@[simp] theorem s_mulL {xs : List D} {k : Int} : opMul (.ow (.lst xs)) (.fz (.int k)) S = if repOk k xs.length then .ok (.ow (.lst (List.replicate k.toNat xs).flatten)) S else .bad := rfl
@[simp] theorem s_div {i j : Int} : opDiv (.fz (.int i)) (.fz (.int j)) S = if divOk i j then .ok (.fz (.int (i / j))) S else .bad := rfl
@[simp] theorem s_mod {i j : Int} : opMod (.fz (.int i)) (.fz (.int j)) S = if modOk i j then .ok (.fz (.int (i % j))) S else .bad := rfl
@[simp] theorem s_pow {i j : Int} : opPow (.fz (.int i)) (.fz (.int j)) S = if powOk i j then .ok (.fz (.int (i ^ j.toNat))) S else .bad := rfl
@[simp] theorem s_neg {i : Int} : opNeg (.fz (.int i)) S = .ok (.fz (.int (-i))) S := rfl
@[simp] theorem s_lt {i j : Int} : opLt (.fz (.int i)) (.fz (.int j)) S = .ok (decide (i < j)) S := rfl
@[simp] theorem s_le {i j : Int} : opLe (.fz (.int i)) (.fz (.int j)) S = .ok (decide (i ≤ j)) S := rfl
@[simp] theorem s_gt {i j : Int} : opGt (.fz (.int i)) (.fz (.int j)) S = .ok (decide (j < i)) S := rfl
@[simp] theorem s_ge {i j : Int} : opGe (.fz (.int i)) (.fz (.int j)) S = .ok (decide (j ≤ i)) S := rfl
@[simp] theorem s_eqI {i j : Int} : opEq (.fz (.int i)) (.fz (.int j)) S = .ok (decide (i = j)) S := rfl
@[simp] theorem s_eqS {i j : Str} : opEq (.fz (.str i)) (.fz (.str j)) S = .ok (decide (i = j)) S := rfl
@[simp] theorem s_notM {k : Wv → Wv → M Bool} : notM k w1 w2 S = bindR (k w1 w2 S) fun b S => .ok (!b) S := rfl
@[simp] theorem s_isN : opIsN w (.fz .non) S = .ok (isNon w) S := rfl
@[simp] theorem s_isNon : isNon (.fz .non) = true := rfl
@[simp] theorem s_isNon1 {xs : List D} : isNon (.fz (.lst xs)) = false := rfl
@[simp] theorem s_isNon2 {xs : List D} : isNon (.fz (.tup xs)) = false := rfl
@[simp] theorem s_isNon3 {so : SO} : isNon (.ow so) = false := rfl
@[simp] theorem s_isNon4 {i : Int} : isNon (.fz (.int i)) = false := rfl
@[simp] theorem s_isNon5 {c : Nat} {fl : List (Str × D)} : isNon (.fz (.ins c fl)) = false := rfl
@[simp] theorem s_isNon6 {k : Nat} : isNon (.fz (.ref k)) = false := rfl
@[simp] theorem s_isNon7 {kv : List (Key × D)} : isNon (.fz (.dct kv)) = false := rfl
@[simp] theorem s_bl : cBl p ds S = bindR (p ds S) fun b S => .ok (.fz (.bl b)) S := rfl
@[simp] theorem s_chain {k k' : Wv → Wv → M Bool} : cChain k k' f1 f2 f3 ds S = bindR (f1 ds S) fun w1 S => bindR (f2 ds S) fun w2 S => bindR (k w1 w2 S) fun b S => if b then bindR (f3 ds S) fun w3 S => k' w2 w3 S else .ok false S := rfl
@[simp] theorem s_and : cAnd p q ds S = bindR (p ds S) fun b S => if b then q ds S else .ok false S := rfl
@[simp] theorem s_or : cOr p q ds S = bindR (p ds S) fun b S => if b then .ok true S else q ds S := rfl
@[simp] theorem s_not : cNot p ds S = bindR (p ds S) fun b S => .ok (!b) S := rfl
def tstW (w : Wv) (S : Store) : R Bool := match w with
  | .fz (.bl b) => .ok b S
  | _ => .bad
@[simp] theorem s_tst : cTst f ds S = bindR (f ds S) tstW := rfl
@[simp] theorem s_tstW {b : Bool} : tstW (.fz (.bl b)) S = .ok b S := rfl
@[simp] theorem s_andV : cAndV f1 f2 ds S = bindR (f1 ds S) fun w S => bindR (tstW w S) fun b S => if b then f2 ds S else .ok (.fz (.bl false)) S := by
  unfold cAndV
  refine congrArg (bindR (f1 ds S)) (funext fun w => funext fun S => ?_)
  cases w with
  | ow so => rfl
  | xc => rfl
  | fz d =>
    cases d with
    | bl b => cases b <;> rfl
    | _ => rfl
@[simp] theorem s_orV : cOrV f1 f2 ds S = bindR (f1 ds S) fun w S => bindR (tstW w S) fun b S => if b then .ok (.fz (.bl true)) S else f2 ds S := by
  unfold cOrV
  refine congrArg (bindR (f1 ds S)) (funext fun w => funext fun S => ?_)
  cases w with
  | ow so => rfl
  | xc => rfl
  | fz d =>
    cases d with
    | bl b => cases b <;> rfl
    | _ => rfl
@[simp] theorem s_notV : cNotV f1 ds S = bindR (f1 ds S) fun w S => bindR (tstW w S) fun b S => .ok (.fz (.bl (!b))) S := by
  unfold cNotV
  refine congrArg (bindR (f1 ds S)) (funext fun w => funext fun S => ?_)
  cases w with
  | ow so => rfl
  | xc => rfl
  | fz d =>
    cases d with
    | bl b => cases b <;> rfl
    | _ => rfl
@[simp] theorem s_if : cIf p f1 f2 ds S = bindR (p ds S) fun b S => if b then f1 ds S else f2 ds S := rfl
/-! views -/
@[simp] theorem s_vL1 {xs : List D} : viewL S (.fz (.lst xs)) = some xs := rfl
@[simp] theorem s_vL2 {xs : List D} : viewL S (.ow (.lst xs)) = some xs := rfl
@[simp] theorem s_vR1 {xs : List D} : viewR S (.fz (.lst xs)) = some xs := rfl
@[simp] theorem s_vR2 {xs : List D} : viewR S (.ow (.lst xs)) = some xs := rfl
@[simp] theorem s_vR3 {ns : List Int} : viewR S (.fz (.scr ns)) = some (ns.map D.int) := rfl
@[simp] theorem s_vR4 {xs : List D} : viewR S (.fz (.tup xs)) = none := rfl
@[simp] theorem s_vR5 {z : Str} : viewR S (.fz (.str z)) = none := rfl
@[simp] theorem s_vT1 {xs : List D} : viewT (.fz (.tup xs)) = some xs := rfl
@[simp] theorem s_vT2 {xs : List D} : viewT (.fz (.lst xs)) = none := rfl
@[simp] theorem s_vT3 {so : SO} : viewT (.ow so) = none := rfl
@[simp] theorem s_vT4 {ns : List Int} : viewT (.fz (.scr ns)) = none := rfl
@[simp] theorem s_vT5 {z : Str} : viewT (.fz (.str z)) = none := rfl
@[simp] theorem s_vK1 {xs : List (Key × D)} : viewK S (.fz (.dct xs)) = some xs := rfl
@[simp] theorem s_vK2 {xs : List (Key × D)} : viewK S (.ow (.dct xs)) = some xs := rfl
@[simp] theorem s_vK3 {xs : List D} : viewK S (.fz (.lst xs)) = none := rfl
@[simp] theorem s_vK4 {xs : List D} : viewK S (.ow (.lst xs)) = none := rfl
@[simp] theorem s_vK5 {xs : List D} : viewK S (.fz (.tup xs)) = none := rfl
@[simp] theorem s_vK6 {ns : List Int} : viewK S (.fz (.scr ns)) = none := rfl
@[simp] theorem s_vK7 {z : Str} : viewK S (.fz (.str z)) = none := rfl
@[simp] theorem s_io1 {xs : List D} : itemsOf S (.fz (.tup xs)) = some xs := rfl
@[simp] theorem s_io2 {xs : List D} : itemsOf S (.fz (.lst xs)) = some xs := rfl
@[simp] theorem s_io3 {xs : List D} : itemsOf S (.ow (.lst xs)) = some xs := rfl
@[simp] theorem s_io4 {ns : List Int} : itemsOf S (.fz (.scr ns)) = some (ns.map D.int) := rfl
@[simp] theorem s_keyI {i : Int} : keyW (.fz (.int i)) = some (.inl i) := rfl
@[simp] theorem s_keyS {z : Str} : keyW (.fz (.str z)) = some (.inr z) := rfl
/-! subscripts -/
def gotW (o : Option D) (S : Store) : R Wv := match o with
  | some d => .ok (.fz d) S
  | none => .bad
@[simp] theorem s_gotW : gotW (some d) S = .ok (.fz d) S := rfl
theorem s_ixR {xs : List D} {i : Int} (h : viewR S w = some xs) : opIx w (.fz (.int i)) S = gotW (atD xs i) S := by
  unfold opIx
  simp only [h]
  rfl
@[simp] theorem s_ixF {xs : List D} {i : Int} : opSub2 (.fz (.lst xs)) (.fz (.int i)) S = gotW (atD xs i) S := rfl
@[simp] theorem s_ixO {xs : List D} {i : Int} : opSub2 (.ow (.lst xs)) (.fz (.int i)) S = gotW (atD xs i) S := rfl
@[simp] theorem s_ixT {xs : List D} {i : Int} : opSub2 (.fz (.tup xs)) (.fz (.int i)) S = gotW (atD xs i) S := rfl
@[simp] theorem s_ixS {ns : List Int} {i : Int} : opSub2 (.fz (.scr ns)) (.fz (.int i)) S = gotW (atD (ns.map D.int) i) S := rfl
@[simp] theorem s_ixD1 {kvs : List (Key × D)} {k : Key} (h : keyW w = some k) : opSub2 (.fz (.dct kvs)) w S = gotW (lkD kvs k) S := by
  unfold opSub2 opGet
  simp only [s_vK1, h]
  rfl
@[simp] theorem s_ixD2 {kvs : List (Key × D)} {k : Key} (h : keyW w = some k) : opSub2 (.ow (.dct kvs)) w S = gotW (lkD kvs k) S := by
  unfold opSub2 opGet
  simp only [s_vK2, h]
  rfl
/-- an item at a place -/
theorem atD_nat {xs : List D} {n : Nat} {d : D} (h : xs[n]? = some d) : atD xs (n : Int) = some d := by
  have hl := (List.getElem?_eq_some_iff.mp h).1
  unfold atD ixN
  rw [if_pos (by omega), if_pos (by omega)]
  simpa using h
@[simp] theorem atD_0 {x : D} {r : List D} : atD (x :: r) 0 = some x := atD_nat (n := 0) rfl
theorem atD_neg1 {xs : List D} {x : D} : atD (xs ++ [x]) (-1) = some x := by
  unfold atD ixN
  rw [if_neg (by decide), if_pos (by simp; omega)]
  have e : (-1 + ((xs ++ [x]).length : Int)).toNat = xs.length := by
    rw [List.length_append, List.length_singleton]
    omega
  simp only [Option.bind_some]
  rw [e]
  simp
/-! statements -/
@[simp] theorem s_skip : cSkip ds S = .nx ds S := rfl
@[simp] theorem s_seq : cSeq a b ds S = andThen (a ds S) b := rfl
@[simp] theorem s_set : cSet i f ds S = liftR (f ds S) ds fun w S => setE i w ds S := rfl
@[simp] theorem s_setE : setE i w ds S = if i < ds.length then .nx (ds.set i (some w)) S else .bad := rfl
@[simp] theorem s_ret : cRet f ds S = liftR (f ds S) ds fun w S => .rt w S := rfl
@[simp] theorem s_retV : cRetV i ds S = lookR ds[i]? S := rfl
@[simp] theorem s_retN : cRetN ds S = .rt (.fz .non) S := rfl
@[simp] theorem s_drop : cDrop f ds S = liftR (f ds S) ds fun _ S => .nx ds S := rfl
@[simp] theorem s_ifS : cIfS p a b ds S = liftR (p ds S) ds fun k S => if k then a ds S else b ds S := rfl
@[simp] theorem s_frzS : cFrz i a ds S = a (frzE i ds) S := rfl
def frzO (i : Nat) (o : Option (Option Wv)) (ds : Env) : Env := match o with
  | some (some (.ow so)) => ds.set i (some (.fz (Wv.ow so).frz))
  | _ => ds
@[simp] theorem s_frzE : frzE i ds = frzO i ds[i]? ds := rfl
@[simp] theorem s_frzO {so : SO} : frzO i (some (some (.ow so))) ds = ds.set i (some (.fz (Wv.ow so).frz)) := rfl
@[simp] theorem s_frzO1 : frzO i (some (some (.fz d))) ds = ds := rfl
@[simp] theorem s_frzO0 : frzO i (some none) ds = ds := rfl
def nxO (o : Option Env) (S : Store) : RS := match o with
  | some ds => .nx ds S
  | none => .bad
@[simp] theorem s_nxO : nxO (some ds) S = .nx ds S := rfl
@[simp] theorem s_asg {t : Tgt} : cAsg t f ds S = liftR (f ds S) ds fun w S => nxO (asgT t w S ds) S := rfl
@[simp] theorem s_asgN : asgT (.nm i) w S ds = if i < ds.length then some (ds.set i (some w)) else none := rfl
def setO (is : List Nat) (o : Option (List D)) (ds : Env) : Option Env := match o with
  | some xs => setAll is xs ds
  | none => none
@[simp] theorem s_asgT {is : List Nat} : asgT (.tp is) w S ds = setO is (itemsOf S w) ds := rfl
@[simp] theorem s_setO {is : List Nat} {xs : List D} : setO is (some xs) ds = setAll is xs ds := rfl
@[simp] theorem s_setAll0 : setAll [] [] ds = some ds := rfl
@[simp] theorem s_setAll1 {is : List Nat} {r : List D} : setAll (i :: is) (d :: r) ds = if i < ds.length then setAll is r (ds.set i (some (.fz d))) else none := rfl
def augO (i : Nat) (o : Option (Option Wv)) (k : Wv → Wv → M Wv) (r : R Wv) (ds : Env) : RS := match o with
  | some (some .xc) => .bad
  | some (some w) => liftR (bindR r fun w2 S => k w w2 S) ds fun w S => setE i w ds S
  | _ => .bad
@[simp] theorem s_aug {k : Wv → Wv → M Wv} : cAug i k f ds S = augO i ds[i]? k (f ds S) ds := rfl
@[simp] theorem s_augO {k : Wv → Wv → M Wv} {r : R Wv} : augO i (some (some (.fz d))) k r ds = liftR (bindR r fun w2 S => k (.fz d) w2 S) ds fun w S => setE i w ds S := rfl
def itO (o : Option (List D)) (S : Store) : R (List D) := match o with
  | some xs => .ok xs S
  | none => .bad
@[simp] theorem s_items : cItems fd ds S = bindR (fd ds S) fun d S => itO (itemsD d) S := rfl
@[simp] theorem s_itO {xs : List D} : itO (some xs) S = .ok xs S := rfl
@[simp] theorem s_itD1 {xs : List D} : itemsD (.lst xs) = some xs := rfl
@[simp] theorem s_itD2 {xs : List D} : itemsD (.tup xs) = some xs := rfl
@[simp] theorem s_itD3 {ns : List Int} : itemsD (.scr ns) = some (ns.map D.int) := rfl
@[simp] theorem s_rng {k : List D → M (List D)} : cRng k fs ds S = bindR (fs ds S) fun xs S => k xs S := rfl
@[simp] theorem s_rng1 {j : Int} : rng1 [.int j] S = if rngOk j then .ok (rngD 0 j.toNat) S else .bad := rfl
@[simp] theorem s_rng2 {i j : Int} : rng2 [.int i, .int j] S = if rngOk i && rngOk j then .ok (rngD i (j - i).toNat) S else .bad := rfl
theorem rngOk_s {i : Int} (h1 : -4611686018427387904 ≤ i) (h2 : i < 4611686018427387904) : rngOk i = true := by
  unfold rngOk
  rw [decide_eq_true (by omega), decide_eq_true (by omega)]
  rfl
@[simp] theorem s_for {fi : Env → M (List D)} {t : Tgt} : cFor fi t body ds S = liftR (fi ds S) ds fun items S => forRun t body items ds S := rfl
@[simp] theorem s_forNil {t : Tgt} : forRun t body [] ds S = .nx ds S := rfl
@[simp] theorem s_while {fu : Env → Nat} : cWhile fu p body ds S = whRun p body (fu ds) ds S := rfl
@[simp] theorem s_call {m : Fn} : cCall m fs ds S = bindR (fs ds S) fun args S => m args S := rfl
@[simp] theorem s_lc {own : List Nat} {t : Tgt} {tst : Env → M Bool} {fe : Env → M D} {fi : Env → M (List D)} : cLc own t tst fe fi ds S = bindR (fi ds S) fun items S => lcRun own t tst fe ds items [] S := rfl
@[simp] theorem s_yes : cYes ds S = .ok true S := rfl
@[simp] theorem s_noP : cNoP ds S = .ok none S := rfl
def prtW (w : Wv) (S : Store) : R (Option Int) := match w with
  | .fz (.int i) => .ok (some i) S
  | _ => .bad
@[simp] theorem s_part : cPart f ds S = bindR (f ds S) prtW := rfl
@[simp] theorem s_prtW {i : Int} : prtW (.fz (.int i)) S = .ok (some i) S := rfl
@[simp] theorem s_sl {fl fh : Env → M (Option Int)} : cSl f fl fh ds S = bindR (f ds S) fun w S => bindR (fl ds S) fun lo S => bindR (fh ds S) fun hi S => opSl w lo hi S := rfl
@[simp] theorem s_slT {xs : List D} {lo hi : Option Int} : opSl (.fz (.tup xs)) lo hi S = if slWhole xs.length lo hi then .bad else .ok (.fz (.tup (cutD xs lo hi))) S := rfl
@[simp] theorem s_slF {xs : List D} {lo hi : Option Int} : opSl (.fz (.lst xs)) lo hi S = .ok (.ow (.lst (cutD xs lo hi))) S := rfl
@[simp] theorem s_slO {xs : List D} {lo hi : Option Int} : opSl (.ow (.lst xs)) lo hi S = .ok (.ow (.lst (cutD xs lo hi))) S := rfl
@[simp] theorem s_slS {ns : List Int} {lo hi : Option Int} : opSl (.fz (.scr ns)) lo hi S = .ok (.ow (.lst (cutD (ns.map D.int) lo hi))) S := rfl
@[simp] theorem s_bnil : bNil ds S = .ok [] S := rfl
@[simp] theorem s_bcons : bCons f fb ds S = bindR (f ds S) fun d S => bindR (fb ds S) fun r S => .ok (d :: r) S := rfl
@[simp] theorem s_blt {k : List Wv → M Wv} : cBlt k fb ds S = bindR (fb ds S) fun ws S => k ws S := rfl
@[simp] theorem s_len1 {xs : List D} : bLen [.fz (.lst xs)] S = .ok (.fz (.int xs.length)) S := rfl
@[simp] theorem s_len2 {xs : List D} : bLen [.ow (.lst xs)] S = .ok (.fz (.int xs.length)) S := rfl
@[simp] theorem s_len3 {xs : List D} : bLen [.fz (.tup xs)] S = .ok (.fz (.int xs.length)) S := rfl
@[simp] theorem s_len4 {ns : List Int} : bLen [.fz (.scr ns)] S = .ok (.fz (.int ns.length)) S := by
  show R.ok (Wv.fz (D.int ((ns.map D.int).length : Nat))) S = _
  rw [List.length_map]
@[simp] theorem s_len5 {z : Str} : bLen [.fz (.str z)] S = if szOk z.length then .ok (.fz (.int z.length)) S else .bad := rfl
@[simp] theorem s_bInt2 {g : Int → Int → Int} {i j : Int} : bInt2 g [.fz (.int i), .fz (.int j)] S = .ok (.fz (.int (g i j))) S := rfl
theorem intsD_map : ∀ ns : List Int, intsD (ns.map D.int) = some ns
  | [] => rfl
  | n :: r => by
    rw [List.map_cons, intsD, intsD_map r]
    rfl
@[simp] theorem s_ints {ns : List Int} : intsD (ns.map D.int) = some ns := intsD_map ns
def sumO (o : Option (List Int)) (S : Store) : R Wv := match o with
  | some ns => .ok (.fz (.int ns.sum)) S
  | none => .bad
@[simp] theorem s_sum1 {xs : List D} : bSum [.fz (.lst xs)] S = sumO (intsD xs) S := rfl
@[simp] theorem s_sum2 {xs : List D} : bSum [.ow (.lst xs)] S = sumO (intsD xs) S := rfl
@[simp] theorem s_sumO {ns : List Int} : sumO (some ns) S = .ok (.fz (.int ns.sum)) S := rfl
def intO (f : List Int → Int) (o : Option (List Int)) (S : Store) : R Wv := match o with
  | some ns => if ns.isEmpty then .bad else .ok (.fz (.int (f ns))) S
  | none => .bad
@[simp] theorem s_intL1 {g : List Int → Int} {xs : List D} : bIntL g [.fz (.lst xs)] S = intO g (intsD xs) S := rfl
@[simp] theorem s_intL2 {g : List Int → Int} {xs : List D} : bIntL g [.ow (.lst xs)] S = intO g (intsD xs) S := rfl
@[simp] theorem s_intO {g : List Int → Int} {ns : List Int} : intO g (some ns) S = if ns.isEmpty then .bad else .ok (.fz (.int (g ns))) S := rfl
@[simp] theorem s_list1 {xs : List D} : bList [.fz (.lst xs)] S = .ok (.ow (.lst xs)) S := rfl
@[simp] theorem s_list2 {xs : List D} : bList [.ow (.lst xs)] S = .ok (.ow (.lst xs)) S := rfl
@[simp] theorem s_list3 {xs : List D} : bList [.fz (.tup xs)] S = .ok (.ow (.lst xs)) S := rfl
@[simp] theorem s_int1 {i : Int} : bInt [.fz (.int i)] S = .ok (.fz (.int i)) S := rfl
@[simp] theorem s_int2b {b : Bool} : bInt [.fz (.bl b)] S = R.ok (Wv.fz (D.int (if b then 1 else 0))) S := rfl
def blO (o : Option String) (b : String) (S : Store) : R Wv := match o with
  | some a => .ok (Wv.fz (D.bl (isTy a b))) S
  | none => .bad
@[simp] theorem s_isTy {b : String} : opIsTy b w S = blO (wTy S w) b S := by
  unfold opIsTy blO
  cases wTy S w <;> rfl
@[simp] theorem s_blO {a b : String} : blO (some a) b S = .ok (.fz (.bl (isTy a b))) S := rfl
@[simp] theorem s_ty1 {i : Int} : wTy S (.fz (.int i)) = some "int" := rfl
@[simp] theorem s_ty2 {b : Bool} : wTy S (.fz (.bl b)) = some "bool" := rfl
@[simp] theorem s_ty3 {z : Str} : wTy S (.fz (.str z)) = some "str" := rfl
@[simp] theorem s_ty4 {xs : List D} : wTy S (.fz (.lst xs)) = some "list" := rfl
@[simp] theorem s_ty5 {xs : List D} : wTy S (.ow (.lst xs)) = some "list" := rfl
@[simp] theorem s_ty6 {xs : List D} : wTy S (.fz (.tup xs)) = some "tuple" := rfl
@[simp] theorem s_ty7 {xs : List (Key × D)} : wTy S (.fz (.dct xs)) = some "dict" := rfl
@[simp] theorem s_ty8 {xs : List (Key × D)} : wTy S (.ow (.dct xs)) = some "dict" := rfl
@[simp] theorem s_ty9 : wTy S (.fz .non) = some "NoneType" := rfl
@[simp] theorem s_ii : isTy "int" "int" = true := rfl
@[simp] theorem s_ib : isTy "int" "bool" = false := rfl
@[simp] theorem s_ll : isTy "list" "list" = true := rfl
@[simp] theorem s_tt : isTy "tuple" "tuple" = true := rfl
@[simp] theorem s_bb : isTy "bool" "bool" = true := rfl
/-! changes -/
@[simp] theorem s_mut {ty : String} {m : Mu} : cMut i ty m fs ds S = if slTy i ty ds S then liftR (fs ds S) ds fun args S => mutE i m args ds S fun _ ds S => .nx ds S else .bad := rfl
def slO (o : Option (Option Wv)) (ty : String) (S : Store) : Bool := match o with
  | some (some (.ow so)) => soTy so == some ty
  | some (some (.fz (.ref n))) => match S[n]? with
    | some so => soTy so == some ty
    | none => false
  | _ => false
@[simp] theorem s_slTy {ty : String} : slTy i ty ds S = slO ds[i]? ty S := rfl
@[simp] theorem s_slO1 {xs : List D} : slO (some (some (.ow (.lst xs)))) "list" S = true := rfl
@[simp] theorem s_slO2 {xs : List (Key × D)} : slO (some (some (.ow (.dct xs)))) "dict" S = true := rfl
def mutO (i : Nat) (o : Option (Option Wv)) (m : Mu) (args : List D) (ds : Env) (S : Store) (k : D → Env → Store → RS) : RS := match o with
  | some (some (.ow so)) => match m so args with
    | some (so', d) => k d (ds.set i (some (.ow so'))) S
    | none => .bad
  | some (some (.fz (.ref n))) => match S[n]? with
    | some so => match m so args with
      | some (so', d) => k d ds (S.set n so')
      | none => .bad
    | none => .bad
  | _ => .bad
@[simp] theorem s_mutE {m : Mu} {k : D → Env → Store → RS} : mutE i m args ds S k = mutO i ds[i]? m args ds S k := rfl
def mut2 (i : Nat) (o : Option (SO × D)) (ds : Env) (S : Store) (k : D → Env → Store → RS) : RS := match o with
  | some (so', d) => k d (ds.set i (some (.ow so'))) S
  | none => .bad
@[simp] theorem s_mutO {m : Mu} {k : D → Env → Store → RS} {so : SO} : mutO i (some (some (.ow so))) m args ds S k = mut2 i (m so args) ds S k := rfl
@[simp] theorem s_mut2 {k : D → Env → Store → RS} {so : SO} : mut2 i (some (so, d)) ds S k = k d (ds.set i (some (.ow so))) S := rfl
@[simp] theorem s_app {xs : List D} : mAppend (.lst xs) [d] = if szOk (xs.length + 1) then some (.lst (xs ++ [d]), .non) else none := rfl
@[simp] theorem s_clear {xs : List D} : mClear (.lst xs) [] = some (.lst [], .non) := rfl
/-- in -/
def inO (o : Option V) (os : Option (List V)) (S : Store) : R Bool := match o, os with
  | some v, some vs => .ok (inV v vs) S
  | _, _ => .bad
@[simp] theorem s_inT {xs : List D} : opIn (.fz d) (.fz (.tup xs)) S = inO (dV d) (dVs xs) S := by
  cases h1 : dV d <;> cases h2 : dVs xs <;> simp [opIn, inO, h1, h2]
@[simp] theorem s_inL {xs : List D} : opIn (.fz d) (.fz (.lst xs)) S = inO (dV d) (dVs xs) S := by
  cases h1 : dV d <;> cases h2 : dVs xs <;> simp [opIn, inO, h1, h2]
@[simp] theorem s_inL2 {xs : List D} : opIn (.fz d) (.ow (.lst xs)) S = inO (dV d) (dVs xs) S := by
  cases h1 : dV d <;> cases h2 : dVs xs <;> simp [opIn, inO, h1, h2]
@[simp] theorem s_inO {v : V} {vs : List V} : inO (some v) (some vs) S = .ok (inV v vs) S := rfl
end
end Mir
set_option Elab.async false
set_option linter.all false
set_option maxRecDepth 100000
/-! MirC: the helpers that many laws have: digits, mixed, cells. -/
namespace MirC
open PySem L2 Mir
def m_digits_l1 : CS :=
    (cSeq (cMut 2 "list" mAppend (cCons (cFz (cBin opMod (cBor 0) (cBor 3))) cNil))
      (cSet 0 (cBin opDiv (cBor 0) (cBor 3))))
def m_digits : CS :=
    (cSeq (cSet 2 (cLst cNil))
    (cSeq (cFor (cItems (cVar 1)) (.nm 3) m_digits_l1)
    (cRetV 2)))
def f_digits : Fn := runF 4 m_digits
def m_mixed : CS :=
    (cSeq (cSet 2 (cBin opMod (cBin opMul (cBin opAdd (cBin opAdd (cBor 0) (cBin opMul (cBin opMul (cUp (cC (.int 7919))) (cBor 1)) (cBor 1))) (cBor 1)) (cUp (cC (.int 982451653)))) (cUp (cC (.int 2305843009213693951)))))
    (cSeq (cSet 3 (cBin opMod (cBin opMul (cBor 2) (cUp (cC (.int 1000003)))) (cUp (cC (.int 1152921504606846883)))))
    (cRet (cBin opMul (cBin opMul (cBor 2) (cBor 3)) (cBin opAdd (cBin opAdd (cBin opDiv (cBor 2) (cUp (cC (.int 4096)))) (cBin opDiv (cBor 3) (cUp (cC (.int 64))))) (cUp (cC (.int 1))))))))
def f_mixed : Fn := runF 4 m_mixed
def m_cells : CS :=
    (cSeq (cIfS (cAnd (cBin opGt (cBlt bLen (bCons (cBor 0) bNil)) (cUp (cC (.int 0)))) (cBin opEq (cBin opMod (cBin opSub2 (cBor 0) (cUp (cC (.int 0)))) (cUp (cC (.int 2)))) (cUp (cC (.int 1)))))
      (cSeq (cSet 1 (cBlt (bInt2 maxI) (bCons (cBlt (bInt2 minI) (bCons (cBlt bLen (bCons (cBor 0) bNil)) (bCons (cUp (cC (.int 63))) bNil))) (bCons (cBin opAdd (cUp (cC (.int 3))) (cBin opMod (cBin opDiv (cBin opSub2 (cBor 0) (cUp (cC (.int 0)))) (cUp (cC (.int 2)))) (cUp (cC (.int 61))))) bNil))))
      (cRet (cLc [3] (.nm 3) cYes (cFz (cCall f_mixed (cCons (cFz (cBin opSub2 (cBor 0) (cBin opMod (cBor 3) (cBlt bLen (bCons (cBor 0) bNil))))) (cCons (cVar 3) cNil)))) (cRng rng1 (cCons (cVar 1) cNil)))))
      cSkip)
    (cRet (cLc [2] (.nm 2) cYes (cFz (cBin opMod (cBor 2) (cBin opPow (cUp (cC (.int 10))) (cUp (cC (.int 60)))))) (cItems (cFz (cSl (cBor 0) cNoP (cPart (cUp (cC (.int 63))))))))))
def f_cells : Fn := runF 4 m_cells
def m_cell_at : CS :=
    (cSeq (cIfS (cBin opLt (cBor 1) (cBlt bLen (bCons (cBor 0) bNil)))
      (cRet (cBin opSub2 (cBor 0) (cBor 1)))
      cSkip)
    (cRet (cUp (cC (.int 0)))))
def f_cell_at : Fn := runF 2 m_cell_at
def m_whole : CS :=
    (cRet (cAndV (cUn (opIsTy "int") (cBor 0)) (cNotV (cUn (opIsTy "bool") (cBor 0)))))
def f_whole : Fn := runF 1 m_whole
variable {S : Store}
theorem whole_eq (i : Int) : f_whole [.int i] S = .ok (.fz (.bl true)) S := rfl

/-! ### digits -/
def digits : Int → List Int → List Int
  | _, [] => []
  | c, b :: r => c % b :: digits (c / b) r
theorem digits_len : ∀ (bs : List Int) (c : Int), (digits c bs).length = bs.length
  | [], _ => rfl
  | b :: r, c => by rw [digits, List.length_cons, List.length_cons, digits_len r]
theorem digits_turn {b c : Int} {acc : List D} {D0 : D} (b0 : 0 < b) (b1 : b.natAbs < 2 ^ 250) (ha : acc.length < 1000) :
    m_digits_l1 [some (.fz (.int c)), some (.fz D0), some (.ow (.lst acc)), some (.fz (.int b))] S = .nx [some (.fz (.int (c / b))), some (.fz D0), some (.ow (.lst (acc ++ [.int (c % b)]))), some (.fz (.int b))] S := by
  have e1 : szOk (acc.length + 1) = true := szOk_le (by omega)
  simp [m_digits_l1, modOk_p b0, divOk_b 250 b0 b1 (by decide) (by decide), e1]
theorem digits_run (bs : List Int) (hb : ∀ b ∈ bs, 0 < b ∧ b.natAbs < 2 ^ 250) : ∀ (c : Int) (acc : List D) (D0 : D) (z : Option Wv), acc.length + bs.length ≤ 1000 → ∃ z' c',
    forRun (.nm 3) m_digits_l1 (bs.map D.int) [some (.fz (.int c)), some (.fz D0), some (.ow (.lst acc)), z] S = .nx [some (.fz (.int c')), some (.fz D0), some (.ow (.lst (acc ++ (digits c bs).map D.int))), z'] S := by
  induction bs with
  | nil => exact fun c acc D0 z _ => ⟨z, c, by simp [forRun, digits]⟩
  | cons b r ih =>
    intro c acc D0 z ha
    obtain ⟨b0, b1⟩ := hb b List.mem_cons_self
    rw [List.length_cons] at ha
    obtain ⟨z', c', h⟩ := ih (fun x hx => hb x (List.mem_cons_of_mem _ hx)) (c / b) (acc ++ [.int (c % b)]) D0 (some (.fz (.int b))) (by simp; omega)
    refine ⟨z', c', ?_⟩
    rw [List.map_cons, forRun_cons (ds1 := [some (.fz (.int c)), some (.fz D0), some (.ow (.lst acc)), some (.fz (.int b))]) rfl (digits_turn b0 b1 (by omega)), h]
    simp [digits]
theorem digits_eq {bs : List Int} (hb : ∀ b ∈ bs, 0 < b ∧ b.natAbs < 2 ^ 250) (hl : bs.length ≤ 1000) (c : Int) : f_digits [.int c, .lst (bs.map D.int)] S = .ok (.ow (.lst ((digits c bs).map D.int))) S := by
  obtain ⟨z', c', h⟩ := digits_run (S := S) bs hb c [] (.lst (bs.map D.int)) none (by simpa using hl)
  simp [f_digits, s_runF, m_digits, startE, szOk, h]

/-! ### mixed -/
def mixed (c k : Int) : Int :=
  ((c + 7919 * k * k + k) * 982451653 % 2305843009213693951) * ((c + 7919 * k * k + k) * 982451653 % 2305843009213693951 * 1000003 % 1152921504606846883) *
    ((c + 7919 * k * k + k) * 982451653 % 2305843009213693951 / 4096 + (c + 7919 * k * k + k) * 982451653 % 2305843009213693951 * 1000003 % 1152921504606846883 / 64 + 1)
theorem mixed_eq (c k : Int) (h0 : 0 ≤ k) (h1 : k < 1000) : f_mixed [.int c, .int k] S = .ok (.fz (.int (mixed c k))) S := by
  have n0 : 0 ≤ (c + 7919 * k * k + k) * 982451653 % 2305843009213693951 := Int.emod_nonneg _ (by decide)
  have n1 : (c + 7919 * k * k + k) * 982451653 % 2305843009213693951 < 2305843009213693951 := Int.emod_lt_of_pos _ (by decide)
  have o0 : 0 ≤ (c + 7919 * k * k + k) * 982451653 % 2305843009213693951 * 1000003 % 1152921504606846883 := Int.emod_nonneg _ (by decide)
  have o1 : (c + 7919 * k * k + k) * 982451653 % 2305843009213693951 * 1000003 % 1152921504606846883 < 1152921504606846883 := Int.emod_lt_of_pos _ (by decide)
  have m1 : mulOk 7919 k = true := mulOk_l (by decide) (by decide)
  have m2 : mulOk (7919 * k) k = true := mulOk_r (by omega) (by omega)
  have m3 : ∀ x, mulOk x 982451653 = true := fun x => mulOk_r (by decide) (by decide)
  have m4 : ∀ x, mulOk x 1000003 = true := fun x => mulOk_r (by decide) (by decide)
  have d1 : ∀ x, divOk x 4096 = true := fun x => divOk_s (by decide) (by decide)
  have d2 : ∀ x, divOk x 64 = true := fun x => divOk_s (by decide) (by decide)
  have m5 : mulOk ((c + 7919 * k * k + k) * 982451653 % 2305843009213693951) ((c + 7919 * k * k + k) * 982451653 % 2305843009213693951 * 1000003 % 1152921504606846883) = true := mulOk_l (by omega) (by omega)
  have m6 : mulOk (((c + 7919 * k * k + k) * 982451653 % 2305843009213693951) * ((c + 7919 * k * k + k) * 982451653 % 2305843009213693951 * 1000003 % 1152921504606846883)) ((c + 7919 * k * k + k) * 982451653 % 2305843009213693951 / 4096 + (c + 7919 * k * k + k) * 982451653 % 2305843009213693951 * 1000003 % 1152921504606846883 / 64 + 1) = true := mulOk_r (by omega) (by omega)
  generalize hn : (c + 7919 * k * k + k) * 982451653 % 2305843009213693951 = n at *
  generalize ho : n * 1000003 % 1152921504606846883 = o at *
  simp [f_mixed, s_runF, m_mixed, startE, modOk, m1, m2, m3, m4, m5, m6, d1, d2, hn, ho]
  unfold mixed
  rw [hn, ho]
theorem mixed_b (c k : Int) : 0 ≤ mixed c k ∧ mixed c k < 2 ^ 180 := by
  have n0 : 0 ≤ (c + 7919 * k * k + k) * 982451653 % 2305843009213693951 := Int.emod_nonneg _ (by decide)
  have n1 : (c + 7919 * k * k + k) * 982451653 % 2305843009213693951 < 2305843009213693951 := Int.emod_lt_of_pos _ (by decide)
  unfold mixed
  generalize (c + 7919 * k * k + k) * 982451653 % 2305843009213693951 = n at *
  have o0 : 0 ≤ n * 1000003 % 1152921504606846883 := Int.emod_nonneg _ (by decide)
  have o1 : n * 1000003 % 1152921504606846883 < 1152921504606846883 := Int.emod_lt_of_pos _ (by decide)
  generalize n * 1000003 % 1152921504606846883 = o at *
  have a0 : 0 ≤ n * o := Int.mul_nonneg n0 o0
  have a1 : n * o ≤ 2305843009213693951 * 1152921504606846883 := Int.mul_le_mul (by omega) (by omega) o0 (by decide)
  have b0 : 0 ≤ n / 4096 + o / 64 + 1 := by omega
  have b1 : n / 4096 + o / 64 + 1 ≤ 36028797018963968 := by omega
  refine ⟨Int.mul_nonneg a0 b0, Int.lt_of_le_of_lt (Int.mul_le_mul a1 b1 b0 (by decide)) (by decide)⟩

/-! ### cells -/
def cells (ns : List Int) : List Int := match ns with
  | [] => []
  | n :: r => if n % 2 = 1 then (List.range (maxI (minI ((r.length : Int) + 1) 63) (3 + n / 2 % 61)).toNat).map fun k => mixed ((n :: r).getD (k % (r.length + 1)) 0) (k : Nat)
    else ((n :: r).take 63).map fun c => c % 10 ^ 60
theorem cells_len (ns : List Int) : (cells ns).length ≤ 63 := by
  cases ns with
  | nil => decide
  | cons n r =>
    unfold cells
    dsimp only
    split
    · rw [List.length_map, List.length_range]
      have h1 : n / 2 % 61 < 61 := Int.emod_lt_of_pos _ (by decide)
      have h2 : 0 ≤ n / 2 % 61 := Int.emod_nonneg _ (by decide)
      unfold maxI minI
      split <;> split <;> omega
    · rw [List.length_map, List.length_take]
      omega
theorem cells_b (ns : List Int) : ∀ c ∈ cells ns, 0 ≤ c ∧ c < 2 ^ 200 := by
  cases ns with
  | nil => intro c h; cases h
  | cons n r =>
    unfold cells
    dsimp only
    intro c hc
    split at hc
    · obtain ⟨k, _, rfl⟩ := List.mem_map.mp hc
      obtain ⟨h1, h2⟩ := mixed_b ((n :: r).getD (k % (r.length + 1)) 0) (k : Nat)
      exact ⟨h1, Int.lt_trans h2 (by decide)⟩
    · obtain ⟨k, _, rfl⟩ := List.mem_map.mp hc
      exact ⟨Int.emod_nonneg _ (by decide), Int.lt_trans (Int.emod_lt_of_pos _ (by decide)) (by decide)⟩
theorem getD_scr (ns : List Int) (k : Nat) (h : k < ns.length) : atD (ns.map D.int) (k : Int) = some (.int (ns.getD k 0)) := by
  have : (k : Int) < ((ns.map D.int).length : Int) := by simpa using h
  simp [atD, ixN, h]
def el_mixed : Mir.Env → M D := (cFz (cCall f_mixed (cCons (cFz (cBin opSub2 (cBor 0) (cBin opMod (cBor 3) (cBlt bLen (bCons (cBor 0) bNil))))) (cCons (cVar 3) cNil))))
def el_plain : Mir.Env → M D := (cFz (cBin opMod (cBor 2) (cBin opPow (cUp (cC (.int 10))) (cUp (cC (.int 60))))))
theorem mixed_el (ns : List Int) (hn : ns ≠ []) (k : Nat) (hk : k < 1000) (z1 z2 : Option Wv) : el_mixed [some (.fz (.scr ns)), z1, z2, some (.fz (.int (k : Nat)))] S = .ok (.int (mixed (ns.getD (k % ns.length) 0) (k : Nat))) S := by
  have hp : 0 < ns.length := List.length_pos_iff.mpr hn
  have h1 : modOk (k : Int) (ns.length : Int) = true := modOk_p (by omega)
  have e1 : ((k : Int) % (ns.length : Int)) = ((k % ns.length : Nat) : Int) := by omega
  have e2 : atD (ns.map D.int) ((k : Int) % (ns.length : Int)) = some (.int (ns.getD (k % ns.length) 0)) := by
    rw [e1]
    exact getD_scr ns _ (Nat.mod_lt _ hp)
  have e3 := mixed_eq (S := S) (ns.getD (k % ns.length) 0) (k : Nat) (by omega) (by omega)
  rw [List.getD_eq_getElem?_getD] at e2 e3
  simp [el_mixed, h1, e2, e3]
theorem plain_el (ns : List Int) (z1 z2 : Option Wv) : lcRun [2] (.nm 2) cYes el_plain [some (.fz (.scr ns)), z1, none, z2] ((ns.take 63).map D.int) [] S = .ok (.ow (.lst (((ns.take 63).map fun c => c % 10 ^ 60).map D.int))) S := by
  rw [List.map_map]
  refine lc_map D.int (fun c => D.int (c % 10 ^ 60)) (ns.take 63) (fun c _ => ⟨[some (.fz (.scr ns)), z1, some (.fz (.int c)), z2], by simp [wipeE], rfl, ?_⟩) (by rw [List.length_take]; omega)
  simp [el_plain, powOk, modOk]
def m_cells' : CS :=
    (cSeq (cIfS (cAnd (cBin opGt (cBlt bLen (bCons (cBor 0) bNil)) (cUp (cC (.int 0)))) (cBin opEq (cBin opMod (cBin opSub2 (cBor 0) (cUp (cC (.int 0)))) (cUp (cC (.int 2)))) (cUp (cC (.int 1)))))
      (cSeq (cSet 1 (cBlt (bInt2 maxI) (bCons (cBlt (bInt2 minI) (bCons (cBlt bLen (bCons (cBor 0) bNil)) (bCons (cUp (cC (.int 63))) bNil))) (bCons (cBin opAdd (cUp (cC (.int 3))) (cBin opMod (cBin opDiv (cBin opSub2 (cBor 0) (cUp (cC (.int 0)))) (cUp (cC (.int 2)))) (cUp (cC (.int 61))))) bNil))))
      (cRet (cLc [3] (.nm 3) cYes el_mixed (cRng rng1 (cCons (cVar 1) cNil)))))
      cSkip)
    (cRet (cLc [2] (.nm 2) cYes el_plain (cItems (cFz (cSl (cBor 0) cNoP (cPart (cUp (cC (.int 63))))))))))
theorem cut_script (ns : List Int) (hl : ns.length ≤ 63) : cutD (ns.map D.int) none (some 63) = (ns.take 63).map D.int := by
  unfold cutD
  rw [HT.sIx_none, show HT.sIx (ns.map D.int).length (ns.map D.int).length (some 63) = min 63 (ns.map D.int).length from HT.sIx_nat _ _ 63, List.drop_zero, List.map_take, Nat.sub_zero]
  rw [List.length_map, Nat.min_eq_right hl, List.take_of_length_le (by simp), List.take_of_length_le (by simpa using hl)]
theorem cells_eq (ns : List Int) (hl : ns.length ≤ 63) : f_cells [.scr ns] S = .ok (.ow (.lst ((cells ns).map D.int))) S := by
  have pl := plain_el (S := S) ns none none
  have cut := cut_script ns hl
  show runF 4 m_cells' [.scr ns] S = _
  cases ns with
  | nil =>
    simp at cut pl
    simp [s_runF, m_cells', startE, cut, pl]
    rfl
  | cons n r =>
    have l1 : (0 : Int) < (r.length : Int) + 1 := by omega
    by_cases h2 : n % 2 = 1
    · have e0 : cells (n :: r) = (List.range (maxI (minI ((r.length : Int) + 1) 63) (3 + n / 2 % 61)).toNat).map fun k => mixed ((n :: r).getD (k % (r.length + 1)) 0) (k : Nat) := by
        unfold cells
        dsimp only
        rw [if_pos h2]
      have hm1 : n / 2 % 61 < 61 := Int.emod_lt_of_pos _ (by decide)
      have hm2 : 0 ≤ n / 2 % 61 := Int.emod_nonneg _ (by decide)
      have hb : 0 ≤ maxI (minI ((r.length : Int) + 1) 63) (3 + n / 2 % 61) ∧ maxI (minI ((r.length : Int) + 1) 63) (3 + n / 2 % 61) ≤ 63 := by
        unfold maxI minI
        split <;> split <;> omega
      generalize hM : maxI (minI ((r.length : Int) + 1) 63) (3 + n / 2 % 61) = M at *
      have hr : rngOk M = true := rngOk_s (by omega) (by omega)
      have lc : ∀ (z1 z2 : Option Wv), lcRun [3] (.nm 3) cYes el_mixed [some (.fz (.scr (n :: r))), z1, z2, none] (rngD 0 M.toNat) [] S = .ok (.ow (.lst ((cells (n :: r)).map D.int))) S := fun z1 z2 => by
        rw [e0, List.map_map]
        unfold rngD
        refine lc_map (fun i => D.int (0 + (i : Nat))) _ (List.range M.toNat) (fun k hk => ⟨[some (.fz (.scr (n :: r))), z1, z2, some (.fz (.int (k : Nat)))], by simp [wipeE], rfl, ?_⟩) (by rw [List.length_range]; omega)
        have hk' := List.mem_range.mp hk
        exact mixed_el (n :: r) (by simp) k (by omega) z1 z2
      have d2 : divOk n 2 = true := divOk_s (by decide) (by decide)
      simp [s_runF, m_cells', startE, l1, modOk, h2, d2, hM, hr, lc]
    · have e0 : cells (n :: r) = ((n :: r).take 63).map fun c => c % 10 ^ 60 := by
        unfold cells
        dsimp only
        rw [if_neg h2]
      rw [← e0] at pl
      simp only [List.map_cons] at cut
      simp [s_runF, m_cells', startE, l1, modOk, h2, cut, pl, -List.take_succ_cons, -List.map_take]
theorem cell_at_eq (ns : List Int) (k : Nat) : f_cell_at [.scr ns, .int (k : Nat)] S = .ok (.fz (.int (ns.getD k 0))) S := by
  by_cases h : k < ns.length
  · have e := getD_scr ns k h
    have h' : (k : Int) < (ns.length : Int) := by omega
    simp [f_cell_at, s_runF, m_cell_at, startE, h, e]
  · simp [f_cell_at, s_runF, m_cell_at, startE, h]
/-- the script's cell -/
def cl (ns : List Int) (k : Nat) : Int := ns.getD k 0
theorem cell_at_cl (ns : List Int) (k : Nat) : f_cell_at [.scr ns, .int (k : Nat)] S = .ok (.fz (.int (cl ns k))) S := cell_at_eq ns k
end MirC
set_option Elab.async false
set_option linter.all false
set_option maxRecDepth 100000
/-! Mir12: errors raised and caught. -/
namespace Mir
open PySem PySem.Spec PyProof.Rows L2

/-! ### raise, a class of one's own without __init__ -/
structure ExcF (K : PySem.W.Frag) (mg : Str → Option Value) (x : Str) (C : Addr) : Prop where
  g : mg x = some (.ref C)
  ex : PySem.W.excIn K C [.type "ValueError", .type "Exception", .type "BaseException", .type "object"] "ValueError.__new__" = true
  kp : PySem.W.keepIn K (.ref C) = true
  sb : PySem.W.subIn K (.ref C) (.type "BaseException") = some true
  tp : PySem.W.typeIn K (.ref C) = some (.type "type")
def cRaise (c : Nat) : CS := fun ds S => .ex (c, none) ds S
section
variable {T : Tx} {Wx : WX} {X : Cx} {e : Expr} {g g0 g1 : Gh} {H H0 H1 : Hp} {c : Chk} {S S1 : Store} {ds : Env} {σ : SV} {st : Stmt} {rest : List Stmt} {pos : Pos} {f1 : CE}
theorem js_raise {x m : Str} {k : Nat} {j : Nat} {p p2 pos' : Pos} (lv : Lv T Wx X) (hc : X.calm = true) (F : ExcF T.K X.mg x (T.cls k)) (hg : Gl X x) (hdb : (x == ("__debug__" : Str)) = false := by decide) : JS T Wx X (.Raise (some (.Call (.Name x p) [.Constant (.str m) j p2] [] pos')) none pos) (cRaise k) := by
  have hK := lv.hK
  refine PS.imp (ps_raise hc lv.tk (pmk_own PySem.F.excBase_ValueError (hK.symm ▸ F.ex) F.g (hK.symm ▸ F.kp) (raises_own (hK.symm ▸ F.sb) (hK.symm ▸ F.tp)) hg hdb)) fun D' σ H ⟨g0, H0, c, g, S, ds, fr, q⟩ => ?_
  exact q g H σ (.ref (T.cls k)) none fr ⟨rfl, rfl⟩

/-! ### the relations, with another error in mind -/
def Tx.wi (T : Tx) (a : Addr) (l : Addr → HO → Prop) : Tx := ⟨T.K, T.cls, a, l⟩
variable {a : Addr} {l : Addr → HO → Prop}
mutual
theorem Rep.wi : ∀ {d : D} {v : V}, Rep T g H d v → Rep (T.wi a l) g H d v
  | _, _, .non => .non
  | _, _, .bl b => .bl b
  | _, _, .int i => .int i
  | _, _, .str x => .str x
  | _, _, .tup h n r => .tup h n (Reps.wi r)
  | _, _, .lst h n r => .lst h n (Reps.wi r)
  | _, _, .scr h => .scr h
  | _, _, .dct h n r => .dct h n (RepK.wi r)
  | _, _, .ins h n r => .ins h n (RepF.wi r)
  | _, _, .ref h => .ref h
theorem Reps.wi : ∀ {ds : List D} {vs : List V}, Reps T g H ds vs → Reps (T.wi a l) g H ds vs
  | _, _, .nil => .nil
  | _, _, .cons h r => .cons (Rep.wi h) (Reps.wi r)
theorem RepK.wi : ∀ {ds : List (Key × D)} {vs : List (Key × V)}, RepK T g H ds vs → RepK (T.wi a l) g H ds vs
  | _, _, .nil => .nil
  | _, _, .cons h r => .cons (Rep.wi h) (RepK.wi r)
theorem RepF.wi : ∀ {ds : List (Str × D)} {vs : List (Str × V)}, RepF T g H ds vs → RepF (T.wi a l) g H ds vs
  | _, _, .nil => .nil
  | _, _, .cons h r => .cons (Rep.wi h) (RepF.wi r)
end
theorem RepO.wi {o : SO} {ho : HO} (r : RepO T g H o ho) : RepO (T.wi a l) g H o ho := by
  cases r with
  | lst r => exact .lst r.wi
  | dct r => exact .dct r.wi
  | ins r => exact .ins (T := T.wi a l) r.wi
theorem RelS.wi (r : RelS T g S H) : RelS (T.wi a l) g S H := ⟨r.len, r.nd, r.liv, fun n o b h1 h2 => let ⟨ho, h3, p⟩ := r.obj n o b h1 h2; ⟨ho, h3, p.wi⟩⟩
theorem Own.wi {so : SO} {b : Addr} (o : Own T H0 g H so b) : Own (T.wi a l) H0 g H so b := ⟨o.new, o.liv, o.nio, let ⟨ho, h, p⟩ := o.obj; ⟨ho, h, p.wi⟩⟩
theorem RepW.wi {w : Wv} {v : V} (r : RepW T H0 g H w v) : RepW (T.wi a l) H0 g H w v := by
  cases w with
  | fz d => exact Rep.wi r
  | ow so =>
    obtain ⟨b, e, o⟩ := r
    exact ⟨b, e, o.wi⟩
  | xc => exact r
/-- no caught error in the slots -/
def noXc (ds : Env) : Bool := ds.all fun s => match s with
  | some .xc => false
  | _ => true
theorem noXc_at (h : noXc ds = true) {i : Nat} : ds[i]? ≠ some (some .xc) := fun z => by
  have q := List.all_eq_true.mp h _ (List.mem_of_getElem? z)
  cases q
theorem FR.wi (fr : FR T g0 H0 c g H S ds σ) (hx : noXc ds = true) (hl : ∀ b o, l b o → H b = some o ∧ ¬ g.L b) : FR (T.wi a l) g0 H0 c g H S ds σ :=
  ⟨fr.ext, fr.st.wi, ⟨fr.env.len, fun i d h => let ⟨v, h1, r⟩ := fr.env.fz i d h; ⟨v, h1, r.wi⟩, fun i so h => let ⟨b, h1, o⟩ := fr.env.ow i so h; ⟨b, h1, o.wi⟩, fr.env.ne, fun i h => (noXc_at hx h).elim⟩, fr.fz, fr.io, hl⟩
theorem FR.unwi {a' : Addr} {l' : Addr → HO → Prop} (hT : ∀ b o, ¬ T.lean b o) (fr : FR (T.wi a' l') g0 H0 c g H S ds σ) (hx : noXc ds = true) : FR T g0 H0 c g H S ds σ := by
  have q := FR.wi (T := T.wi a' l') (a := T.xa) (l := T.lean) fr hx fun b o h => (hT b o h).elim
  exact q
theorem RepW.unwi {a' : Addr} {l' : Addr → HO → Prop} {w : Wv} {v : V} (r : RepW (T.wi a' l') H0 g H w v) : RepW T H0 g H w v := by
  have q := RepW.wi (T := T.wi a' l') (a := T.xa) (l := T.lean) r
  exact q
theorem RelS.unwi {a' : Addr} {l' : Addr → HO → Prop} (r : RelS (T.wi a' l') g S H) : RelS T g S H := by
  have q := RelS.wi (T := T.wi a' l') (a := T.xa) (l := T.lean) r
  exact q

/-! ### try, except X as e -/
/-- what is known of the caught error's dict -/
def lnX (x : Xn) (d : Option Addr) : Addr → HO → Prop := fun b o => ∃ f i, x.2 = some (f, i) ∧ d = some b ∧ o = .xd [(f, .int i)]
abbrev Tx.sx (T : Tx) (a : Addr) (x : Xn) (d : Option Addr) : Tx := T.wi a (lnX x d)
/-- behind the suite the name is gone -/
def unX (i : Nat) : RS → RS
  | .nx ds S => if noXc (ds.set i none) then .nx (ds.set i none) S else .bad
  | .bk ds S => if noXc (ds.set i none) then .bk (ds.set i none) S else .bad
  | .ct ds S => if noXc (ds.set i none) then .ct (ds.set i none) S else .bad
  | .rt w S => .rt w S
  | _ => .bad
def catchX (i : Nat) (tst : Nat → Option Bool) (h : Xn → CS) (x : Xn) (ds : Env) (S : Store) : RS := match tst x.1 with
  | some true => if noXc ds && decide (i < ds.length) then unX i (h x (ds.set i (some .xc)) S) else .bad
  | some false => .ex x ds S
  | none => .bad
def cTry (i : Nat) (tst : Nat → Option Bool) (b : CS) (h : Xn → CS) : CS := fun ds S => match b ds S with
  | .ex x ds S => catchX i tst h x ds S
  | r => r
/-- in the suite nothing is raised -/
def XD (y : Xn) (d : Option Addr) : Prop := (y.2 = none → d = none) ∧ ∀ f i, y.2 = some (f, i) → ∃ dd, d = some dd
def tsX (T : Tx) (h : Xn → CS) (a : Addr) (cls : Value) (d : Option Addr) : TS := fun D' σ H => ∃ x : Xn, (cls = .ref (T.cls x.1) ∧ XD x d) ∧ tS (T.sx a x d) W0 (h x) D' σ H
theorem PSs.ex {α : Type} {ss : List Stmt} {t : α → TS} (h : ∀ x, PSs X ss (t x)) : PSs X ss (fun D σ H => ∃ x, t x D σ H) := ⟨fun pins s σ H D I ⟨x, q⟩ => (h x).run pins s σ H D I q⟩
theorem PSs.hyp {φ : Prop} {ss : List Stmt} {t : TS} (h : φ → PSs X ss t) : PSs X ss (fun D σ H => φ ∧ t D σ H) := ⟨fun pins s σ H D I ⟨f, q⟩ => (h f).run pins s σ H D I q⟩
theorem Lv.tr (lv : Lv T Wx X) {W : WX} {pn : List (Addr × Obj)} {xe : Value → Shared → Prop} (tk : Takes (X.tr pn xe) W) : Lv T W (X.tr pn xe) := ⟨lv.hK, tk, lv.un⟩
theorem Bd.tr {mg : Str → Option Value} {P : Program} {w : World} {base : Heap} {k : Nat} (B : Bd T mg P w base k Wx X) {W : WX} {pn : List (Addr × Obj)} {xe : Value → Shared → Prop} (tk : Takes (X.tr pn xe) W) (po : PassesOwn (model X.prog X.w) X.A X.env xe) : Bd T mg P w base k W (X.tr pn xe) :=
  ⟨B.toLv.tr tk, B.calm, B.mg, B.prog, B.wo, B.ba, B.rm, po⟩
theorem js_try {i : Nat} {x n : Str} {cv : Value} {tst : Nat → Option Bool} {bf : CS} {hf : Xn → CS} {body suite : List Stmt} {b₀ : Stmt} {np pos' : Pos} (lv : Lv T Wx X) (hT : ∀ b o, ¬ T.lean b o) (hs : X.stack = X.env :: X.outer) (hfr : X.env.frame = some X.env.locals) (hN : X.N.Nodup) (hi : X.N[i]? = some n) (hln : X.env.kindOf n = some .local)
    (hc : Names X x cv) (htst : ∀ c b, tst c = some b → PySem.W.exmOne T.K (.ref (T.cls c)) cv = some b)
    (hb : ∀ (W : WX) (pn : List (Addr × Obj)) (xe : Value → Shared → Prop), Takes (X.tr pn xe) W → PassesOwn (model X.prog X.w) X.A X.env xe → JSs T W (X.tr pn xe) body bf)
    (hsu : ∀ (a : Addr) (oe : Obj) (d : Option Addr) (pn : List (Addr × Obj)) (y : Xn), Zc (.ref (T.cls y.1)) d oe → (∃ vs, oe.data = .fields vs) → XD y d → JSs (T.sx a y d) W0 (X.suite a ((a, oe) :: pn)) (b₀ :: suite) (hf y)) :
    JS T Wx X (.Try body [.ExceptHandler (some (.Name x np)) (some n) (b₀ :: suite) pos'] [] [] pos) (cTry i tst bf hf) := by
  refine PS.imp (ps_try_as (tb := fun W => tS T W bf) (ts := fun a cls d => tsX T hf a cls d) hs hfr hN hi hln hc lv.tk hb fun a oe cls d pn hz hf' => PSs.ex fun y => PSs.hyp fun e => hsu a oe d pn y (e.1 ▸ hz) hf' e.2) fun D' σ H ⟨g0, H0, c, g, S, ds, fr, p⟩ => ?_
  refine ⟨g0, H0, c, g, S, ds, fr, ?_⟩
  unfold cTry at p
  cases q : bf ds S with
  | nx ds' S' => rw [q] at p; exact p
  | rt w S' => rw [q] at p; exact p
  | bk ds' S' => rw [q] at p; exact p
  | ct ds' S' => rw [q] at p; exact p
  | bad => rw [q] at p; exact p
  | ex y ds' S' =>
    rw [q] at p
    dsimp only at p
    intro g1 H1 σ1 cls d fr1 rx
    obtain ⟨ec, rx2⟩ := rx
    subst ec
    unfold catchX at p
    split at p
    · rename_i ht
      refine ⟨true, by rw [lv.hK]; exact htst _ _ ht, fun _ a ha => ?_, fun z => (by cases z)⟩
      split at p
      · rename_i hz
        rcases Bool.and_eq_true_iff.mp hz with ⟨z1, z2⟩
        have hl : i < ds'.length := of_decide_eq_true z2
        have hle : ∀ b o, lnX y d b o → H1 b = some o ∧ ¬ g1.L b := fun b o ⟨f, k, h1, h2, h3⟩ => by
          rw [h1] at rx2
          obtain ⟨dd, q1, q2, q3⟩ := rx2
          rw [h2] at q1
          cases q1
          rw [h3]
          exact ⟨q2, q3⟩
        have fr2 := (fr1.wi (a := a) (l := lnX y d) z1 hle).set (i := i) (w := .xc) (v := .ref a) rfl hl
        have xd : XD y d := by
          refine ⟨fun e => ?_, fun f k e => ?_⟩
          · rw [e] at rx2
            exact rx2
          · rw [e] at rx2
            obtain ⟨dd, q1, _⟩ := rx2
            exact ⟨dd, q1⟩
        refine ⟨y, ⟨rfl, xd⟩, g0, H0, c, g1, S', ds'.set i (some .xc), fr2, ?_⟩
        have back : ∀ {g2 : Gh} {H2 : Hp} {S2 : Store} {ds2 : Env} {σ2 : SV}, noXc (ds2.set i none) = true → FR (T.sx a y d) g0 H0 c g2 H2 S2 ds2 σ2 → FR T g0 H0 c g2 H2 S2 (ds2.set i none) (σ2.set i none) := fun {g2 H2 S2 ds2 σ2} hx f => FR.unwi hT f.forget hx
        cases q2 : hf y (ds'.set i (some .xc)) S' with
        | nx ds2 S2 =>
          rw [q2] at p
          unfold unX at p
          dsimp only at p
          split at p
          · rename_i hx
            exact fun g2 H2 σ2 f => p g2 H2 _ (back hx f)
          · exact p.elim
        | bk ds2 S2 =>
          rw [q2] at p
          unfold unX at p
          dsimp only at p
          split at p
          · rename_i hx
            exact fun g2 H2 σ2 f => p g2 H2 _ (back hx f)
          · exact p.elim
        | ct ds2 S2 =>
          rw [q2] at p
          unfold unX at p
          dsimp only at p
          split at p
          · rename_i hx
            exact fun g2 H2 σ2 f => p g2 H2 _ (back hx f)
          · exact p.elim
        | rt w S2 =>
          rw [q2] at p
          exact fun g2 H2 v ex rs rw' => p g2 H2 v ex rs.unwi rw'.unwi
        | ex y2 ds2 S2 =>
          rw [q2] at p
          exact p.elim
        | bad =>
          rw [q2] at p
          exact p.elim
      · exact p.elim
    · rename_i ht
      refine ⟨false, by rw [lv.hK]; exact htst _ _ ht, fun z => (by cases z), fun _ => p g1 H1 σ1 _ d fr1 ⟨rfl, rx2⟩⟩
    · exact p.elim

/-! ### the caught error asked -/
theorem Lv.su {a : Addr} {q : List (Addr × Obj)} {y : Xn} {d : Option Addr} (lv : Lv T Wx X) : Lv (T.sx a y d) W0 (X.suite a q) := ⟨lv.hK, takes0, lv.un⟩
def dOk (d : Option Addr) (H : Hp) : Prop := d = none ∨ ∃ dd fs, d = some dd ∧ H dd = some (.xd fs)
theorem inst_at {a C : Addr} {oe : Obj} {d : Option Addr} {q pins : List (Addr × Obj)} {s : Shared} (hz : Zc (.ref C) d oe) (hf : ∃ vs, oe.data = .fields vs) (I : Inv (X.suite a ((a, oe) :: q)) pins σ H s) (hd : dOk d H) : ∃ od, PySem.W.InstAt s.heap a oe C od := by
  obtain ⟨ha, _⟩ := I.pin (a, oe) (List.mem_append_left _ List.mem_cons_self)
  obtain ⟨vs, hv⟩ := hf
  have nc : PySem.W.notCls oe = true := by
    unfold PySem.W.notCls
    rw [hv]
  rcases hd with rfl | ⟨dd, fs, rfl, hdd⟩
  · exact ⟨none, ha, hz.1, nc, by rw [hz.2]; trivial⟩
  · obtain ⟨mA, hns, _⟩ := (show ObjOk X.prog X.w H s.heap dd (.xd fs) from I.hok dd _ hdd)
    obtain ⟨od, ho, _⟩ := lookIn_ns hns
    exact ⟨some od, ha, hz.1, nc, by rw [hz.2]; exact ho⟩
def rIsX (K : PySem.W.Frag) (D a : Addr) (d : Option Addr) : List V → Hp → VK → Prop := fun xs H Q => dOk d H ∧ ∃ (c : V) (cv : Value) (b : Bool), xs = [.ref a, c] ∧ (∀ u, RelV c u → u = cv) ∧ PySem.W.kitOne K (.ref D) cv = some b ∧ Q (.bl b) H
theorem kit_x {K : PySem.W.Frag} {a D : Addr} {oe : Obj} {od : Option Obj} (C : ExcC K D) : PySem.W.KitX K (.ref a) (.ref D) (fun h => PySem.W.InstAt h a oe D od) := by
  obtain ⟨cd, hc, _⟩ := PySem.W.any_some C.hd
  exact PySem.W.kitx_exc (by rw [hc]; rfl) C.hg C.hk C.hs C.ha C.hn C.ht C.hm
theorem call_isX {a D : Addr} {oe : Obj} {d : Option Addr} {q : List (Addr × Obj)} (C : ExcC X.K D) (hz : Zc (.ref D) d oe) (hf : ∃ vs, oe.data = .fields vs) : CallR (X.suite a ((a, oe) :: q)) (.builtin "isinstance") (rIsX X.K D a d) := by
  intro pins s σ H xs us Q I r ⟨hd, c, cv, b, e, hcv, hk, qq⟩
  subst e
  cases r with
  | cons rx rr =>
    obtain ⟨u, rfl, rt⟩ := Vals.one rr
    cases rx
    cases hcv _ rt
    obtain ⟨od, J⟩ := inst_at hz hf I hd
    exact PySem.W.kia_one (kit_x C) I.kIn J hk (fun z => nomatch z) fun tk => ⟨.bl b, H, I.tok tk, rfl, qq⟩
def rIsXT (K : PySem.W.Frag) (D a : Addr) (d : Option Addr) : List V → Hp → VK → Prop := fun xs H Q => dOk d H ∧ ∃ (tp : Addr) (cs : List V) (us : List Value) (b : Bool), xs = [.ref a, .ref tp] ∧ H tp = some (.tup cs) ∧ Paired ClsV cs us ∧ PySem.W.kitAny K (.ref D) us = some b ∧ Q (.bl b) H
theorem call_isXT {a D : Addr} {oe : Obj} {d : Option Addr} {q : List (Addr × Obj)} (C : ExcC X.K D) (hz : Zc (.ref D) d oe) (hf : ∃ vs, oe.data = .fields vs) : CallR (X.suite a ((a, oe) :: q)) (.builtin "isinstance") (rIsXT X.K D a d) := by
  intro pins s σ H xs us Q I r ⟨hd, tp, cs, ws, b, e, hT, k, hk, qq⟩
  subst e
  cases r with
  | cons rx rr =>
    obtain ⟨u, rfl, rt⟩ := Vals.one rr
    cases rx
    cases rt
    obtain ⟨od, J⟩ := inst_at hz hf I hd
    obtain ⟨_, its, rv, o, h1, h2, n, h3⟩ := (show ObjOk X.prog X.w H s.heap tp (.tup cs) from I.hok tp _ hT)
    cases ClsV.all k rv
    obtain ⟨oc, oo, dt, sl⟩ := o
    dsimp only at h2 h3
    subst h2 h3
    exact PySem.W.kia_tup (kit_x C) I.kIn J h1 hk (fun z => nomatch z) fun tk => ⟨.bl b, H, I.tok tk, rfl, qq⟩
/-- what the tests of a caught error's class tell: by the class's number -/
structure XIs (T : Tx) (tst : Nat → Option Bool) (cv : Value) : Prop where
  at_ : ∀ c b, tst c = some b → ExcC T.K (T.cls c) ∧ PySem.W.kitOne T.K (.ref (T.cls c)) cv = some b
structure XIsT (T : Tx) (tst : Nat → Option Bool) (us : List Value) : Prop where
  at_ : ∀ c b, tst c = some b → ExcC T.K (T.cls c) ∧ PySem.W.kitAny T.K (.ref (T.cls c)) us = some b
def xcAt (i : Nat) (ds : Env) : Bool := match ds[i]? with
  | some (some .xc) => true
  | _ => false
def cXis (i : Nat) (tst : Nat → Option Bool) (y : Xn) : CE := fun ds S => if xcAt i ds then (match tst y.1 with
  | some b => .ok (.fz (.bl b)) S
  | none => .bad) else .bad
theorem xcAt_ok {a : Addr} {l : Addr → HO → Prop} {i : Nat} (fr : FR (T.wi a l) g0 H0 c g H S ds σ) (h : xcAt i ds = true) : σ[i]? = some (some (.ref a)) := by
  unfold xcAt at h
  split at h
  · rename_i q
    exact fr.env.xc i q
  · cases h
theorem ln_dOk {a : Addr} {y : Xn} {d : Option Addr} (hy : y.2 = none → d = none) (hy2 : ∀ f i, y.2 = some (f, i) → ∃ dd, d = some dd) (fr : FR (T.sx a y d) g0 H0 c g H S ds σ) : dOk d H := by
  cases q : y.2 with
  | none => exact .inl (hy q)
  | some p =>
    obtain ⟨f, i⟩ := p
    obtain ⟨dd, e⟩ := hy2 f i q
    exact .inr ⟨dd, _, e, (fr.ln dd _ ⟨f, i, q, e, rfl⟩).1⟩
theorem je_xis {i : Nat} {n x : Str} {pn px pf : Pos} {cv : Value} {cV : V} {tst : Nat → Option Bool} {a : Addr} {oe : Obj} {d : Option Addr} {q : List (Addr × Obj)} {y : Xn} (lv : Lv T Wx X) (hd : XD y d) (hz : Zc (.ref (T.cls y.1)) d oe) (hf : ∃ vs, oe.data = .fields vs) (F : XIs T tst cv)
    (hg : Gl X "isinstance") (hm : X.mg "isinstance" = none) (hN : X.N[i]? = some n) (hv : Vis X.env.scope n) (hc : PE (X.suite a ((a, oe) :: q)) (.Name x px) (tC cV)) (hcV : ∀ u, RelV cV u → u = cv) (hdn : (n == ("__debug__" : Str)) = false := by decide) (hdc : (n == ("__classdict__" : Str)) = false := by decide)
    (he : starEach [.Name n pn, .Name x px] X.env = (false, eval (.Name n pn) X.env) :: starEach [.Name x px] X.env := by rfl) (he2 : starEach [.Name x px] X.env = [(false, eval (.Name x px) X.env)] := by rfl) (hpl : (backTo pos (starEach [.Name x px] X.env)).any (·.1) = false := by rfl) :
    JE (T.sx a y d) W0 (X.suite a ((a, oe) :: q)) (.Call (.Name "isinstance" pf) [.Name n pn, .Name x px] [] pos) (cXis i tst y) := by
  have hK := lv.hK
  cases ht : tst y.1 with
  | none =>
    refine ⟨fun pins s σ H Q I ⟨g0, H0, c, g, S, ds, fr, p⟩ => ?_⟩
    unfold cXis at p
    rw [ht] at p
    split at p <;> exact p.elim
  | some b =>
    obtain ⟨C, hk⟩ := F.at_ y.1 b ht
    have hcall : CallR (X.suite a ((a, oe) :: q)) (.builtin "isinstance") (rIsX T.K (T.cls y.1) a d) := hK ▸ call_isX (hK.symm ▸ C) hz hf
    refine PE.imp (pe_callB hcall hg hm (by decide +kernel) (pa_cons (pe_var hN hv hdn hdc) (pa_cons hc pa_nil he2) he) (by decide) (by decide) he hpl) fun σ H Q ⟨g0, H0, c, g, S, ds, fr, p⟩ => ?_
    unfold cXis at p
    rw [ht] at p
    split at p
    · rename_i hx
      exact ⟨.ref a, xcAt_ok fr hx, ln_dOk hd.1 hd.2 fr, cV, cv, b, rfl, hcV, hk, PostG.now (r := RW (T.sx a y d) H) p fr.st (.bl b)⟩
    · exact p.elim
/-- names of classes, for a tuple of them -/
structure PCls (X : Cx) (es : List Expr) (us : List Value) : Prop where
  ex : ∃ (cs : List V), Paired ClsV cs us ∧ PA X es (fun _ H Q => Q cs H)
theorem pcls_nil : PCls X [] [] := ⟨[], .nil, PA.imp pa_nil fun _ _ _ q => q⟩
theorem pcls_cons {es : List Expr} {us : List Value} {cV : V} {cv : Value} (h : PE X e (tC cV)) (hc : ClsV cV cv) (r : PCls X es us) (hs : starEach (e :: es) X.env = (false, eval e X.env) :: starEach es X.env := by rfl) : PCls X (e :: es) (cv :: us) := by
  obtain ⟨cs, h1, h2⟩ := r.ex
  exact ⟨cV :: cs, .cons hc h1, PA.imp (pa_cons h h2 hs) fun _ _ _ q => q⟩
theorem je_xisT {i : Nat} {n : Str} {pn px pf : Pos} {es : List Expr} {kt : Nat} {us : List Value} {tst : Nat → Option Bool} {a : Addr} {oe : Obj} {d : Option Addr} {q : List (Addr × Obj)} {y : Xn} (lv : Lv T Wx X) (hd : XD y d) (hz : Zc (.ref (T.cls y.1)) d oe) (hf : ∃ vs, oe.data = .fields vs) (F : XIsT T tst us)
    (hg : Gl X "isinstance") (hm : X.mg "isinstance" = none) (hN : X.N[i]? = some n) (hv : Vis X.env.scope n) (hc : PCls (X.suite a ((a, oe) :: q)) es us) (hl : szOk us.length = true := by decide) (hdn : (n == ("__debug__" : Str)) = false := by decide) (hdc : (n == ("__classdict__" : Str)) = false := by decide)
    (he : starEach [.Name n pn, .Tuple es kt px] X.env = (false, eval (.Name n pn) X.env) :: starEach [.Tuple es kt px] X.env := by rfl) (he2 : starEach [.Tuple es kt px] X.env = [(false, eval (.Tuple es kt px) X.env)] := by rfl) (hpl : (backTo pos (starEach [.Tuple es kt px] X.env)).any (·.1) = false := by rfl) :
    JE (T.sx a y d) W0 (X.suite a ((a, oe) :: q)) (.Call (.Name "isinstance" pf) [.Name n pn, .Tuple es kt px] [] pos) (cXis i tst y) := by
  have hK := lv.hK
  cases ht : tst y.1 with
  | none =>
    refine ⟨fun pins s σ H Q I ⟨g0, H0, c, g, S, ds, fr, p⟩ => ?_⟩
    unfold cXis at p
    rw [ht] at p
    split at p <;> exact p.elim
  | some b =>
    obtain ⟨C, hk⟩ := F.at_ y.1 b ht
    obtain ⟨cs, hcs, hpa⟩ := hc.ex
    have hcall : CallR (X.suite a ((a, oe) :: q)) (.builtin "isinstance") (rIsXT T.K (T.cls y.1) a d) := hK ▸ call_isXT (hK.symm ▸ C) hz hf
    refine PE.imp (pe_callB hcall hg hm (by decide +kernel) (pa_cons (pe_var hN hv hdn hdc) (pa_cons (pe_tup hpa) pa_nil he2) he) (by decide) (by decide) he hpl) fun σ H Q ⟨g0, H0, c, g, S, ds, fr, p⟩ => ?_
    unfold cXis at p
    rw [ht] at p
    split at p
    · rename_i hx
      refine ⟨.ref a, xcAt_ok fr hx, ?_, fun t htp => ?_⟩
      · rw [Paired.length hcs]
        exact szOk_of hl
      · obtain ⟨g2, e2, rs2, fx, nl⟩ := alloc_fz fr.st htp (.tup cs)
        have fr2 := fr.on e2 rs2
        exact ⟨ln_dOk hd.1 hd.2 fr2, t, cs, us, b, rfl, upd_same, hcs, hk, p g2 _ _ e2 rs2 (Rep.bl b)⟩
    · exact p.elim
/-- e.f, the caught error's field -/
def cXf (i : Nat) (f : Str) (cs : List Nat) (y : Xn) : CE := fun ds S => if xcAt i ds && cs.contains y.1 then (match y.2 with
  | some (h, k) => if h = f then .ok (.fz (.int k)) S else .bad
  | none => .bad) else .bad
structure XFld (T : Tx) (f : Str) (c : Nat) : Prop where
  xf : XfC T.K (T.cls c)
  no : PySem.W.findIn T.K (.ref (T.cls c)) f = some none
theorem je_xf {i : Nat} {cs : List Nat} {n f : Str} {pn : Pos} {a : Addr} {oe : Obj} {d : Option Addr} {q : List (Addr × Obj)} {y : Xn} (lv : Lv T Wx X) (hd : XD y d) (hz : Zc (.ref (T.cls y.1)) d oe) (hf : ∃ vs, oe.data = .fields vs) (F : ∀ c ∈ cs, XFld T f c)
    (hN : X.N[i]? = some n) (hv : Vis X.env.scope n) (hdn : (n == ("__debug__" : Str)) = false := by decide) (hdc : (n == ("__classdict__" : Str)) = false := by decide)
    (hb : attributeBase (.Name n pn) f X.env (eval (.Name n pn) X.env) = eval (.Name n pn) X.env := by rfl) : JE (T.sx a y d) W0 (X.suite a ((a, oe) :: q)) (.Attribute (.Name n pn) f pos) (cXf i f cs y) := by
  have hK := lv.hK
  cases ht : y.2 with
  | none =>
    refine ⟨fun pins s σ H Q I ⟨g0, H0, c, g, S, ds, fr, p⟩ => ?_⟩
    unfold cXf at p
    rw [ht] at p
    split at p <;> exact p.elim
  | some hp =>
    obtain ⟨h, k⟩ := hp
    by_cases hcs : cs.contains y.1 = true
    case neg =>
      refine ⟨fun pins s σ H Q I ⟨g0, H0, c, g, S, ds, fr, p⟩ => ?_⟩
      unfold cXf at p
      rw [show cs.contains y.1 = false from Bool.eq_false_iff.mpr hcs, Bool.and_false, if_neg Bool.false_ne_true] at p
      exact p.elim
    obtain ⟨xf, no⟩ := F y.1 (by simpa using hcs)
    refine PE.imp (pe_xf (hK.symm ▸ xf) (hK.symm ▸ no) hz hf (pe_var (X := X.suite a ((a, oe) :: q)) hN hv hdn hdc) hb) fun σ H Q ⟨g0, H0, c, g, S, ds, fr, p⟩ => ?_
    unfold cXf at p
    rw [ht] at p
    split at p
    · rename_i hx
      have hx := (Bool.and_eq_true_iff.mp hx).1
      dsimp only at p
      split at p
      · rename_i e
        subst e
        obtain ⟨dd, ed⟩ := hd.2 h k ht
        refine ⟨.ref a, xcAt_ok fr hx, rfl, rfl, dd, [(h, .int k)], .int k, ed, (fr.ln dd _ ⟨h, k, ht, ed, rfl⟩).1, by simp, PostG.now (r := RW (T.sx a y d) H) p fr.st (.int k)⟩
      · exact p.elim
    · exact p.elim
end
end Mir
set_option Elab.async false
set_option linter.all false
set_option maxRecDepth 100000
/-! Mir13: classes by their names; the facts of errors. -/
namespace Mir
open PySem PySem.Spec PyProof.Rows L2
/-- the classes' addresses, by their names' place -/
def clsOf (K : PySem.W.Frag) (ns : List Str) (n : Nat) : Addr := match ns[n]? with
  | some x => (match PySem.W.nsIn K mainGlobals x with
    | some (some (.ref C)) => C
    | _ => 0)
  | none => 0
def txOf (K : PySem.W.Frag) (ns : List Str) : Tx := {K := K, cls := clsOf K ns}
theorem clsOf_is {K : PySem.W.Frag} {ns : List Str} {n : Nat} {x : Str} {C : Addr} (hn : ns[n]? = some x) (h : PySem.W.nsIn K mainGlobals x = some (some (.ref C))) : clsOf K ns n = C := by
  unfold clsOf
  rw [hn]
  dsimp only
  rw [h]
theorem txOf_lean {K : PySem.W.Frag} {ns : List Str} : ∀ a o, ¬ (txOf K ns).lean a o := fun _ _ h => h
/-- an own class of errors that is raised by a message alone -/
structure ExcA (K : PySem.W.Frag) (C : Addr) : Prop where
  ex : PySem.W.excIn K C [.type "ValueError", .type "Exception", .type "BaseException", .type "object"] "ValueError.__new__" = true
  kp : PySem.W.keepIn K (.ref C) = true
  sb : PySem.W.subIn K (.ref C) (.type "BaseException") = some true
  tp : PySem.W.typeIn K (.ref C) = some (.type "type")
theorem exc_mk {K : PySem.W.Frag} {h : Heap} {mg : Str → Option Value} (X : K.In h) (G : h.Ns mainGlobals mg) {ns : List Str} {x : Str} {C : Addr} (k : Nat) (N : PySem.W.nsIn K mainGlobals x = some (some (.ref C))) (A : ExcA K C) (hn : ns[k]? = some x) : ExcF (txOf K ns).K mg x ((txOf K ns).cls k) := by
  have e : (txOf K ns).cls k = C := clsOf_is hn N
  rw [e]
  exact ⟨PySem.W.mg_of X G N, A.ex, A.kp, A.sb, A.tp⟩
section
variable {T : Tx} {mg : Str → Option Value} {P : Program} {w : World} {base : Heap} {k : Nat} {Wx : WX} {X : Cx}
theorem Bd.exF (B : Bd T mg P w base k Wx X) {x : Str} {C : Addr} (h : ExcF T.K mg x C) : ExcF T.K X.mg x C := B.mg ▸ h
end
end Mir
set_option Elab.async false
set_option linter.all false
set_option maxRecDepth 100000
/-! MirD: part_of and dealt, in every law that has them; sums. -/
namespace Mir
open PySem L2
@[simp] theorem s_raise {c : Nat} {ds : Env} {S : Store} : cRaise c ds S = .ex (c, none) ds S := rfl
end Mir
namespace MirD
open PySem L2 Mir
variable {S : Store}
def m_part_of : CS :=
    (cRet (cBin opDiv (cBin opMul (cBor 0) (cBor 1)) (cBor 2)))
def f_part_of : Fn := runF 3 m_part_of
def m_dealt_l1 : CS :=
    (cSeq (cAug 4 (int2 (fun _ _ => true) fun i j => .int (i + j)) (cBor 6))
      (cSeq (cSet 7 (cCall f_part_of (cCons (cVar 0) (cCons (cVar 4) (cCons (cVar 2) cNil)))))
      (cSeq (cMut 3 "list" mAppend (cCons (cFz (cBin opSub (cBor 7) (cBor 5))) cNil))
      (cSet 5 (cUp (cVar 7))))))
def m_dealt : CS :=
    (cSeq (cSet 2 (cBlt bSum (bCons (cBor 1) bNil)))
    (cSeq (cIfS (cOr (cBin opLe (cBor 2) (cUp (cC (.int 0)))) (cBin opLt (cBlt (bIntL minL) (bCons (cBor 1) bNil)) (cUp (cC (.int 0)))))
      (cRaise 1)
      cSkip)
    (cSeq (cSet 3 (cLst cNil))
    (cSeq (cSet 4 (cUp (cC (.int 0))))
    (cSeq (cSet 5 (cUp (cC (.int 0))))
    (cSeq (cFor (cItems (cVar 1)) (.nm 6) m_dealt_l1)
    (cRetV 3)))))))
def f_dealt : Fn := runF 8 m_dealt
theorem part_of_eq {a p w : Int} (h1 : mulOk a p = true) (h2 : divOk (a * p) w = true) : f_part_of [.int a, .int p, .int w] S = .ok (.fz (.int (a * p / w))) S := by
  simp [f_part_of, s_runF, m_part_of, startE, h1, h2]
/-! sums -/
theorem sum_nn : ∀ {ws : List Int}, (∀ w ∈ ws, 0 ≤ w) → 0 ≤ ws.sum
  | [], _ => by simp
  | w :: r, h => by
    have h1 := h w List.mem_cons_self
    have h2 := sum_nn (ws := r) fun x hx => h x (List.mem_cons_of_mem _ hx)
    rw [List.sum_cons]
    omega
theorem sum_take_le {ws : List Int} (h : ∀ w ∈ ws, 0 ≤ w) (k : Nat) : (ws.take k).sum ≤ ws.sum := by
  have e := congrArg List.sum (List.take_append_drop k ws)
  rw [List.sum_append] at e
  have := sum_nn (ws := ws.drop k) fun x hx => h x (List.mem_of_mem_drop hx)
  omega
theorem sum_le : ∀ {ws : List Int} {b : Int}, (∀ w ∈ ws, w ≤ b) → ws.sum ≤ ws.length * b
  | [], b, _ => by simp
  | w :: r, b, h => by
    have h1 := h w List.mem_cons_self
    have h2 := sum_le (ws := r) (b := b) fun x hx => h x (List.mem_cons_of_mem _ hx)
    rw [List.sum_cons, List.length_cons, Int.natCast_add, Int.natCast_one, Int.add_mul, Int.one_mul]
    omega
theorem take_succ_sum {ws : List Int} {k : Nat} (h : k < ws.length) : (ws.take (k + 1)).sum = (ws.take k).sum + ws[k] := by
  rw [List.take_succ_eq_append_getElem h, List.sum_append]
  simp
theorem minL_nn {ws : List Int} (hn : ws ≠ []) (h : ∀ w ∈ ws, 0 ≤ w) : ¬ minL ws < 0 := by
  have := h _ (minL_mem ws hn).1
  omega
/-! dealt -/
def dealtL (a t : Int) : Int → Int → List Int → List Int
  | _, _, [] => []
  | ah, dn, w :: r => (a * (ah + w) / t - dn) :: dealtL a t (ah + w) (a * (ah + w) / t) r
def dealt (a : Int) (ws : List Int) : List Int := dealtL a ws.sum 0 0 ws
theorem dealtL_len (a t : Int) : ∀ (ws : List Int) (ah dn : Int), (dealtL a t ah dn ws).length = ws.length
  | [], _, _ => rfl
  | w :: r, ah, dn => by rw [dealtL, List.length_cons, List.length_cons, dealtL_len a t r]
theorem dealt_len (a : Int) (ws : List Int) : (dealt a ws).length = ws.length := dealtL_len _ _ _ _ _
/-- the first so many shares together -/
theorem dealtL_sum (a t : Int) : ∀ (ws : List Int) (ah dn : Int) (k : Nat), 0 < k → k ≤ ws.length → dn + ((dealtL a t ah dn ws).take k).sum = a * (ah + (ws.take k).sum) / t
  | [], ah, dn, k, h0, h => by simp at h; omega
  | w :: r, ah, dn, k + 1, _, h => by
    rw [dealtL, List.take_succ_cons, List.sum_cons, List.take_succ_cons, List.sum_cons]
    by_cases e : k = 0
    · subst e
      simp only [List.take_zero, List.sum_nil, Int.add_zero]
      omega
    · have ih := dealtL_sum a t r (ah + w) (a * (ah + w) / t) k (by omega) (by simpa using h)
      rw [Int.add_assoc] at ih
      omega
theorem dealt_take (a : Int) (ws : List Int) (k : Nat) (hk : k ≤ ws.length) : ((dealt a ws).take k).sum = a * (ws.take k).sum / ws.sum := by
  by_cases e : k = 0
  · subst e
    simp
  · have := dealtL_sum a ws.sum ws 0 0 k (by omega) hk
    rw [Int.zero_add, Int.zero_add] at this
    exact this
theorem dealt_sum (a : Int) (ws : List Int) (h : 0 < ws.sum) : (dealt a ws).sum = a := by
  have := dealt_take a ws ws.length (Nat.le_refl _)
  rw [← dealt_len a ws, List.take_length, dealt_len, List.take_length, Int.mul_ediv_cancel _ (by omega)] at this
  exact this
theorem dealt_at (a : Int) (ws : List Int) (k : Nat) (hk : k < ws.length) : (dealt a ws)[k]'(by rw [dealt_len]; exact hk) = a * (ws.take (k + 1)).sum / ws.sum - a * (ws.take k).sum / ws.sum := by
  have h1 := dealt_take a ws (k + 1) (by omega)
  have h2 := dealt_take a ws k (by omega)
  rw [take_succ_sum (by rw [dealt_len]; exact hk), h2] at h1
  omega
theorem dealt_turn {a t ah dn w : Int} {W : D} {acc : List D} {z7 : Option Wv} (m : mulOk a (ah + w) = true) (d : divOk (a * (ah + w)) t = true) (hl : acc.length < 1000000) :
    m_dealt_l1 [some (.fz (.int a)), some (.fz W), some (.fz (.int t)), some (.ow (.lst acc)), some (.fz (.int ah)), some (.fz (.int dn)), some (.fz (.int w)), z7] S =
      .nx [some (.fz (.int a)), some (.fz W), some (.fz (.int t)), some (.ow (.lst (acc ++ [.int (a * (ah + w) / t - dn)]))), some (.fz (.int (ah + w))), some (.fz (.int (a * (ah + w) / t))), some (.fz (.int w)), some (.fz (.int (a * (ah + w) / t)))] S := by
  have e := part_of_eq (S := S) m d
  have s : szOk (acc.length + 1) = true := szOk_le (by omega)
  simp [m_dealt_l1, e, s]
theorem dealt_run {a t : Int} {W : D} {b : Nat} (hb : 0 < b) (hb2 : b ≤ 9000) (ha : a.natAbs < 2 ^ b) (h0 : 0 < t) (ht : t < 2 ^ b) : ∀ (ws : List Int) (acc : List D) (ah dn : Int) (z6 z7 : Option Wv), acc.length + ws.length ≤ 1000000 → 0 ≤ ah → (∀ w ∈ ws, 0 ≤ w) → ah + ws.sum ≤ t → ∃ ah' dn' z6' z7',
    forRun (.nm 6) m_dealt_l1 (ws.map D.int) [some (.fz (.int a)), some (.fz W), some (.fz (.int t)), some (.ow (.lst acc)), some (.fz (.int ah)), some (.fz (.int dn)), z6, z7] S =
      .nx [some (.fz (.int a)), some (.fz W), some (.fz (.int t)), some (.ow (.lst (acc ++ (dealtL a t ah dn ws).map D.int))), some (.fz (.int ah')), some (.fz (.int dn')), z6', z7'] S
  | [], acc, ah, dn, z6, z7, _, _, _, _ => ⟨ah, dn, z6, z7, by simp [dealtL, forRun]⟩
  | w :: r, acc, ah, dn, z6, z7, hl, h1, hw, hs => by
    have w0 := hw w List.mem_cons_self
    have r0 := sum_nn (ws := r) fun x hx => hw x (List.mem_cons_of_mem _ hx)
    rw [List.sum_cons] at hs
    rw [List.length_cons] at hl
    have k1 : (ah + w).natAbs < 2 ^ b := by
      have : (((2 : Nat) ^ b : Nat) : Int) = (2 : Int) ^ b := by simp
      omega
    have k2 : t.natAbs < 2 ^ b := by
      have : (((2 : Nat) ^ b : Nat) : Int) = (2 : Int) ^ b := by simp
      omega
    obtain ⟨a1, a2, a3, a4, ih⟩ := dealt_run hb hb2 ha h0 ht (W := W) r (acc ++ [.int (a * (ah + w) / t - dn)]) (ah + w) (a * (ah + w) / t) (some (.fz (.int w))) (some (.fz (.int (a * (ah + w) / t)))) (by simp; omega) (by omega) (fun x hx => hw x (List.mem_cons_of_mem _ hx)) (by omega)
    refine ⟨a1, a2, a3, a4, ?_⟩
    rw [List.map_cons, forRun_cons (ds1 := [some (.fz (.int a)), some (.fz W), some (.fz (.int t)), some (.ow (.lst acc)), some (.fz (.int ah)), some (.fz (.int dn)), some (.fz (.int w)), z7]) rfl (dealt_turn (mulOk_b b b ha k1 hb hb (by omega)) (divOk_b b h0 k2 hb (by omega)) (by omega)), ih]
    simp [dealtL]
/-- dealt gives the shares -/
theorem dealt_eq {a : Int} {ws : List Int} (b : Nat) (hb : 0 < b) (hb2 : b ≤ 9000) (ha : a.natAbs < 2 ^ b) (hw : ∀ w ∈ ws, 0 ≤ w) (h0 : 0 < ws.sum) (ht : ws.sum < 2 ^ b) (hl : ws.length ≤ 1000000) : f_dealt [.int a, .lst (ws.map D.int)] S = .ok (.ow (.lst ((dealt a ws).map D.int))) S := by
  have hn : ws ≠ [] := fun e => by
    subst e
    simp at h0
  have hm := minL_nn hn hw
  have hn2 : ¬ ws.isEmpty = true := by simpa using hn
  have h0' : ¬ ws.sum ≤ 0 := by omega
  obtain ⟨a1, a2, a3, a4, lp⟩ := dealt_run (S := S) (W := .lst (ws.map D.int)) hb hb2 ha h0 ht ws [] 0 0 none none (by simpa using hl) (by decide) hw (by omega)
  rw [List.nil_append] at lp
  simp [f_dealt, s_runF, m_dealt, startE, hn, h0', hm, szOk, lp]
  rfl
/-- no weights: refused -/
theorem dealt_no {a : Int} {ws : List Int} (h : ws.sum ≤ 0 ∨ ∃ w ∈ ws, w < 0) : f_dealt [.int a, .lst (ws.map D.int)] S = .ex (1, none) S := by
  by_cases h0 : ws.sum ≤ 0
  · simp [f_dealt, s_runF, m_dealt, startE, h0]
  · obtain ⟨w, hw, hw0⟩ := h.resolve_left h0
    have hn : ws ≠ [] := fun e => by
      subst e
      cases hw
    have hm : minL ws < 0 := Int.lt_of_le_of_lt ((minL_mem ws hn).2 w hw) hw0
    simp [f_dealt, s_runF, m_dealt, startE, h0, hn, hm]
end MirD
set_option Elab.async false
set_option linter.all false
set_option maxRecDepth 100000
/-! Mir14: what a suite's tests need; classes by name. -/
namespace Mir
open PySem PySem.Spec PyProof.Rows L2
def tab (l : List (Nat × Bool)) : Nat → Option Bool := fun c => l.lookup c
def AllP (P : Nat → Bool → Prop) : List (Nat × Bool) → Prop
  | [] => True
  | (c, b) :: r => P c b ∧ AllP P r
theorem tab_all {P : Nat → Bool → Prop} : ∀ {l : List (Nat × Bool)}, AllP P l → ∀ c b, tab l c = some b → P c b
  | [], _, _, _, h => nomatch h
  | (c0, b0) :: r, ⟨h1, h2⟩, c, b, h => by
    unfold tab List.lookup at h
    split at h
    · rename_i q
      cases h
      rw [eq_of_beq q]
      exact h1
    · exact tab_all h2 c b h
theorem ka_nil {K : PySem.W.Frag} {t : Value} : PySem.W.kitAny K t [] = some false := rfl
theorem ka_t {K : PySem.W.Frag} {t c : Value} {cs : List Value} (h : PySem.W.kitOne K t c = some true) : PySem.W.kitAny K t (c :: cs) = some true := kitAny_cons h (fun z => nomatch z) fun _ => rfl
theorem ka_f {K : PySem.W.Frag} {t c : Value} {cs : List Value} {b : Bool} (h : PySem.W.kitOne K t c = some false) (r : PySem.W.kitAny K t cs = some b) : PySem.W.kitAny K t (c :: cs) = some b := kitAny_cons h (fun _ => r) fun z => nomatch z
section
variable {T : Tx} {mg : Str → Option Value} {P : Program} {w : World} {base : Heap} {k : Nat} {Wx : WX} {X : Cx}
/-- in a suite -/
structure Sd (T : Tx) (mg : Str → Option Value) (Wx : WX) (X : Cx) : Prop extends Lv T Wx X where
  mg : X.mg = mg
theorem Bd.su {a : Addr} {q : List (Addr × Obj)} {y : Xn} {d : Option Addr} (B : Bd T mg P w base k Wx X) : Sd (T.sx a y d) mg W0 (X.suite a q) := ⟨B.toLv.su, B.mg⟩
theorem Sd.no (B : Sd T mg Wx X) {x : Str} (z : mg x = none) : X.mg x = none := B.mg ▸ z
theorem Sd.yes (B : Sd T mg Wx X) {x : Str} {u : Value} (z : mg x = some u) : X.mg x = some u := B.mg ▸ z
theorem Bd.nm (B : Bd T mg P w base k Wx X) {x : Str} {c : Value} (hg : Gl X x) (z : mg x = some c) (hd : (x == ("__debug__" : Str)) = false := by decide) : Names X x c := ⟨hg, hd, .inl (B.yes z)⟩
/-- a class of the text, by name -/
theorem pe_cl {x : Str} {C : Addr} {pos : Pos} (hg : Gl X x) (hm : X.mg x = some (.ref C)) (hd : (x == ("__debug__" : Str)) = false := by decide) : PE X (.Name x pos) (tC (.ref C)) := pe_glob hg hm rfl hd
theorem pe_ty {x : Str} {t : String} {pos : Pos} (hg : Gl X x) (hm : X.mg x = none) (hv : bootBuiltins x = some (.type t)) (hn : x ≠ "__name__" := by decide) (hd : (x == ("__debug__" : Str)) = false := by decide) : PE X (.Name x pos) (tC (.ty t)) := pe_bltn hg hm hv rfl hn hd
end
theorem cn_mg {K : PySem.W.Frag} {h : Heap} {mg : Str → Option Value} (X : K.In h) (G : h.Ns mainGlobals mg) {ns : List Str} {x : Str} {C : Addr} (k : Nat) (N : PySem.W.nsIn K mainGlobals x = some (some (.ref C))) (hn : ns[k]? = some x) : mg x = some (.ref ((txOf K ns).cls k)) := by
  rw [show (txOf K ns).cls k = C from clsOf_is hn N]
  exact PySem.W.mg_of X G N
theorem cn_at {K : PySem.W.Frag} {ns : List Str} {x : Str} {C : Addr} (k : Nat) (N : PySem.W.nsIn K mainGlobals x = some (some (.ref C))) (hn : ns[k]? = some x) {p : Addr → Prop} (h : p C) : p ((txOf K ns).cls k) := by
  rw [show (txOf K ns).cls k = C from clsOf_is hn N]
  exact h
theorem cn_at2 {K : PySem.W.Frag} {ns : List Str} {x x' : Str} {C C' : Addr} (k k' : Nat) (N : PySem.W.nsIn K mainGlobals x = some (some (.ref C))) (hn : ns[k]? = some x) (N' : PySem.W.nsIn K mainGlobals x' = some (some (.ref C'))) (hn' : ns[k']? = some x') {p : Addr → Addr → Prop} (h : p C C') : p ((txOf K ns).cls k) ((txOf K ns).cls k') := by
  rw [show (txOf K ns).cls k = C from clsOf_is hn N, show (txOf K ns).cls k' = C' from clsOf_is hn' N']
  exact h
end Mir
set_option Elab.async false
set_option linter.all false
set_option maxRecDepth 100000
/-! MirE: == of data. -/
namespace Mir
open PySem L2
mutual
def okN (n : Nat) : D → Bool
  | .non => true
  | .bl _ => true
  | .int _ => true
  | .str x => PyData.strOk x
  | .tup xs => decide (0 < n) && okNs (n - 1) xs
  | .lst xs => decide (0 < n) && okNs (n - 1) xs
  | .scr _ => decide (0 < n)
  | .dct _ => false
  | .ins _ _ => false
  | .ref _ => false
def okNs (n : Nat) : List D → Bool
  | [] => true
  | d :: r => okN n d && okNs n r
end
mutual
theorem okN_pd : ∀ {n : Nat} {d : D}, okN n d = true → isPd d = true ∧ (toPd d).canLay0 = true ∧ (toPd d).depth ≤ n
  | _, .non, _ => ⟨rfl, rfl, Nat.zero_le _⟩
  | _, .bl _, _ => ⟨rfl, rfl, Nat.zero_le _⟩
  | _, .int _, _ => ⟨rfl, rfl, Nat.zero_le _⟩
  | _, .str _, h => ⟨rfl, h, Nat.zero_le _⟩
  | n, .tup xs, h => by
    rw [okN, Bool.and_eq_true] at h
    obtain ⟨a, b, c⟩ := okNs_pd h.2
    have := of_decide_eq_true h.1
    rw [isPd, toPd, PyData.canLay0, PyData.depth]
    exact ⟨a, b, by omega⟩
  | n, .lst xs, h => by
    rw [okN, Bool.and_eq_true] at h
    obtain ⟨a, b, c⟩ := okNs_pd h.2
    have := of_decide_eq_true h.1
    rw [isPd, toPd, PyData.canLay0, PyData.depth]
    exact ⟨a, b, by omega⟩
  | n, .scr ns, h => by
    have := of_decide_eq_true h
    rw [toPd, PyData.canLay0, PyData.depth]
    exact ⟨rfl, PySem.W.ke_canLayAll0 ns, by rw [PySem.W.ke_depthAll]; omega⟩
  | _, .dct _, h => nomatch h
  | _, .ins _ _, h => nomatch h
  | _, .ref _, h => nomatch h
theorem okNs_pd : ∀ {n : Nat} {ds : List D}, okNs n ds = true → isPds ds = true ∧ PyData.canLayAll0 (toPds ds) = true ∧ PyData.depthAll (toPds ds) ≤ n
  | _, [], _ => ⟨rfl, rfl, Nat.zero_le _⟩
  | n, d :: r, h => by
    rw [okNs, Bool.and_eq_true] at h
    obtain ⟨a, b, c⟩ := okN_pd h.1
    obtain ⟨a', b', c'⟩ := okNs_pd h.2
    rw [isPds, toPds, PyData.canLayAll0, PyData.depthAll, a, a', b, b']
    exact ⟨rfl, rfl, by omega⟩
end
theorem okN_sh {n : Nat} {d : D} (h : okN n d = true) (hn : n ≤ 60) : isPd d = true ∧ SeqAt.shaped (toPd d) = true := by
  obtain ⟨a, b, c⟩ := okN_pd h
  refine ⟨a, ?_⟩
  unfold SeqAt.shaped
  rw [b, decide_eq_true (show (toPd d).depth ≤ 64 by omega)]
  rfl
def datW : Wv → Option D
  | .fz d => some d
  | .ow (.lst xs) => some (.lst xs)
  | _ => none
def eqvD (a b : D) : Bool := PyData.eqv (toPd a) (toPd b)
def eqvDs (a b : List D) : Bool := PyData.eqvAll (toPds a) (toPds b)
theorem toPds_ints : ∀ ns : List Int, toPds (ns.map D.int) = ns.map PyData.int
  | [] => rfl
  | n :: r => by
    rw [List.map_cons, toPds, toPds_ints r]
    rfl
theorem isPds_ints : ∀ ns : List Int, isPds (ns.map D.int) = true
  | [] => rfl
  | n :: r => by
    rw [List.map_cons, isPds, isPds_ints r]
    rfl
theorem viewD_dat {S : Store} {w : Wv} {d : D} (h : datW w = some d) (hd : okN 60 d = true) : viewD S w = some (toPd d) := by
  obtain ⟨a, b⟩ := okN_sh hd (Nat.le_refl _)
  have L : ∀ xs, isPds xs = true → SeqAt.shaped (.list (toPds xs)) = true → (if isPds xs && SeqAt.shaped (.list (toPds xs)) then some (PyData.list (toPds xs)) else none) = some (PyData.list (toPds xs)) := fun xs h1 h2 => by
    rw [h1, h2]
    rfl
  have F : ∀ d, isPd d = true → SeqAt.shaped (toPd d) = true → (if isPd d && SeqAt.shaped (toPd d) then some (toPd d) else none) = some (toPd d) := fun d h1 h2 => by
    rw [h1, h2]
    rfl
  cases w with
  | xc => cases h
  | ow so =>
    cases so with
    | lst xs =>
      cases h
      exact L xs a b
    | dct _ => cases h
    | ins _ _ => cases h
  | fz d' =>
    cases h
    cases d with
    | lst xs => exact L xs a b
    | scr ns =>
      have := L (ns.map D.int) (isPds_ints ns) (by rw [toPds_ints]; exact b)
      rw [toPd, ← toPds_ints]
      exact this
    | ref n => cases hd
    | non => exact F _ a b
    | bl _ => exact F _ a b
    | int _ => exact F _ a b
    | str _ => exact F _ a b
    | tup _ => exact F _ a b
    | dct _ => cases hd
    | ins _ _ => cases hd
theorem s_eqW {S : Store} {w1 w2 : Wv} {d1 d2 : D} (h1 : datW w1 = some d1) (h2 : datW w2 = some d2) (o1 : okN 60 d1 = true) (o2 : okN 60 d2 = true) : opEq w1 w2 S = .ok (eqvD d1 d2) S := by
  have e1 := viewD_dat (S := S) h1 o1
  have e2 := viewD_dat (S := S) h2 o2
  unfold opEq
  split
  · cases h1
    cases h2
    refine congrArg (R.ok · S) ?_
    unfold eqvD toPd PyData.eqv
    rename_i i j
    by_cases q : i = j <;> simp [q]
  · cases h1
    cases h2
    refine congrArg (R.ok · S) ?_
    unfold eqvD toPd PyData.eqv
    rename_i i j
    by_cases q : i = j <;> simp [q]
  · rw [e1, e2]
    rfl
section
variable {S : Store} {xs ys : List D} {d1 d2 : D}
theorem s_eqF (o1 : okN 60 d1 = true) (o2 : okN 60 d2 = true) : opEq (.fz d1) (.fz d2) S = .ok (eqvD d1 d2) S := s_eqW rfl rfl o1 o2
theorem s_eqOF (o1 : okN 60 (.lst xs) = true) (o2 : okN 60 d2 = true) : opEq (.ow (.lst xs)) (.fz d2) S = .ok (eqvD (.lst xs) d2) S := s_eqW rfl rfl o1 o2
theorem s_eqFO (o1 : okN 60 d1 = true) (o2 : okN 60 (.lst ys) = true) : opEq (.fz d1) (.ow (.lst ys)) S = .ok (eqvD d1 (.lst ys)) S := s_eqW rfl rfl o1 o2
theorem s_eqOO (o1 : okN 60 (.lst xs) = true) (o2 : okN 60 (.lst ys) = true) : opEq (.ow (.lst xs)) (.ow (.lst ys)) S = .ok (eqvD (.lst xs) (.lst ys)) S := s_eqW rfl rfl o1 o2
end
theorem eqvs_ints : ∀ ns ms : List Int, eqvDs (ns.map D.int) (ms.map D.int) = decide (ns = ms)
  | [], [] => rfl
  | [], _ :: _ => by simp [eqvDs, toPds, PyData.eqvAll]
  | _ :: _, [] => by simp [eqvDs, toPds, PyData.eqvAll]
  | a :: r, b :: t => by
    have ih := eqvs_ints r t
    unfold eqvDs at ih ⊢
    rw [List.map_cons, List.map_cons, toPds, toPds, PyData.eqvAll, ih, toPd, toPd, PyData.eqv]
    by_cases h : a = b <;> by_cases h' : r = t <;> simp [h, h']
mutual
theorem eqv_self : ∀ {d : D}, isPd d = true → eqvD d d = true
  | .non, _ => rfl
  | .bl b, _ => by cases b <;> rfl
  | .int i, _ => by unfold eqvD toPd PyData.eqv; exact beq_self_eq_true i
  | .str x, _ => by unfold eqvD toPd PyData.eqv; exact beq_self_eq_true x
  | .tup xs, h => by
    rw [isPd] at h
    have := eqvs_self h
    unfold eqvD
    rw [toPd, PyData.eqv]
    exact this
  | .lst xs, h => by
    rw [isPd] at h
    have := eqvs_self h
    unfold eqvD
    rw [toPd, PyData.eqv]
    exact this
  | .scr ns, _ => by
    have := eqvs_ints ns ns
    unfold eqvDs at this
    rw [toPds_ints, decide_eq_true rfl] at this
    unfold eqvD
    rw [toPd, PyData.eqv]
    exact this
  | .dct _, h => nomatch h
  | .ins _ _, h => nomatch h
  | .ref _, h => nomatch h
theorem eqvs_self : ∀ {ds : List D}, isPds ds = true → eqvDs ds ds = true
  | [], _ => rfl
  | d :: r, h => by
    rw [isPds, Bool.and_eq_true] at h
    have h1 := eqv_self h.1
    have h2 := eqvs_self h.2
    unfold eqvD at h1
    unfold eqvDs at h2 ⊢
    rw [toPds, PyData.eqvAll, h1, h2]
    rfl
end
theorem eqv_same {n : Nat} {d : D} (h : okN n d = true) : eqvD d d = true := eqv_self (okN_pd h).1
theorem eqv_ints (ns ms : List Int) : eqvD (.lst (ns.map D.int)) (.lst (ms.map D.int)) = decide (ns = ms) := by
  rw [← eqvs_ints]
  unfold eqvD eqvDs
  rw [toPd, toPd, PyData.eqv]
theorem okNs_map {α : Type} {n : Nat} {f : α → D} {xs : List α} (h : ∀ x ∈ xs, okN n (f x) = true) : okNs n (xs.map f) = true := by
  induction xs with
  | nil => rfl
  | cons x r ih =>
    rw [List.map_cons, okNs, h x List.mem_cons_self, ih fun y hy => h y (List.mem_cons_of_mem _ hy)]
    rfl
theorem okN_ints {n : Nat} (ns : List Int) (h : 0 < n) : okN n (.lst (ns.map D.int)) = true := by
  rw [okN, decide_eq_true h, okNs_map fun _ _ => rfl]
  rfl
/-! lists of whole numbers, each way of holding them -/
section
variable {S : Store} {ns ms : List Int}
@[simp] theorem s_eqFFi : opEq (.fz (.lst (ns.map D.int))) (.fz (.lst (ms.map D.int))) S = .ok (decide (ns = ms)) S := by rw [s_eqF (okN_ints _ (by decide)) (okN_ints _ (by decide)), eqv_ints]
@[simp] theorem s_eqOFi : opEq (.ow (.lst (ns.map D.int))) (.fz (.lst (ms.map D.int))) S = .ok (decide (ns = ms)) S := by rw [s_eqOF (okN_ints _ (by decide)) (okN_ints _ (by decide)), eqv_ints]
@[simp] theorem s_eqFOi : opEq (.fz (.lst (ns.map D.int))) (.ow (.lst (ms.map D.int))) S = .ok (decide (ns = ms)) S := by rw [s_eqFO (okN_ints _ (by decide)) (okN_ints _ (by decide)), eqv_ints]
@[simp] theorem s_eqOOi : opEq (.ow (.lst (ns.map D.int))) (.ow (.lst (ms.map D.int))) S = .ok (decide (ns = ms)) S := by rw [s_eqOO (okN_ints _ (by decide)) (okN_ints _ (by decide)), eqv_ints]
end
@[simp] theorem szOk_0 : szOk 0 = true := rfl
@[simp] theorem szOk_1 : szOk 1 = true := rfl
@[simp] theorem szOk_2 : szOk 2 = true := rfl
@[simp] theorem szOk_3 : szOk 3 = true := rfl
@[simp] theorem szOk_4 : szOk 4 = true := rfl
@[simp] theorem szOk_5 : szOk 5 = true := rfl
@[simp] theorem szOk_6 : szOk 6 = true := rfl
@[simp] theorem szOk_7 : szOk 7 = true := rfl
@[simp] theorem szOk_8 : szOk 8 = true := rfl
@[simp] theorem szOk_9 : szOk 9 = true := rfl
@[simp] theorem szOk_10 : szOk 10 = true := rfl
@[simp] theorem szOk_11 : szOk 11 = true := rfl
@[simp] theorem szOk_12 : szOk 12 = true := rfl
/-! loops over numbers -/
theorem for_rng {t : Tgt} {body : CS} {S : Store} {n : Nat} (P : Nat → Env → Prop) (h : ∀ k, k < n → ∀ ds, P k ds → ∃ ds1, asgT t (.fz (.int (k : Nat))) S ds = some ds1 ∧ ∃ ds2, body ds1 S = .nx ds2 S ∧ P (k + 1) ds2) : ∀ ds, P 0 ds → ∃ ds', forRun t body (rngD 0 n) ds S = .nx ds' S ∧ P n ds' := fun ds p => by
  obtain ⟨ds', h1, h2⟩ := for_pre (t := t) (body := body) (S := S) (xs := List.range n) (fun k => D.int (0 + (k : Nat))) (fun pre ds => P pre.length ds) (fun pre x post e ds p => by
    have hx : x = pre.length := by
      have q := congrArg (fun l => l[pre.length]?) e
      simp only [List.getElem?_append_right (Nat.le_refl _), Nat.sub_self, List.getElem?_cons_zero] at q
      rw [List.getElem?_range (by
        have := congrArg List.length e
        simp at this
        omega)] at q
      exact (Option.some.inj q).symm
    subst hx
    have hl : pre.length < n := by
      have := congrArg List.length e
      simp at this
      omega
    obtain ⟨ds1, q1, ds2, q2, q3⟩ := h _ hl ds p
    refine ⟨ds1, ?_, ds2, q2, ?_⟩
    · rw [Int.zero_add]
      exact q1
    · rw [List.length_append]
      exact q3) ds p
  rw [List.length_range] at h2
  exact ⟨ds', h1, h2⟩
theorem for_rng1 {t : Tgt} {body : CS} {S : Store} {ds : Env} {fs : Env → M (List D)} {n : Nat} (h : fs ds S = .ok [.int (n : Nat)] S) (hn : n < 4611686018427387904) : cFor (cRng rng1 fs) t body ds S = forRun t body (rngD 0 n) ds S := by
  have e : cRng rng1 fs ds S = .ok (rngD 0 n) S := by
    rw [s_rng, h, bindR_ok, s_rng1, rngOk_s (by omega) (by omega), Int.toNat_natCast]
    rfl
  unfold cFor
  rw [e]
  rfl
/-! errors caught -/
section
variable {S S' : Store} {ds ds' : Env} {i : Nat} {tst : Nat → Option Bool} {b : CS} {h : Xn → CS} {x : Xn} {w : Wv}
def tryO (i : Nat) (tst : Nat → Option Bool) (h : Xn → CS) : RS → RS
  | .ex x ds S => catchX i tst h x ds S
  | r => r
@[simp] theorem s_try : cTry i tst b h ds S = tryO i tst h (b ds S) := by
  unfold cTry tryO
  cases b ds S <;> rfl
@[simp] theorem s_tryX : tryO i tst h (.ex x ds S) = catchX i tst h x ds S := rfl
@[simp] theorem s_tryN : tryO i tst h (.nx ds S) = .nx ds S := rfl
@[simp] theorem s_tryR : tryO i tst h (.rt w S) = .rt w S := rfl
@[simp] theorem s_tab1 {c : Nat} {b : Bool} {l : List (Nat × Bool)} : tab ((c, b) :: l) c = some b := by
  unfold tab List.lookup
  simp
@[simp] theorem noXc0 : noXc [] = true := rfl
@[simp] theorem noXc1 {d : D} {r : Mir.Env} : noXc (some (.fz d) :: r) = noXc r := rfl
@[simp] theorem noXc2 {so : SO} {r : Mir.Env} : noXc (some (.ow so) :: r) = noXc r := rfl
@[simp] theorem noXc3 {r : Mir.Env} : noXc (none :: r) = noXc r := rfl
def catO (i : Nat) (h : Xn → CS) (x : Xn) (ds : Env) (S : Store) : Option Bool → RS
  | some true => if noXc ds && decide (i < ds.length) then unX i (h x (ds.set i (some .xc)) S) else .bad
  | some false => .ex x ds S
  | none => .bad
@[simp] theorem s_catch : catchX i tst h x ds S = catO i h x ds S (tst x.1) := by
  unfold catchX catO
  rfl
@[simp] theorem s_catT : catO i h x ds S (some true) = if noXc ds && decide (i < ds.length) then unX i (h x (ds.set i (some .xc)) S) else .bad := rfl
@[simp] theorem s_catF : catO i h x ds S (some false) = .ex x ds S := rfl
@[simp] theorem s_unN : unX i (.nx ds S) = if noXc (ds.set i none) then .nx (ds.set i none) S else .bad := rfl
@[simp] theorem s_unR : unX i (.rt w S) = .rt w S := rfl
def xisO (o : Option (Option Wv)) (t : Option Bool) (S : Store) : R Wv := match o, t with
  | some (some .xc), some b => .ok (.fz (.bl b)) S
  | _, _ => .bad
@[simp] theorem s_xis {y : Xn} : cXis i tst y ds S = xisO ds[i]? (tst y.1) S := by
  unfold cXis xisO xcAt
  cases ds[i]? with
  | none => rfl
  | some o =>
    cases o with
    | none => rfl
    | some w =>
      cases w with
      | xc => cases tst y.1 <;> rfl
      | fz d => rfl
      | ow so => rfl
@[simp] theorem s_xisO {v : Bool} : xisO (some (some .xc)) (some v) S = .ok (.fz (.bl v)) S := rfl
end
/-! slices -/
theorem cutD_take {xs : List D} (k : Nat) : cutD xs none (some (k : Int)) = xs.take k := by
  unfold cutD
  rw [HT.sIx_none, show HT.sIx xs.length xs.length (some (k : Int)) = min k xs.length from HT.sIx_nat _ _ k, List.drop_zero, Nat.sub_zero]
  rw [← List.take_take, List.take_of_length_le (Nat.le_refl _)]
theorem cutD_drop {xs : List D} (k : Nat) : cutD xs (some (k : Int)) none = xs.drop k := by
  unfold cutD
  rw [HT.sIx_none, show HT.sIx xs.length 0 (some (k : Int)) = min k xs.length from HT.sIx_nat _ _ k]
  by_cases h : k ≤ xs.length
  · rw [Nat.min_eq_left h, List.take_of_length_le (by rw [List.length_drop]; exact Nat.le_refl _)]
  · rw [Nat.min_eq_right (by omega), List.drop_of_length_le (Nat.le_refl _), List.drop_of_length_le (by omega)]
    simp
theorem cutD_mid {xs : List D} (i j : Nat) (hj : j ≤ xs.length) : cutD xs (some (i : Int)) (some (j : Int)) = (xs.drop i).take (j - i) := by
  unfold cutD
  rw [show HT.sIx xs.length 0 (some (i : Int)) = min i xs.length from HT.sIx_nat _ _ i, show HT.sIx xs.length xs.length (some (j : Int)) = min j xs.length from HT.sIx_nat _ _ j, Nat.min_eq_left hj]
  by_cases h : i ≤ xs.length
  · rw [Nat.min_eq_left h]
  · rw [Nat.min_eq_right (by omega), List.drop_of_length_le (Nat.le_refl _), List.drop_of_length_le (by omega)]
    simp
@[simp] theorem atD_int {ns : List Int} {k : Nat} : atD (ns.map D.int) (k : Int) = (ns[k]?).map D.int := by
  cases h : ns[k]? with
  | some i => exact atD_nat (by rw [List.getElem?_map, h]; rfl)
  | none =>
    have := List.getElem?_eq_none_iff.mp h
    unfold atD ixN
    rw [if_pos (by omega), if_neg (by rw [List.length_map]; omega)]
    rfl
end Mir
set_option Elab.async false
set_option linter.all false
set_option maxRecDepth 100000
/-! Mir15: instances: fields, methods by class, isinstance of own classes. -/
namespace Mir
open PySem PySem.Spec PyProof.Rows L2
section
variable {T : Tx} {Wx : WX} {X : Cx} {e o : Expr} {g g0 g1 : Gh} {H H0 H1 : Hp} {c : Chk} {S S1 : Store} {ds : Env} {σ : SV} {st : Stmt} {rest : List Stmt} {pos : Pos} {f1 : CE}
/-! ### an instance at hand -/
def insW (S : Store) : Wv → Option (Nat × List (Str × D))
  | .fz (.ins c fs) => some (c, fs)
  | .ow (.ins c fs) => some (c, fs)
  | .fz (.ref n) => match S[n]? with
    | some (.ins c fs) => some (c, fs)
    | _ => none
  | _ => none
theorem insW_ok {w : Wv} {v : V} {k : Nat} {fs : List (Str × D)} (rs : RelS T g S H) (r : RepB T g H w v) (h : insW S w = some (k, fs)) : ∃ a dx vs, v = .ref a ∧ H a = some (.ins (T.cls k) dx vs) ∧ RepF T g H fs vs := by
  cases w with
  | xc => cases h
  | ow so =>
    cases so with
    | ins k' fs' =>
      cases h
      obtain ⟨a, ho, rfl, _, h1, h2⟩ := r
      cases h2 with
      | ins h2 => exact ⟨a, _, _, rfl, h1, h2⟩
    | lst _ => cases h
    | dct _ => cases h
  | fz d =>
    cases d with
    | ins k' fs' =>
      cases h
      cases r with
      | ins h1 _ h2 => exact ⟨_, _, _, rfl, h1, h2⟩
    | ref n =>
      cases r with
      | ref hn =>
        change (match S[n]? with | some (SO.ins c fs) => some (c, fs) | _ => none) = some (k, fs) at h
        split at h
        · rename_i k' fs' q
          cases h
          obtain ⟨ho, h1, h2⟩ := rs.obj n _ _ q hn
          cases h2 with
          | ins h2 => exact ⟨_, _, _, rfl, h1, h2⟩
        · cases h
    | _ => cases h
theorem RepF.look : ∀ {ds : List (Str × D)} {vs : List (Str × V)}, RepF T g H ds vs → ∀ f, (∀ d, ds.lookup f = some d → ∃ v, vs.lookup f = some v ∧ Rep T g H d v) ∧ (ds.lookup f = none → vs.lookup f = none)
  | _, _, .nil, f => ⟨fun d h => by simp at h, fun _ => rfl⟩
  | (k, d0) :: r, _, .cons (v := v0) (vs := vr) hd hr, f => by
    obtain ⟨i1, i2⟩ := RepF.look hr f
    by_cases q : f = k
    · subst q
      refine ⟨fun d h => ?_, fun h => ?_⟩
      · rw [List.lookup_cons_self] at h
        cases h
        exact ⟨v0, List.lookup_cons_self, hd⟩
      · rw [List.lookup_cons_self] at h
        cases h
    · have q' : (f == k) = false := by simpa using q
      have e1 : ∀ (x : D), ((k, x) :: r).lookup f = r.lookup f := fun x => by rw [List.lookup_cons, q']
      have e2 : ((k, v0) :: vr).lookup f = vr.lookup f := by rw [List.lookup_cons, q']
      rw [e1, e2]
      exact ⟨i1, i2⟩
/-! ### e.f -/
def fldO (f : Str) (cs : List Nat) (S : Store) : Option (Nat × List (Str × D)) → R D
  | some (k, fs) => if cs.contains k then (match fs.lookup f with
    | some d => .ok d S
    | none => .bad) else .bad
  | none => .bad
def cFld (f : Str) (cs : List Nat) (fe : CE) : Env → M D := fun ds S => bindR (fe ds S) fun w S => fldO f cs S (insW S w)
/-- the class has no attribute of its own of this name -/
structure FldF (T : Tx) (f : Str) (cs : List Nat) : Prop where
  at_ : ∀ k ∈ cs, Cls T.K (T.cls k) ∧ NoAttr T.K (T.cls k) f
theorem jd_fld {f : Str} {cs : List Nat} {fe : CE} (lv : Lv T Wx X) (F : FldF T f cs) (h : JB T Wx X e fe) (hb : attributeBase e f X.env (eval e X.env) = eval e X.env := by rfl) : JD T Wx X (.Attribute e f pos) (cFld f cs fe) :=
  PE.imp (pe_fld h hb) fun σ H Q ⟨g0, H0, c, g, S, ds, fr, p⟩ => by
    have hK := lv.hK
    refine tG.bind (r1 := RB T) (r2 := RD T) mono_d fr p fun w S1 g1 H1 v e1 fr1 rv p1 => ?_
    unfold fldO at p1
    split at p1
    · rename_i k fs hq
      split at p1
      · rename_i hc
        split at p1
        · rename_i d hd
          obtain ⟨a, dx, vs, rfl, ha, rf⟩ := insW_ok fr1.st rv hq
          obtain ⟨v, hv, rd⟩ := (rf.look f).1 d hd
          obtain ⟨q1, q2⟩ := F.at_ k (by simpa using hc)
          exact ⟨a, _, dx, vs, v, rfl, ha, hK ▸ q1, hK ▸ q2, hv, PostG.now (r := RD T H1) p1 fr1.st rd⟩
        · exact p1.elim
      · exact p1.elim
    · exact p1.elim
/-! ### o.m(..) -/
/-- a method: the class of number k has it, the def keeps its promise -/
structure Mt (P : Program) (w : World) (K : PySem.W.Frag) (mg : Str → Option Value) (base : Heap) (T : Tx) (j : Nat) (k : Nat) (m : Str) (np : Nat) (fn : Fn) : Prop where
  ex : ∃ (f : Addr) (fd : FuncData) (ps : List Str), Cls K (T.cls k) ∧ Meth K (T.cls k) m f ∧ ps.length = np ∧ Binds K fd ps [] ∧ FnOk P w K mg base (L2.CX P w) j f fd ps (spF T np fn)
theorem Mt.mono {P : Program} {w : World} {K : PySem.W.Frag} {mg : Str → Option Value} {base : Heap} {i j k : Nat} {m : Str} {np : Nat} {fn : Fn} (d : Mt P w K mg base T i k m np fn) (h : i ≤ j) : Mt P w K mg base T j k m np fn := by
  obtain ⟨f, fd, ps, h1, h2, h3, h4, h5⟩ := d.ex
  exact ⟨f, fd, ps, h1, h2, h3, h4, h5.mono h⟩
def tMt (X : Cx) (m : Str) (E : L2.St → XK) (ta : TE) (t : TA) : TE := fun σ H Q => ta σ H fun x H1 => ∃ (a C dx : Addr) (fs : List (Str × V)) (f : Addr) (fd : FuncData) (ps : List Str) (sp : Sp) (j : Nat), x = .ref a ∧ H1 a = some (.ins C dx fs) ∧ fs.lookup m = none ∧ (Cls X.K C ∧ Meth X.K C m f) ∧
  (FnOk X.prog X.w X.K X.mg X.base (L2.CX X.prog X.w) j f fd ps sp ∧ Room j X.A ∧ Binds X.K fd ps []) ∧ t σ H1 fun vs H2 => sp (.ref a :: vs) H2 Q (E σ)
theorem pe_mt1 {m : Str} {E : L2.St → XK} {ta : TE} {t : TA} {apos : Pos} {es : List Expr} {pl : Sem Bool} (he : PE X o ta) (ha : PA X (e :: es) t) (hx : ∀ σ, PassesAt (L2.CX X.prog X.w) X σ (E σ))
    (hs : starEach (e :: es) X.env = (false, eval e X.env) :: starEach es X.env) (hp : (backTo pos (starEach es X.env)).any (·.1) = false)
    (ht : eval (.Call (.Attribute o m apos) (e :: es) [] pos) X.env = (do
      let ov ← eval o X.env; standAt apos.atName; let (f, first) ← holding [ov] (getMethod ov m pl); callWith pos f first (backTo pos (starEach (e :: es) X.env)) (backToKw pos (keywordEach [] X.env)))) :
    PE X (.Call (.Attribute o m apos) (e :: es) [] pos) (tMt X m E ta t) := by
  constructor
  intro pins s σ H Q I h
  have h1 := he.run pins s σ H _ I h
  refine PySem.W.methodCall_KW (pl := pl) (thn h1 ?_) ht
  rintro u s1 ⟨x, H1, I1, rx, a, C, dx, fs, f, fd, ps, sp, j, rfl, ea, l, ⟨cl, hm⟩, ⟨F, hr, hb⟩, q⟩
  cases (show u = Value.ref a from rx)
  have h2 := ha.run pos pins s1 σ H1 _ I1 q
  have kin : PySem.W.Frag.In X.K X.base := I.ok.mod.kin
  refine getmeth_ok I1 ea cl hm l (PySem.W.callWith_K (first := [.ref a]) (h₀ := X.base) kin hm.kp (thn h2 ?_) hs hp)
  rintro us s2 ⟨vs, H2, I2, r, q2⟩
  exact ⟨I2.kIn, run_fnS (us := .ref a :: us) (vs := .ref a :: vs) F hr hb (hx σ) I2 (.cons rfl r) q2⟩
theorem pe_mt0 {m : Str} {E : L2.St → XK} {ta : TE} {apos : Pos} {pl : Sem Bool} (he : PE X o ta) (hx : ∀ σ, PassesAt (L2.CX X.prog X.w) X σ (E σ))
    (ht : eval (.Call (.Attribute o m apos) [] [] pos) X.env = (do
      let ov ← eval o X.env; standAt apos.atName; let (f, first) ← holding [ov] (getMethod ov m pl); callWith pos f first (backTo pos (starEach [] X.env)) (backToKw pos (keywordEach [] X.env)))) :
    PE X (.Call (.Attribute o m apos) [] [] pos) (tMt X m E ta tNil) := by
  constructor
  intro pins s σ H Q I h
  have h1 := he.run pins s σ H _ I h
  refine PySem.W.methodCall_KW (pl := pl) (thn h1 ?_) ht
  rintro u s1 ⟨x, H1, I1, rx, a, C, dx, fs, f, fd, ps, sp, j, rfl, ea, l, ⟨cl, hm⟩, ⟨F, hr, hb⟩, q⟩
  cases (show u = Value.ref a from rx)
  exact getmeth_ok I1 ea cl hm l (PySem.W.callWith_K0 (first := [.ref a]) I1.kIn hm.kp (run_fnS (us := [.ref a]) (vs := [.ref a]) F hr hb (hx σ) I1 (.cons rfl .nil) q))
def dispO (m : Str) (disp : Nat → Option Fn) : Option (Nat × List (Str × D)) → Option Fn
  | some (k, fs) => match fs.lookup m with
    | none => disp k
    | some _ => none
  | none => none
def callO (fn : Option Fn) (args : List D) : M Wv := fun S => match fn with
  | some fn => fn args S
  | none => .bad
def cMeth (m : Str) (disp : Nat → Option Fn) (fo : Env → M D) (fs : Env → M (List D)) : CE := fun ds S => bindR (fo ds S) fun d S => match dispO m disp (insW S (.fz d)) with
  | some fn => bindR (fs ds S) fun args S => fn (d :: args) S
  | none => .bad
theorem postF_of {Q : VK} {r : R Wv} (p : PostG T Wx (RW T H) g H σ Q r) : PostF T g H Q (WE Wx σ) r := by
  cases r with
  | ok w2 S2 => exact p
  | ex x2 S2 => exact p
  | bad => exact p
def tabF (l : List (Nat × Fn)) : Nat → Option Fn := fun c => l.lookup c
def AllF (P : Nat → Fn → Prop) : List (Nat × Fn) → Prop
  | [] => True
  | (c, b) :: r => P c b ∧ AllF P r
theorem tabF_all {P : Nat → Fn → Prop} : ∀ {l : List (Nat × Fn)}, AllF P l → ∀ c b, tabF l c = some b → P c b
  | [], _, _, _, h => nomatch h
  | (c0, b0) :: r, ⟨h1, h2⟩, c, b, h => by
    unfold tabF List.lookup at h
    split at h
    · rename_i q
      cases h
      rw [eq_of_beq q]
      exact h1
    · exact tabF_all h2 c b h
theorem disp_ok {m : Str} {disp : Nat → Option Fn} {d : D} {v : V} {fn : Fn} (rs : RelS T g S H) (r : Rep T g H d v) (h : dispO m disp (insW S (.fz d)) = some fn) : ∃ k a dx vs, v = .ref a ∧ H a = some (.ins (T.cls k) dx vs) ∧ vs.lookup m = none ∧ disp k = some fn := by
  unfold dispO at h
  split at h
  · rename_i k fs hq
    split at h
    · rename_i hl
      obtain ⟨a, dx, vs, e1, e2, e3⟩ := insW_ok (w := .fz d) rs r hq
      exact ⟨k, a, dx, vs, e1, e2, (e3.look m).2 hl, h⟩
    · cases h
  · cases h
theorem je_meth {P : Program} {w : World} {mg : Str → Option Value} {base : Heap} {j : Nat} {m : Str} {np : Nat} {disp : Nat → Option Fn} {apos : Pos} {es : List Expr} {pl : Sem Bool} {fo : Env → M D} {fs : Env → M (List D)} (B : Bd T mg P w base j Wx X) (hM : ∀ k fn, disp k = some fn → Mt P w T.K mg base T j k m (np + 1) fn)
    (ho : JD T Wx X o fo) (ha : JA T Wx X (e :: es) fs) (hlen : ∀ ds S args S', fs ds S = .ok args S' → args.length = np)
    (hs : starEach (e :: es) X.env = (false, eval e X.env) :: starEach es X.env := by rfl) (hp : (backTo pos (starEach es X.env)).any (·.1) = false := by rfl)
    (ht : eval (.Call (.Attribute o m apos) (e :: es) [] pos) X.env = (do
      let ov ← eval o X.env; standAt apos.atName; let (f, first) ← holding [ov] (getMethod ov m pl); callWith pos f first (backTo pos (starEach (e :: es) X.env)) (backToKw pos (keywordEach [] X.env))) := by rfl) :
    JE T Wx X (.Call (.Attribute o m apos) (e :: es) [] pos) (cMeth m disp fo fs) :=
  PE.imp (pe_mt1 (E := fun σ => WE Wx σ) ho ha (fun σ => passAt B.tk σ) hs hp ht) fun σ H Q ⟨g0, H0, c, g, S, ds, fr, p⟩ => by
    have hK := B.hK
    refine tG.bind (r1 := RD T) (r2 := RW T) mono_w fr p fun d S1 g1 H1 v e1 fr1 rv p1 => ?_
    split at p1
    · rename_i fn hd
      obtain ⟨k, a, dx, vs, rfl, ea, l, hk⟩ := disp_ok fr1.st rv hd
      obtain ⟨f, fd, ps, h1, h2, h3, h4, h5⟩ := (hM k fn hk).ex
      refine ⟨a, _, dx, vs, f, fd, ps, spF T (np + 1) fn, j, rfl, ea, l, ⟨hK ▸ h1, hK ▸ h2⟩, ⟨by rw [B.prog, B.wo, hK, B.mg, B.ba]; exact h5, B.rm, hK ▸ h4⟩, ?_⟩
      refine ⟨g0, H0, c, g1, S1, ds, fr1, ?_⟩
      cases q : fs ds S1 with
      | ok args S2 =>
        rw [q] at p1
        intro g2 H2 us e2 rs2 rus
        have p2 := postF_of (PostG.from mono_w e2 p1)
        exact ⟨by rw [List.length_cons, ← rus.length, hlen ds S1 args S2 q], g2, S2, d :: args, rs2, .cons (Rep.fix (e2.fix fr1.st) rv) rus, p2⟩
      | ex x S2 =>
        rw [q] at p1
        exact p1
      | bad =>
        rw [q] at p1
        exact p1
    · exact p1.elim
theorem je_meth0 {P : Program} {w : World} {mg : Str → Option Value} {base : Heap} {j : Nat} {m : Str} {disp : Nat → Option Fn} {apos : Pos} {pl : Sem Bool} {fo : Env → M D} (B : Bd T mg P w base j Wx X) (hM : ∀ k fn, disp k = some fn → Mt P w T.K mg base T j k m 1 fn)
    (ho : JD T Wx X o fo)
    (ht : eval (.Call (.Attribute o m apos) [] [] pos) X.env = (do
      let ov ← eval o X.env; standAt apos.atName; let (f, first) ← holding [ov] (getMethod ov m pl); callWith pos f first (backTo pos (starEach [] X.env)) (backToKw pos (keywordEach [] X.env))) := by rfl) :
    JE T Wx X (.Call (.Attribute o m apos) [] [] pos) (cMeth m disp fo cNil) :=
  PE.imp (pe_mt0 (E := fun σ => WE Wx σ) ho (fun σ => passAt B.tk σ) ht) fun σ H Q ⟨g0, H0, c, g, S, ds, fr, p⟩ => by
    have hK := B.hK
    refine tG.bind (r1 := RD T) (r2 := RW T) mono_w fr p fun d S1 g1 H1 v e1 fr1 rv p1 => ?_
    split at p1
    · rename_i fn hd
      obtain ⟨k, a, dx, vs, rfl, ea, l, hk⟩ := disp_ok fr1.st rv hd
      obtain ⟨f, fd, ps, h1, h2, h3, h4, h5⟩ := (hM k fn hk).ex
      refine ⟨a, _, dx, vs, f, fd, ps, spF T 1 fn, j, rfl, ea, l, ⟨hK ▸ h1, hK ▸ h2⟩, ⟨by rw [B.prog, B.wo, hK, B.mg, B.ba]; exact h5, B.rm, hK ▸ h4⟩, ?_⟩
      exact ⟨rfl, g1, S1, [d], fr1.st, .cons rv .nil, postF_of p1⟩
    · exact p1.elim
/-! ### isinstance of an own class -/
structure InsF (K : PySem.W.Frag) (C : Addr) : Prop where
  cl : Cls K C
  ha : PySem.W.findIn K (.ref C) "__class__" = some (some (.builtin "object.__class__"))
  hn : PySem.W.specialIn K (.builtin "object.__class__") "__get__" = some (some (.builtin "getset_descriptor.__get__"))
  htk : PySem.W.takesIn K (.builtin "object.__class__") = some true
  hm : PySem.W.mroIn K C (.type "object") = some true
def rIsO (K : PySem.W.Frag) (D : Addr) : List V → Hp → VK → Prop := fun xs H Q => ∃ (a C dx : Addr) (fs : List (Str × V)) (b : Bool), xs = [.ref a, .ref D] ∧ H a = some (.ins C dx fs) ∧ InsF K C ∧ PySem.W.kitOne K (.ref C) (.ref D) = some b ∧ Q (.bl b) H
theorem call_isO {D : Addr} : CallR X (.builtin "isinstance") (rIsO X.K D) := by
  rintro pins s σ H xs us Q I r ⟨a, C, dx, fs, b, rfl, ha, F, hk, q⟩
  cases r with
  | cons r1 r2 =>
    obtain ⟨u2, rfl, r3⟩ := Vals.one r2
    cases r3
    exact isinst_ok I r1 (TyOf.ins ha F.cl F.ha F.hn F.htk F.hm) hk fun tk => ⟨.bl b, H, I.tok _, rfl, q⟩
def isO (tst : Nat → Option Bool) (S : Store) : Option (Nat × List (Str × D)) → R Wv
  | some (k, _) => match tst k with
    | some b => .ok (.fz (.bl b)) S
    | none => .bad
  | none => .bad
def cIsO (tst : Nat → Option Bool) (fe : CE) : CE := fun ds S => bindR (fe ds S) fun w S => isO tst S (insW S w)
theorem je_isO {x : Str} {D : Nat} {tst : Nat → Option Bool} {fe : CE} {px pf : Pos} (lv : Lv T Wx X) (F : ∀ k b, tst k = some b → InsF T.K (T.cls k) ∧ PySem.W.kitOne T.K (.ref (T.cls k)) (.ref (T.cls D)) = some b) (hg : Gl X "isinstance") (hm : X.mg "isinstance" = none) (h : JB T Wx X e fe)
    (hgx : Gl X x) (hmx : X.mg x = some (.ref (T.cls D))) (hd : (x == ("__debug__" : Str)) = false := by decide)
    (he : starEach [e, .Name x px] X.env = (false, eval e X.env) :: starEach [.Name x px] X.env := by rfl) (he2 : starEach [.Name x px] X.env = [(false, eval (.Name x px) X.env)] := by rfl) (hpl : (backTo pos (starEach [.Name x px] X.env)).any (·.1) = false := by rfl) :
    JE T Wx X (.Call (.Name "isinstance" pf) [e, .Name x px] [] pos) (cIsO tst fe) := by
  have hK := lv.hK
  have hc : CallR X (.builtin "isinstance") (rIsO T.K (T.cls D)) := hK ▸ call_isO
  refine PE.imp (pe_callB hc hg hm (by decide +kernel) (pa_cons h (pa_cons (pe_cl hgx hmx hd) pa_nil he2) he) (by decide) (by decide) he hpl) fun σ H Q ⟨g0, H0, c, g, S, ds, fr, p⟩ => ?_
  refine tG.bind (r1 := RB T) (r2 := RW T) mono_w fr p fun w S1 g1 H1 v e1 fr1 rv p1 => ?_
  unfold isO at p1
  split at p1
  · rename_i k fs hq
    split at p1
    · rename_i b hb
      obtain ⟨a, dx, vs, rfl, ha, _⟩ := insW_ok fr1.st rv hq
      obtain ⟨f1, f2⟩ := F k b hb
      exact ⟨a, _, dx, vs, b, rfl, ha, f1, f2, PostG.now (r := RW T H1) p1 fr1.st (.bl b)⟩
    · exact p1.elim
  · exact p1.elim
end
end Mir
set_option Elab.async false
set_option linter.all false
set_option maxRecDepth 100000
/-! Mir16: instances made: __init__ of classes whose fields are frozen data. -/
namespace Mir
open PySem PySem.Spec PyProof.Rows L2
abbrev FnI := List D → List (Str × D) → Store → R (List (Str × D))
abbrev CI := Env → List (Str × D) → Store → R (List (Str × D))
structure Slf (T : Tx) (g : Gh) (H : Hp) (a C dx : Addr) (fl : List (Str × D)) (fv : List (Str × V)) : Prop where
  liv : g.L a
  nio : a ∉ g.io
  obj : H a = some (.ins C dx fv)
  rep : RepF T g H fl fv
theorem RepF.fix0 {T : Tx} {g g' : Gh} {H H' : Hp} (f : Fix g H g' H') {ds : List (Str × D)} {vs : List (Str × V)} (r : RepF T g H ds vs) : RepF T g' H' ds vs := RepF.fix f r
/-- how an __init__ leaves what was there: all but self -/
structure ExtB (a : Addr) (g : Gh) (H : Hp) (g' : Gh) (H' : Hp) : Prop where
  pre : ∃ t, g'.io = g.io ++ t
  trk : ∀ b o, H b = some o → ∃ o', H' b = some o'
  liv : ∀ b o, H b = some o → (g'.L b ↔ g.L b)
  kp : ∀ b o, H b = some o → b ∉ g.io → b ≠ a → H' b = some o ∧ b ∉ g'.io
def PostN (T : Tx) (g : Gh) (H : Hp) (a C dx : Addr) (Q : VK) (E : XK) : R (List (Str × D)) → Prop
  | .ok fl' S' => ∀ g' H' fv', ExtB a g H g' H' → RelS T g' S' H' → Slf T g' H' a C dx fl' fv' → Q .non H'
  | .ex x S' => ∀ g' H' cls d, ExtB a g H g' H' → RelS T g' S' H' → RepX T g' H' x cls d → E cls d H'
  | .bad => False
/-- the promise of an __init__; ok: the classes that may come -/
def spI (T : Tx) (np : Nat) (ok : Nat → Bool) (m : FnI) : Sp := fun vs H Q E => vs.length = np + 1 ∧ ∃ g S ds a k dx fl fv vs', vs = .ref a :: vs' ∧ RelS T g S H ∧ Reps T g H ds vs' ∧ Slf T g H a (T.cls k) dx fl fv ∧ ok k = true ∧ PostN T g H a (T.cls k) dx Q E (m ds fl S)
def PostNS (T : Tx) (Wx : WX) (g0 : Gh) (H0 : Hp) (c : Chk) (ds : Env) (σ : SV) (a C dx : Addr) (D' : Ends) : R (List (Str × D)) → Prop
  | .ok fl' S' => ∀ g' H' fv', FR T g0 H0 c g' H' S' ds σ → Slf T g' H' a C dx fl' fv' → D'.nx σ H'
  | .ex x S' => ∀ g' H' cls d, FR T g0 H0 c g' H' S' ds σ → ((∃ o, H' a = some o) ∧ g'.L a) → RepX T g' H' x cls d → Wx cls d σ H'
  | .bad => False
/-- in an __init__: no local is set; self in slot 0 -/
def tN (T : Tx) (Wx : WX) (ok : Nat → Bool) (f : CI) : TS := fun D' σ H => ∃ g0 H0 c g S ds a k dx fl fv, FR T g0 H0 c g H S ds σ ∧ (σ[0]? = some (some (.ref a)) ∧ (∀ (i : Nat) (so : SO), ds[i]? ≠ some (some (.ow so))) ∧ H0 a = none) ∧ Slf T g H a (T.cls k) dx fl fv ∧ ok k = true ∧ PostNS T Wx g0 H0 c ds σ a (T.cls k) dx D' (f ds fl S)
def JN (T : Tx) (Wx : WX) (ok : Nat → Bool) (X : Cx) (s : Stmt) (f : CI) : Prop := PS X s (tN T Wx ok f)
def JNs (T : Tx) (Wx : WX) (ok : Nat → Bool) (X : Cx) (s : List Stmt) (f : CI) : Prop := PSs X s (tN T Wx ok f)
def iNil : CI := fun _ fl S => .ok fl S
def iSeq (a b : CI) : CI := fun ds fl S => bindR (a ds fl S) fun fl S => b ds fl S
def putN (f : Str) (d : D) : List (Str × D) → List (Str × D)
  | [] => [(f, d)]
  | (h, x) :: r => if h = f then (h, d) :: r else (h, x) :: putN f d r
def iSet (f : Str) (fe : Env → M D) : CI := fun ds fl S => bindR (fe ds S) fun d S => if fl.length < 1000 then .ok (putN f d fl) S else .bad
def iDrop (fe : CE) : CI := fun ds fl S => bindR (fe ds S) fun _ S => .ok fl S
def iIf (t : Env → M Bool) (a b : CI) : CI := fun ds fl S => bindR (t ds S) fun k S => if k then a ds fl S else b ds fl S
def iRaise (c : Nat) : CI := fun _ _ S => .ex (c, none) S
def iBase (m : FnI) (fs : Env → M (List D)) : CI := fun ds fl S => bindR (fs ds S) fun args S => m args fl S
section
variable {T : Tx} {Wx : WX} {X : Cx} {e o : Expr} {g g0 g1 : Gh} {H H0 H1 : Hp} {c : Chk} {S S1 : Store} {ds : Env} {σ : SV} {st : Stmt} {rest : List Stmt} {pos : Pos} {f1 : CE} {ok : Nat → Bool} {a C dx : Addr} {fl : List (Str × D)} {fv : List (Str × V)}
theorem RepF.len : ∀ {ds : List (Str × D)} {vs : List (Str × V)}, RepF T g H ds vs → ds.length = vs.length
  | _, _, .nil => rfl
  | _, _, .cons _ r => congrArg (· + 1) (RepF.len r)
theorem RepF.put {f : Str} {d : D} {v : V} (rd : Rep T g H d v) : ∀ {ds : List (Str × D)} {vs : List (Str × V)}, RepF T g H ds vs → RepF T g H (putN f d ds) (putF f v vs)
  | _, _, .nil => .cons rd .nil
  | (k, d0) :: r, _, .cons (v := v0) (vs := vr) hd hr => by
    unfold putN putF
    by_cases q : k = f
    · rw [if_pos q, if_pos q]
      exact .cons rd hr
    · rw [if_neg q, if_neg q]
      exact .cons hd (RepF.put rd hr)
theorem Slf.on {g' : Gh} {H' : Hp} (s : Slf T g H a C dx fl fv) (e1 : Ext g H g' H') (rs : RelS T g S H) : Slf T g' H' a C dx fl fv := by
  obtain ⟨h1, h2⟩ := e1.kp a _ s.obj s.nio
  exact ⟨(e1.liv a _ s.obj).mpr s.liv, h2, h1, s.rep.fix0 (e1.fix rs)⟩
/-- an expression in an __init__ -/
theorem tG.ini {α β : Type} {r : Rl α β} {f : Env → M α} (fr : FR T g0 H0 c g H S ds σ) (sl : Slf T g H a C dx fl fv) {k : α → Store → R (List (Str × D))} {D' : Ends} {Q : β → Hp → Prop} (p : PostNS T Wx g0 H0 c ds σ a C dx D' (bindR (f ds S) k))
    (h : ∀ w S1 g1 H1 v, f ds S = .ok w S1 → Ext g H g1 H1 → FR T g0 H0 c g1 H1 S1 ds σ → r H g1 H1 w v → PostNS T Wx g0 H0 c ds σ a C dx D' (k w S1) → Q v H1) : tG T Wx r f σ H Q := by
  refine ⟨g0, H0, c, g, S, ds, fr, ?_⟩
  cases q : f ds S with
  | ok w S1 =>
    rw [q] at p
    exact fun g1 H1 v e1 rs rv => h w S1 g1 H1 v q e1 (fr.on e1 rs) rv p
  | ex x S1 =>
    rw [q] at p
    exact fun g1 H1 cls d e1 rs rx => p g1 H1 cls d (fr.on e1 rs) ⟨e1.trk a _ sl.obj, (e1.liv a _ sl.obj).mpr sl.liv⟩ rx
  | bad =>
    rw [q] at p
    exact p
theorem jns_nil : JNs T Wx ok X [] iNil := PSs.imp pss_nil fun D' σ H ⟨g0, H0, c, g, S, ds, a, k, dx, fl, fv, fr, s0, sl, hk, p⟩ => p g H fv fr sl
theorem jns_cons {f f' : CI} (h : JN T Wx ok X st f) (h' : JNs T Wx ok X rest f') : JNs T Wx ok X (st :: rest) (iSeq f f') := PSs.imp (pss_cons h h') fun D' σ H ⟨g0, H0, c, g, S, ds, a, k, dx, fl, fv, fr, s0, sl, hk, p⟩ => by
  refine ⟨g0, H0, c, g, S, ds, a, k, dx, fl, fv, fr, s0, sl, hk, ?_⟩
  unfold iSeq at p
  cases q : f ds fl S with
  | ok fl' S' =>
    rw [q] at p
    exact fun g' H' fv' fr' sl' => ⟨g0, H0, c, g', S', ds, a, k, dx, fl', fv', fr', s0, sl', hk, p⟩
  | ex x S' =>
    rw [q] at p
    exact p
  | bad =>
    rw [q] at p
    exact p
/-- self.f = e -/
theorem jn_set {f x : Str} {fe : Env → M D} {p pos' : Pos} (lv : Lv T Wx X) (F : ∀ k, ok k = true → Cls T.K (T.cls k) ∧ NoAttr T.K (T.cls k) f) (hN : X.N[0]? = some x) (hv : Vis X.env.scope x) (he : JD T Wx X e fe) (hd : (x == ("__debug__" : Str)) = false := by decide) (hcd : (x == ("__classdict__" : Str)) = false := by decide)
    (hs : swapsWith e (some (.Attribute (.Name x p) f pos')) pos.line X.env = pure false := by rfl) : JN T Wx ok X (.Assign [.Attribute (.Name x p) f pos'] e pos) (iSet f fe) :=
  PS.imp (ps_fld (pe_var (i := 0) hN hv hd hcd) he hs) fun D' σ H ⟨g0, H0, c, g, S, ds, a, k, dx, fl, fv, fr, s0, sl, hk, p⟩ => by
    have hK := lv.hK
    refine tG.ini (r := RD T) fr sl p fun d S1 g1 H1 v _ e1 fr1 rv p1 => ?_
    split at p1
    · rename_i hl
      have sl1 := sl.on e1 fr.st
      obtain ⟨q1, q2⟩ := F k hk
      refine ⟨.ref a, s0.1, a, _, dx, fv, rfl, sl1.obj, hK ▸ q1, hK ▸ q2, by rw [← sl1.rep.len]; exact hl, ?_⟩
      have fx : Fix g1 H1 g1 (L2.upd H1 a (.ins (T.cls k) dx (putF f v fv))) := fix_upd sl1.liv
      exact p1 g1 _ _ (fr1.upd s0.2.2 sl1.liv sl1.nio fun i so z => (s0.2.1 i so z).elim) ⟨sl1.liv, sl1.nio, upd_same, (RepF.put rv sl1.rep).fix0 fx⟩
    · exact p1.elim
theorem jn_drop (he : JE T Wx X e f1) (hs : swapsWith e none pos.line X.env = pure false := by rfl) : JN T Wx ok X (.Expr e pos) (iDrop f1) := PS.imp (ps_expr he hs) fun D' σ H ⟨g0, H0, c, g, S, ds, a, k, dx, fl, fv, fr, s0, sl, hk, p⟩ =>
  tG.ini (r := RW T) fr sl p fun w S1 g1 H1 v _ e1 fr1 rv p1 => p1 g1 H1 fv fr1 (sl.on e1 fr.st)
theorem jn_if {t : Env → M Bool} {c' : Expr} {ss ss' : List Stmt} {f f' : CI} (ht : JT T Wx X c' t) (ha : JNs T Wx ok X ss f) (hb : JNs T Wx ok X ss' f') : JN T Wx ok X (.If c' ss ss' pos) (iIf t f f') := PS.imp (ps_if ht ha hb) fun D' σ H ⟨g0, H0, c, g, S, ds, a, k, dx, fl, fv, fr, s0, sl, hk, p⟩ =>
  tG.ini (r := RT) fr sl p fun b S1 g1 H1 v _ e1 fr1 rv p1 => by
    subst rv
    cases b with
    | true => exact ⟨g0, H0, c, g1, S1, ds, a, k, dx, fl, fv, fr1, s0, sl.on e1 fr.st, hk, p1⟩
    | false => exact ⟨g0, H0, c, g1, S1, ds, a, k, dx, fl, fv, fr1, s0, sl.on e1 fr.st, hk, p1⟩
theorem jn_raise {x m : Str} {k : Nat} {j : Nat} {p p2 pos' : Pos} (lv : Lv T Wx X) (hc : X.calm = true) (F : ExcF T.K X.mg x (T.cls k)) (hg : Gl X x) (hdb : (x == ("__debug__" : Str)) = false := by decide) : JN T Wx ok X (.Raise (some (.Call (.Name x p) [.Constant (.str m) j p2] [] pos')) none pos) (iRaise k) := by
  have hK := lv.hK
  refine PS.imp (ps_raise hc lv.tk (pmk_own PySem.F.excBase_ValueError (hK.symm ▸ F.ex) F.g (hK.symm ▸ F.kp) (raises_own (hK.symm ▸ F.sb) (hK.symm ▸ F.tp)) hg hdb)) fun D' σ H ⟨g0, H0, c, g, S, ds, a, k', dx, fl, fv, fr, s0, sl, hk, q⟩ => ?_
  exact q g H (.ref (T.cls k)) none fr ⟨⟨_, sl.obj⟩, sl.liv⟩ ⟨rfl, rfl⟩
/-! ### a def of a class called by the class: C.m(o, ..) -/
structure ClA (K : PySem.W.Frag) (C : Addr) (m : Str) (f : Addr) : Prop where
  rd : ClX.CRead K C (.type "type")
  at_ : PySem.W.findCls K (.ref C) (.type "type") m = some (.val (.ref f))
  kp : PySem.W.keepIn K (.ref f) = true
def tCl (X : Cx) (sp : Sp) (E : L2.St → XK) (t : TA) : TE := fun σ H Q => t σ H fun vs H1 => sp vs H1 Q (E σ)
theorem pe_cl1 {x m : Str} {C f : Addr} {fd : FuncData} {ps : List Str} {sp : Sp} {j : Nat} {E : L2.St → XK} {t : TA} {p apos : Pos} {es : List Expr} {pl : Sem Bool} (hg : Gl X x) (hm : X.mg x = some (.ref C)) (A : ClA X.K C m f) (F : FnOk X.prog X.w X.K X.mg X.base (L2.CX X.prog X.w) j f fd ps sp) (hr : Room j X.A) (hb : Binds X.K fd ps [])
    (ha : PA X (e :: es) t) (hx : ∀ σ, PassesAt (L2.CX X.prog X.w) X σ (E σ)) (hdb : (x == ("__debug__" : Str)) = false)
    (hs : starEach (e :: es) X.env = (false, eval e X.env) :: starEach es X.env) (hp : (backTo pos (starEach es X.env)).any (·.1) = false)
    (ht : eval (.Call (.Attribute (.Name x p) m apos) (e :: es) [] pos) X.env = (do
      let ov ← eval (.Name x p) X.env; standAt apos.atName; let (f, first) ← holding [ov] (getMethod ov m pl); callWith pos f first (backTo pos (starEach (e :: es) X.env)) (backToKw pos (keywordEach [] X.env)))) :
    PE X (.Call (.Attribute (.Name x p) m apos) (e :: es) [] pos) (tCl X sp E t) := by
  constructor
  intro pins s σ H Q I h
  have kin : PySem.W.Frag.In X.K X.base := I.ok.mod.kin
  refine PySem.W.methodCall_KW (pl := pl) (ld_glob I hg hm ?_ hdb) ht
  refine PySem.W.method_cls I.kIn A.rd.ga (PySem.W.cls_value I.kIn A.rd.rd A.at_ rfl ?_)
  refine PySem.W.callWith_K (first := []) (h₀ := X.base) kin A.kp (thn (ha.run pos pins _ σ H _ (I.tok _) h) ?_) hs hp
  rintro us s2 ⟨vs, H2, I2, r, q2⟩
  exact ⟨I2.kIn, run_fnS F hr hb (hx σ) I2 r q2⟩
end
end Mir
set_option Elab.async false
set_option linter.all false
set_option maxRecDepth 100000
/-! Mir17: __init__ as a def, an instance made. -/
namespace Mir
open PySem PySem.Spec PyProof.Rows L2
def startI (n : Nat) (args : List D) : Env := none :: startE (n - 1) args
def runI (n : Nat) (m : CI) : FnI := fun args fl S => m (startI n args) fl S
section
variable {T : Tx} {Wx : WX} {X : Cx} {e o : Expr} {g g0 g1 : Gh} {H H0 H1 : Hp} {c : Chk} {S S1 : Store} {ds : Env} {σ : SV} {st : Stmt} {rest : List Stmt} {pos : Pos} {f1 : CE} {ok : Nat → Bool} {a C dx : Addr} {fl : List (Str × D)} {fv : List (Str × V)}
theorem EnvR.cons (r : EnvR T H0 g H ds σ) (x : Option V) : EnvR T H0 g H (none :: ds) (x :: σ) := by
  refine ⟨by rw [List.length_cons, List.length_cons, r.len], fun i d h => ?_, fun i so h => ?_, fun i j so so' a ne h1 h2 h3 h4 => ?_, fun i h => ?_⟩
  · cases i with
    | zero => cases h
    | succ i => exact r.fz i d h
  · cases i with
    | zero => cases h
    | succ i => exact r.ow i so h
  · cases i with
    | zero => cases h1
    | succ i =>
      cases j with
      | zero => cases h2
      | succ j => exact r.ne i j so so' a (fun z => ne (by rw [z])) h1 h2 h3 h4
  · cases i with
    | zero => cases h
    | succ i => exact r.xc i h
theorem start_cons {N : List Str} (hN : 0 < N.length) (v : V) (vs : List V) : L2.start N (v :: vs) = some v :: L2.start N.tail vs := by
  unfold L2.start
  rw [List.map_cons, List.cons_append, List.length_cons, List.length_tail, show N.length - (vs.length + 1) = N.length - 1 - vs.length by omega]
theorem startE_no {n : Nat} {args : List D} : ∀ (i : Nat) (so : SO), (startE n args)[i]? ≠ some (some (.ow so)) := fun i so h => by
  unfold startE at h
  by_cases hi : i < args.length
  · rw [List.getElem?_append_left (by simpa using hi), List.getElem?_map] at h
    cases q : args[i]? with
    | none =>
      rw [q] at h
      cases h
    | some d =>
      rw [q] at h
      cases h
  · rw [List.getElem?_append_right (by simpa using Nat.le_of_not_lt hi), List.getElem?_replicate] at h
    split at h <;> cases h
theorem startI_no {n : Nat} {args : List D} : ∀ (i : Nat) (so : SO), (startI n args)[i]? ≠ some (some (.ow so)) := fun i so h => by
  cases i with
  | zero => cases h
  | succ i => exact startE_no i so h
/-- the rule for an __init__ -/
theorem init_ok {P : Program} {w : World} {K : PySem.W.Frag} {mg : Str → Option Value} {base : Heap} {x qual : Str} {st : Stmt} {f : Addr} {fd : FuncData} {N ps : List Str} {k np : Nat} {m : CI} (F : Fun K x qual st f fd) (Sc : FnScope N ps (defScope st)) {T : Tx} (hT : T.K = K) (hl : ∀ a o, ¬ T.lean a o) (hps : ps.length = np + 1) (hN : 0 < N.length)
    (hb : ∀ (cdv : Value) (A : Around) (outer : List PySem.Env) (s : Shared) (H : Hp) (E : XK), Bd T mg P w base k (fun cls d _ H => E cls d H) (cxOf (L2.CX P w) P w K mg base N qual (defScope st) f cdv A outer s H E) →
      JNs T (fun cls d _ H => E cls d H) ok (cxOf (L2.CX P w) P w K mg base N qual (defScope st) f cdv A outer s H E) (defBody st) m) :
    FnOk P w K mg base (L2.CX P w) (k + 1) f fd ps (spI T np ok (runI N.length m)) := by
  refine F.okX Sc (fun vs H Q E h => h.1.trans hps.symm) (fun cdv A outer s H vs Q E hr h => ?_)
  have tk : Takes (cxOf (L2.CX P w) P w K mg base N qual (defScope st) f cdv A outer s H E) (fun cls d _ H => E cls d H) := takes_of rfl rfl rfl rfl
  have po : PassesOwn (model P w) (A.deeper (envOfC qual (defScope st) s.heap.objs.size f cdv)) (envOfC qual (defScope st) s.heap.objs.size f cdv) (cxOf (L2.CX P w) P w K mg base N qual (defScope st) f cdv A outer s H E).xe :=
    passes_of (X := cxOf (L2.CX P w) P w K mg base N qual (defScope st) f cdv A outer s H E) rfl
  refine ⟨_, hb cdv A outer s H E ⟨⟨hT.symm, tk, by have := hr.un; show (A.deeper _).units + 200 < _; omega⟩, rfl, rfl, rfl, rfl, rfl, hr, po⟩, ?_⟩
  obtain ⟨_, g, S, ds, a, k', dx, fl, fv, vs', rfl, rs, rd, sl, hk, p⟩ := h
  have en : EnvR T (L2.del H a) g H (startI N.length ds) (L2.start N (.ref a :: vs')) := by
    rw [start_cons hN]
    refine EnvR.cons ?_ _
    have q := EnvR.start (H0 := L2.del H a) (N := N.tail) rd
    rw [List.length_tail] at q
    exact q
  have dn : ∀ {b : Addr} {o : HO}, L2.del H a b = some o → b ≠ a ∧ H b = some o := fun {b o} z => by
    by_cases hb : b = a
    · rw [hb, del_same] at z
      cases z
    · rw [del_ne hb] at z
      exact ⟨hb, z⟩
  have ex : Ext g (L2.del H a) g H := ⟨⟨[], by simp⟩, fun b o z => ⟨o, (dn z).2⟩, fun b o z => Iff.rfl, fun b o z n => ⟨(dn z).2, n⟩⟩
  have back : ∀ {g' : Gh} {H' : Hp}, Ext g (L2.del H a) g' H' → (∃ o, H' a = some o) → (g'.L a) → ExtB a g H g' H' := fun {g' H'} x h1 h2 => by
    have up : ∀ {b : Addr} {o : HO}, H b = some o → b ≠ a → L2.del H a b = some o := fun {b o} z n => by rw [del_ne n]; exact z
    refine ⟨x.pre, fun b o z => ?_, fun b o z => ?_, fun b o z n nb => x.kp b o (up z nb) n⟩
    · by_cases hb : b = a
      · rw [hb]
        exact h1
      · exact x.trk b o (up z hb)
    · by_cases hb : b = a
      · rw [hb]
        exact ⟨fun _ => sl.liv, fun _ => h2⟩
      · exact x.liv b o (up z hb)
  refine ⟨g, L2.del H a, ⟨fun _ _ => False, []⟩, g, S, startI N.length ds, a, k', dx, fl, fv, ⟨ex, rs, en, fun _ _ z => z.elim, ⟨g.io, rfl⟩, fun b o z => (hl b o z).elim⟩, ⟨by rw [start_cons hN]; rfl, startI_no, del_same⟩, sl, hk, ?_⟩
  unfold runI at p
  cases q : m (startI N.length ds) fl S with
  | ok fl' S' =>
    rw [q] at p
    exact fun g' H' fv' fr' sl' => p g' H' fv' (back fr'.ext ⟨_, sl'.obj⟩ sl'.liv) fr'.st sl'
  | ex x S' =>
    rw [q] at p
    exact fun g' H' cls d fr' sl' rx => p g' H' cls d (back fr'.ext sl'.1 sl'.2) fr'.st rx
  | bad =>
    rw [q] at p
    exact p.elim
theorem ExtB.fix {g' : Gh} {H' : Hp} (x : ExtB a g H g' H') (r : RelS T g S H) (hl : g.L a) : Fix g H g' H' :=
  ⟨x.pre, fun b o h n => ⟨(x.kp b o h (fun z => n (r.liv b z)) fun z => n (z ▸ hl)).1, fun z => n ((x.liv b o h).mp z)⟩⟩
theorem FR.onB {g' : Gh} {H' : Hp} {S' : Store} (fr : FR T g0 H0 c g H S ds σ) (x : ExtB a g H g' H') (rs : RelS T g' S' H') (h0 : H0 a = none) (no : ∀ (i : Nat) (so : SO), ds[i]? ≠ some (some (.ow so))) (hl : g.L a) : FR T g0 H0 c g' H' S' ds σ := by
  have fx : Fix g H g' H' := x.fix fr.st hl
  have ne : ∀ {b : Addr} {o : HO}, H0 b = some o → b ≠ a := fun {b o} z y => by
    rw [y, h0] at z
    cases z
  refine ⟨⟨?_, fun b o z => ?_, fun b o z => ?_, fun b o z n => ?_⟩, rs, ⟨fr.env.len, fun i d h => ?_, fun i so h => (no i so h).elim, fr.env.ne, fr.env.xc⟩, fun b o h => fx.kp b o (fr.fz b o h).1 (fr.fz b o h).2, ?_, fun b o h => fx.kp b o (fr.ln b o h).1 (fr.ln b o h).2⟩
  · obtain ⟨t, e⟩ := fr.ext.pre
    obtain ⟨u, e'⟩ := x.pre
    exact ⟨t ++ u, by rw [e', e, List.append_assoc]⟩
  · obtain ⟨o', z'⟩ := fr.ext.trk b o z
    exact x.trk b o' z'
  · obtain ⟨o', z'⟩ := fr.ext.trk b o z
    exact (x.liv b o' z').trans (fr.ext.liv b o z)
  · obtain ⟨h1, n1⟩ := fr.ext.kp b o z n
    exact x.kp b o h1 n1 (ne z)
  · obtain ⟨v, hv, rv⟩ := fr.env.fz i d h
    exact ⟨v, hv, rv.fix fx⟩
  · obtain ⟨t, e⟩ := fr.io
    obtain ⟨u, e'⟩ := x.pre
    exact ⟨t ++ u, by rw [e', e, List.append_assoc]⟩
/-- an __init__'s promise -/
structure Ini (P : Program) (w : World) (K : PySem.W.Frag) (mg : Str → Option Value) (base : Heap) (T : Tx) (j : Nat) (f : Addr) (np : Nat) (ok : Nat → Bool) (m : FnI) : Prop where
  ex : ∃ (fd : FuncData) (ps : List Str), ps.length = np + 1 ∧ Binds K fd ps [] ∧ FnOk P w K mg base (L2.CX P w) j f fd ps (spI T np ok m)
theorem Ini.mono {P : Program} {w : World} {K : PySem.W.Frag} {mg : Str → Option Value} {base : Heap} {i j : Nat} {f : Addr} {np : Nat} {m : FnI} (d : Ini P w K mg base T i f np ok m) (h : i ≤ j) : Ini P w K mg base T j f np ok m := by
  obtain ⟨fd, ps, h1, h2, h3⟩ := d.ex
  exact ⟨fd, ps, h1, h2, h3.mono h⟩
/-- the class above: its __init__ on self -/
structure Sup (P : Program) (w : World) (K : PySem.W.Frag) (mg : Str → Option Value) (base : Heap) (T : Tx) (j : Nat) (x : Str) (np : Nat) (ok : Nat → Bool) (m : FnI) : Prop where
  ex : ∃ (C f : Addr), mg x = some (.ref C) ∧ ClA K C "__init__" f ∧ Ini P w K mg base T j f np ok m
theorem Sup.mono {P : Program} {w : World} {K : PySem.W.Frag} {mg : Str → Option Value} {base : Heap} {i j : Nat} {x : Str} {np : Nat} {m : FnI} (d : Sup P w K mg base T i x np ok m) (h : i ≤ j) : Sup P w K mg base T j x np ok m := by
  obtain ⟨C, f, h1, h2, h3⟩ := d.ex
  exact ⟨C, f, h1, h2, h3.mono h⟩
theorem jn_base {P : Program} {w : World} {mg : Str → Option Value} {base : Heap} {j np : Nat} {x y : Str} {ok' : Nat → Bool} {m : FnI} {p apos p0 pos' : Pos} {es : List Expr} {pl : Sem Bool} {fs : Env → M (List D)} (B : Bd T mg P w base j Wx X) (U : Sup P w T.K mg base T j x np ok' m) (hok : ∀ k, ok k = true → ok' k = true)
    (hg : Gl X x) (hN : X.N[0]? = some y) (hv : Vis X.env.scope y) (ha : JA T Wx X es fs) (hlen : ∀ ds S args S', fs ds S = .ok args S' → args.length = np) (hd : (y == ("__debug__" : Str)) = false := by decide) (hcd : (y == ("__classdict__" : Str)) = false := by decide) (hdb : (x == ("__debug__" : Str)) = false := by decide)
    (hs : starEach (.Name y p0 :: es) X.env = (false, eval (.Name y p0) X.env) :: starEach es X.env := by rfl) (hp : (backTo pos' (starEach es X.env)).any (·.1) = false := by rfl)
    (ht : eval (.Call (.Attribute (.Name x p) "__init__" apos) (.Name y p0 :: es) [] pos') X.env = (do
      let ov ← eval (.Name x p) X.env; standAt apos.atName; let (f, first) ← holding [ov] (getMethod ov "__init__" pl); callWith pos' f first (backTo pos' (starEach (.Name y p0 :: es) X.env)) (backToKw pos' (keywordEach [] X.env))) := by rfl)
    (hw : swapsWith (.Call (.Attribute (.Name x p) "__init__" apos) (.Name y p0 :: es) [] pos') none pos.line X.env = pure false := by rfl) :
    JN T Wx ok X (.Expr (.Call (.Attribute (.Name x p) "__init__" apos) (.Name y p0 :: es) [] pos') pos) (iBase m fs) := by
  obtain ⟨C, f, h1, A, ⟨fd, ps, h3, h4, h5⟩⟩ := U.ex
  have hK := B.hK
  have hF : FnOk X.prog X.w X.K X.mg X.base (L2.CX X.prog X.w) j f fd ps (spI T np ok' m) := by rw [B.prog, B.wo, hK, B.mg, B.ba]; exact h5
  refine PS.imp (ps_expr (pe_cl1 (E := fun σ => WE Wx σ) (pl := pl) hg (by rw [B.mg]; exact h1) (hK.symm ▸ A) hF B.rm (hK.symm ▸ h4) (pa_cons (pe_var (i := 0) hN hv hd hcd) ha hs) (fun σ => passAt B.tk σ) hdb hs hp ht) hw) fun D' σ H ⟨g0, H0, c, g, S, ds, a, k, dx, fl, fv, fr, s0, sl, hk, p⟩ => ?_
  refine ⟨.ref a, s0.1, ?_⟩
  refine tG.ini (r := RA T) fr sl p fun args S1 g1 H1 vs ha1 e1 fr1 rv p1 => ?_
  have sl1 := sl.on e1 fr.st
  have hl : vs.length = np := by
    rw [← rv.length]
    exact hlen ds S args S1 ha1
  refine ⟨by rw [List.length_cons, hl], g1, S1, args, a, k, dx, fl, fv, vs, rfl, fr1.st, rv, sl1, hok k hk, ?_⟩
  cases q : m args fl S1 with
  | ok fl' S' =>
    rw [q] at p1
    exact fun g' H' fv' xb rs' sl' => p1 g' H' fv' (fr1.onB xb rs' s0.2.2 s0.2.1 sl1.liv) sl'
  | ex x S' =>
    rw [q] at p1
    exact fun g' H' cls d xb rs' rx => p1 g' H' cls d (fr1.onB xb rs' s0.2.2 s0.2.1 sl1.liv) ⟨xb.trk a _ sl1.obj, (xb.liv a _ sl1.obj).mpr sl1.liv⟩ rx
  | bad =>
    rw [q] at p1
    exact p1
/-! ### C(..) -/
def tMk (C : Addr) (sp : Sp) (E : L2.St → XK) (t : TA) : TE := fun σ H Q => t σ H fun vs H1 => ∀ x dx, H1 x = none → H1 dx = none → dx ≠ x → sp (.ref x :: vs) (upd (upd H1 dx (.own x)) x (.ins C dx [])) (fun v H2 => v = .non ∧ Q (.ref x) H2) (E σ)
theorem run_mk {CX : CXT} {k : Nat} {f : Addr} {fd : FuncData} {ps : List Str} {sp : Sp} {E : XK} {pins : List (Addr × Obj)} {s : Shared} {Q : VK} {us : List Value} {vs : List V} (M : L2.Mk X.K C f) (F : FnOk X.prog X.w X.K X.mg X.base CX k f fd ps sp) (hr : Room (k + 1) X.A) (hb : Binds X.K fd ps [])
    (hx : PassesAt CX X σ E) (I : Inv X pins σ H s) (r : Vals vs us) (h : ∀ x dx, H x = none → H dx = none → dx ≠ x → sp (.ref x :: vs) (upd (upd H dx (.own x)) x (.ins C dx [])) (fun v H2 => v = .non ∧ Q (.ref x) H2) E) :
    wpAny (model X.prog X.w) X.A (call (.ref C) us) (EP X pins σ Q) X.xe s := by
  obtain ⟨z, hz⟩ : ∃ z, z = s.heap.objs.size := ⟨_, rfl⟩
  have q := h (z + 1) z (I.hok.fresh (by rw [hz]; exact Nat.le_succ _)) (I.hok.fresh (by rw [hz]; exact Nat.le_refl _)) (Nat.ne_of_lt (Nat.lt_succ_self z))
  have J := Inv.made (C := C) I
  rw [← hz] at J
  have rr : Vals (V.ref (z + 1) :: vs) (Value.ref (z + 1) :: us) := .cons rfl r
  have hl : (Value.ref (z + 1) :: us ++ []).length = ps.length := by
    rw [List.append_nil, ← rr.length]
    exact F.len _ _ _ _ q
  have bd := hb _ (Value.ref (z + 1) :: us) J.kIn hl
  rw [List.append_nil] at bd
  have run := F.run _ X.stack _ _ ⟨Value.ref (z + 1) :: us, []⟩ (Value.ref (z + 1) :: us) _ _ E (hr.make C us []) (J.env0.make C us []) bd rr q
  subst hz
  refine wpAny_call (make_map (f := f) I.kIn M.makes M.init (beq_iff_eq.mp M.fn) (codeAny_mono run fun r s' hq => ?_))
  cases r with
  | error e => exact hx pins _ _ e s' J hq
  | ok fl =>
    cases fl with
    | ret u =>
      obtain ⟨v, H', I3, rv, ev, q3⟩ := J.after hq
      subst ev
      exact ⟨rv, ⟨.ref (s.heap.objs.size + 1), H', I3, rfl, q3⟩⟩
    | next => exact hq.elim
    | brk => exact hq.elim
    | cont => exact hq.elim
theorem pe_mk1 {x : Str} {f : Addr} {fd : FuncData} {ps : List Str} {sp : Sp} {j : Nat} {E : L2.St → XK} {t : TA} {p : Pos} {es : List Expr} (M : L2.Mk X.K C f) (F : FnOk X.prog X.w X.K X.mg X.base (L2.CX X.prog X.w) j f fd ps sp) (hr : Room (j + 1) X.A) (hb : Binds X.K fd ps []) (hg : Gl X x) (hm : X.mg x = some (.ref C))
    (ha : PA X (e :: es) t) (hx : ∀ σ, PassesAt (L2.CX X.prog X.w) X σ (E σ)) (hdb : (x == ("__debug__" : Str)) = false)
    (hs : starEach (e :: es) X.env = (false, eval e X.env) :: starEach es X.env) (hp : (backTo pos (starEach es X.env)).any (·.1) = false) : PE X (.Call (.Name x p) (e :: es) [] pos) (tMk C sp E t) := by
  constructor
  intro pins s σ H Q I h
  have kin : PySem.W.Frag.In X.K X.base := I.ok.mod.kin
  refine wpAny_Call_Name_kw (ld_glob I hg hm ?_ hdb)
  refine PySem.W.callWith_K (h₀ := X.base) kin M.kp (thn (ha.run pos pins s σ H _ I h) ?_) hs hp
  rintro us s1 ⟨vs, H1, I1, r, q⟩
  exact ⟨I1.kIn, run_mk M F hr hb (hx σ) I1 r q⟩
/-- a new thing of ours, not told what it is -/
theorem alloc_lv (rs : RelS T g S H) {p : Addr} (hp : H p = none) (ho : HO) : ∃ g', Ext g H g' (L2.upd H p ho) ∧ RelS T g' S (L2.upd H p ho) ∧ g'.L p ∧ p ∉ g'.io := by
  have ne : ∀ {b : Addr} {u : HO}, H b = some u → b ≠ p := fun {b u} h z => by
    rw [z, hp] at h
    cases h
  have nio : p ∉ g.io := fresh_io rs hp
  have fx : Fix g H ⟨g.io, fun b => g.L b ∨ b = p⟩ (L2.upd H p ho) := ⟨⟨[], by simp⟩, fun b u h n => ⟨by rw [upd_ne (ne h)]; exact h, fun z => z.elim n (ne h)⟩⟩
  refine ⟨⟨g.io, fun b => g.L b ∨ b = p⟩, ⟨⟨[], by simp⟩, fun b u h => ⟨u, by rw [upd_ne (ne h)]; exact h⟩, fun b u h => ⟨fun z => z.elim id fun q => (ne h q).elim, fun z => .inl z⟩, fun b u h n => ⟨by rw [upd_ne (ne h)]; exact h, n⟩⟩,
    ⟨rs.len, rs.nd, fun b hb => .inl (rs.liv b hb), fun n o b h1 h2 => ?_⟩, .inr rfl, nio⟩
  obtain ⟨ho', h3, p'⟩ := rs.obj n o b h1 h2
  exact ⟨ho', by rw [upd_ne (ne h3)]; exact h3, p'.fix fx⟩
/-- a class that is made by its name -/
structure Mkd (P : Program) (w : World) (K : PySem.W.Frag) (mg : Str → Option Value) (base : Heap) (T : Tx) (j : Nat) (x : Str) (k np : Nat) (m : FnI) : Prop where
  ex : ∃ (f : Addr) (ok : Nat → Bool), mg x = some (.ref (T.cls k)) ∧ L2.Mk K (T.cls k) f ∧ ok k = true ∧ Ini P w K mg base T j f np ok m
theorem Mkd.mono {P : Program} {w : World} {K : PySem.W.Frag} {mg : Str → Option Value} {base : Heap} {i j : Nat} {x : Str} {k np : Nat} {m : FnI} (d : Mkd P w K mg base T i x k np m) (h : i ≤ j) : Mkd P w K mg base T j x k np m := by
  obtain ⟨f, ok, h1, h2, h3, h4⟩ := d.ex
  exact ⟨f, ok, h1, h2, h3, h4.mono h⟩
def mkO (k : Nat) : R (List (Str × D)) → R Wv
  | .ok fl S => .ok (.ow (.ins k fl)) S
  | .ex x S => .ex x S
  | .bad => .bad
def cMk (k : Nat) (m : FnI) (fs : Env → M (List D)) : CE := fun ds S => bindR (fs ds S) fun args S => mkO k (m args [] S)
theorem je_mk {P : Program} {w : World} {mg : Str → Option Value} {base : Heap} {j : Nat} {x : Str} {k np : Nat} {m : FnI} {p : Pos} {es : List Expr} {fs : Env → M (List D)} (B : Bd T mg P w base (j + 1) Wx X) (U : Mkd P w T.K mg base T j x k np m) (hg : Gl X x) (ha : JA T Wx X (e :: es) fs)
    (hlen : ∀ ds S args S', fs ds S = .ok args S' → args.length = np) (hdb : (x == ("__debug__" : Str)) = false := by decide)
    (hs : starEach (e :: es) X.env = (false, eval e X.env) :: starEach es X.env := by rfl) (hp : (backTo pos (starEach es X.env)).any (·.1) = false := by rfl) : JE T Wx X (.Call (.Name x p) (e :: es) [] pos) (cMk k m fs) := by
  obtain ⟨f, ok, h1, h2, h3, ⟨fd, ps, h4, h5, h6⟩⟩ := U.ex
  have hK := B.hK
  have hF : FnOk X.prog X.w X.K X.mg X.base (L2.CX X.prog X.w) j f fd ps (spI T np ok m) := by rw [B.prog, B.wo, hK, B.mg, B.ba]; exact h6
  refine PE.imp (pe_mk1 (E := fun σ => WE Wx σ) (hK.symm ▸ h2) hF B.rm (hK.symm ▸ h5) hg (by rw [B.mg]; exact h1) ha (fun σ => passAt B.tk σ) hdb hs hp) fun σ H Q ⟨g0, H0, c, g, S, ds, fr, p⟩ => ?_
  refine ⟨g0, H0, c, g, S, ds, fr, ?_⟩
  unfold cMk at p
  cases q : fs ds S with
  | ex x1 S1 =>
    rw [q] at p
    exact p
  | bad =>
    rw [q] at p
    exact p
  | ok args S1 =>
    rw [q] at p
    intro g1 H1 vs e1 rs rv a dx ha hdx ne
    have p2 : PostG T Wx (RW T H1) g1 H1 σ Q (mkO k (m args [] S1)) := PostG.from mono_w e1 p
    obtain ⟨g2, x2, rs2, _, _⟩ := alloc_lv rs hdx (.own a)
    obtain ⟨g3, x3, rs3, hL, hio⟩ := alloc_lv rs2 (p := a) (by rw [upd_ne (Ne.symm ne)]; exact ha) (.ins (T.cls k) dx [])
    have x13 := x2.trans x3
    refine ⟨by rw [List.length_cons, ← rv.length, hlen ds S args S1 q], g3, S1, args, a, k, dx, [], [], vs, rfl, rs3, Reps.fix (x13.fix rs) rv, ⟨hL, hio, upd_same, .nil⟩, h3, ?_⟩
    have toE : ∀ {g' : Gh} {H' : Hp}, ExtB a g3 (upd (upd H1 dx (.own a)) a (.ins (T.cls k) dx [])) g' H' → Ext g1 H1 g' H' := fun {g' H'} xb => by
      have na : ∀ {b : Addr} {o : HO}, H1 b = some o → b ≠ a := fun {b o} z y => by
        rw [y, ha] at z
        cases z
      refine ⟨?_, fun b o z => ?_, fun b o z => ?_, fun b o z n => ?_⟩
      · obtain ⟨t, e⟩ := x13.pre
        obtain ⟨u, e'⟩ := xb.pre
        exact ⟨t ++ u, by rw [e', e, List.append_assoc]⟩
      · obtain ⟨o', z'⟩ := x13.trk b o z
        exact xb.trk b o' z'
      · obtain ⟨o', z'⟩ := x13.trk b o z
        exact (xb.liv b o' z').trans (x13.liv b o z)
      · obtain ⟨h1, n1⟩ := x13.kp b o z n
        exact xb.kp b o h1 n1 (na z)
    cases q2 : m args [] S1 with
    | ok fl S2 =>
      rw [q2] at p2
      exact fun g' H' fv xb rs' sl => ⟨rfl, p2 g' H' _ (toE xb) rs' ⟨a, rfl, ha, sl.liv, sl.nio, _, sl.obj, .ins sl.rep⟩⟩
    | ex x2 S2 =>
      rw [q2] at p2
      exact fun g' H' cls d xb rs' rx => p2 g' H' cls d (toE xb) rs' rx
    | bad =>
      rw [q2] at p2
      exact p2
end
end Mir
set_option Elab.async false
set_option linter.all false
set_option maxRecDepth 100000
/-! Mir18: methods and classes from the text's facts. -/
namespace Mir
open PySem PySem.Spec PyProof.Rows L2
/-- the j-th statement of a class's body -/
def clsStmt (st : Stmt) (j : Nat) : Stmt := match st with
  | .ClassDef _ _ _ body _ _ _ _ _ _ _ => body.getD j (.Pass ⟨0, 0, 0, 0⟩)
  | _ => .Pass ⟨0, 0, 0, 0⟩
/-- the class at C has the method m, a def of the text -/
def MethFact (K : PySem.W.Frag) (C : Addr) (m qual : Str) (st : Stmt) : Prop := ∃ f fd, Meth K C m f ∧ Fun K m qual st f fd
theorem meth_fact {K : PySem.W.Frag} {C : Addr} {m qual : Str} {st : Stmt} {f : Addr} {oc : Value} {od an : Option Addr} {osl : Array (Option Value)} {kV doc pm cdv ct : Value} (a : PySem.W.findIn K (.ref C) m = some (some (.ref f))) (b : PySem.W.isFn K (.ref f) = true)
    (l : K.lookup f = some ⟨oc, od, .func (PySem.W.fnOf m qual (defArgs st) (defBody st) (defScope st) .none kV doc pm an cdv ct), osl⟩)
    (c : PySem.W.codeIn K cdv qual = true) (k : PySem.W.keepIn K (.ref f) = true) : MethFact K C m qual st := ⟨_, _, ⟨a, b, k⟩, fun_mk l c k⟩
theorem mt_mk {P : Program} {w : World} {K : PySem.W.Frag} {mg : Str → Option Value} {base : Heap} {m qual : Str} {st : Stmt} {N ps : List Str} {j k : Nat} {body : CS} {T : Tx} (hT : T.K = K) (hl : ∀ a o, ¬ T.lean a o) (cl : Cls K (T.cls k)) (F : MethFact K (T.cls k) m qual st) (Sc : FnScope N ps (defScope st))
    (hbi : ∀ (kV doc pm : Value) (an : Option Addr) (cdv ct : Value) (us : List Value), us.length = ps.length → bindArgs (PySem.W.fnOf m qual (defArgs st) (defBody st) (defScope st) .none kV doc pm an cdv ct) ⟨us, []⟩ = pure (ps.zip us))
    (hb : ∀ (f : Addr) (cdv : Value) (A : Around) (outer : List PySem.Env) (s : Shared) (H : Hp) (E : XK), Bd T mg P w base j (fun cls d _ H => E cls d H) (cxOf (L2.CX P w) P w K mg base N qual (defScope st) f cdv A outer s H E) →
      JSs T (fun cls d _ H => E cls d H) (cxOf (L2.CX P w) P w K mg base N qual (defScope st) f cdv A outer s H E) (defBody st) body) :
    Mt P w T.K mg base T (j + 1) k m ps.length (runF N.length body) := by
  obtain ⟨f, fd, a, F⟩ := F
  rw [hT]
  exact ⟨f, fd, ps, cl, a, rfl, F.binds hbi, fn_ok F Sc hT hl (hb f)⟩
/-- __init__ of the class at C -/
def InitFact (K : PySem.W.Frag) (C : Addr) (qual : Str) (st : Stmt) : Prop := ∃ f fd, L2.Mk K C f ∧ Fun K "__init__" qual st f fd
theorem init_fact {K : PySem.W.Frag} {C : Addr} {qual : Str} {st : Stmt} {f : Addr} {oc : Value} {od an : Option Addr} {osl : Array (Option Value)} {kV doc pm cdv ct : Value} (m : PySem.W.makesIn K C = true) (a : PySem.W.findIn K (.ref C) "__init__" = some (some (.ref f))) (b : PySem.W.isFn K (.ref f) = true) (kc : PySem.W.keepIn K (.ref C) = true)
    (l : K.lookup f = some ⟨oc, od, .func (PySem.W.fnOf "__init__" qual (defArgs st) (defBody st) (defScope st) .none kV doc pm an cdv ct), osl⟩)
    (c : PySem.W.codeIn K cdv qual = true) (k : PySem.W.keepIn K (.ref f) = true) : InitFact K C qual st := ⟨_, _, ⟨m, a, b, kc⟩, fun_mk l c k⟩
theorem mkd_mk {P : Program} {w : World} {K : PySem.W.Frag} {mg : Str → Option Value} {base : Heap} {x qual : Str} {st : Stmt} {N ps : List Str} {j k np : Nat} {ok : Nat → Bool} {body : CI} {T : Tx} (hT : T.K = K) (hl : ∀ a o, ¬ T.lean a o) (hm : mg x = some (.ref (T.cls k))) (F : InitFact K (T.cls k) qual st) (Sc : FnScope N ps (defScope st)) (hps : ps.length = np + 1) (hN : 0 < N.length) (hok : ok k = true)
    (hbi : ∀ (kV doc pm : Value) (an : Option Addr) (cdv ct : Value) (us : List Value), us.length = ps.length → bindArgs (PySem.W.fnOf "__init__" qual (defArgs st) (defBody st) (defScope st) .none kV doc pm an cdv ct) ⟨us, []⟩ = pure (ps.zip us))
    (hb : ∀ (f : Addr) (cdv : Value) (A : Around) (outer : List PySem.Env) (s : Shared) (H : Hp) (E : XK), Bd T mg P w base j (fun cls d _ H => E cls d H) (cxOf (L2.CX P w) P w K mg base N qual (defScope st) f cdv A outer s H E) →
      JNs T (fun cls d _ H => E cls d H) ok (cxOf (L2.CX P w) P w K mg base N qual (defScope st) f cdv A outer s H E) (defBody st) body) :
    Mkd P w T.K mg base T (j + 1) x k np (runI N.length body) := by
  obtain ⟨f, fd, a, F⟩ := F
  rw [hT]
  exact ⟨f, ok, hm, a, hok, ⟨fd, ps, hps, F.binds hbi, init_ok F Sc hT hl hps hN (hb f)⟩⟩
end Mir
namespace Mir
open PySem PySem.Spec PyProof.Rows L2
theorem fld_nil {T : Tx} {f : Str} : FldF T f [] := ⟨fun _ h => nomatch h⟩
theorem fld_cons {T : Tx} {f : Str} {k : Nat} {cs : List Nat} (h : Cls T.K (T.cls k) ∧ NoAttr T.K (T.cls k) f) (r : FldF T f cs) : FldF T f (k :: cs) := ⟨fun j hj => by
  rcases List.mem_cons.mp hj with rfl | hj
  · exact h
  · exact r.at_ j hj⟩
theorem okc_nil {p : Nat → Prop} : ∀ k, (fun k => ([] : List Nat).contains k) k = true → p k := fun k h => by simp at h
theorem okc_cons {p : Nat → Prop} {k : Nat} {cs : List Nat} (h : p k) (r : ∀ k, (fun k => cs.contains k) k = true → p k) : ∀ j, (fun j => (k :: cs).contains j) j = true → p j := fun j hj => by
  have q : j ∈ k :: cs := by simpa using hj
  rcases List.mem_cons.mp q with rfl | q
  · exact h
  · exact r j (by simpa using q)
end Mir
set_option Elab.async false
set_option linter.all false
set_option maxRecDepth 100000
/-! Mir19: zip, all, abs, sorted of ints and of tuples of ints. -/
namespace Mir
open PySem PySem.Spec PyProof.Rows L2
section
variable {T : Tx} {Wx : WX} {X : Cx} {e e2 o : Expr} {g g0 g1 : Gh} {H H0 H1 : Hp} {c : Chk} {S S1 : Store} {ds : Env} {σ : SV} {pos : Pos} {f1 : CE}
/-! ### zip of two lists -/
def seqD : D → Option (List D)
  | .lst xs => some xs
  | .scr ns => some (ns.map D.int)
  | _ => none
def zipD (xs ys : List D) : List D := List.zipWith (fun x y => D.tup [x, y]) xs ys
def zipO : List D → Store → R (List D)
  | [a, b], S => match seqD a, seqD b with
    | some xs, some ys => .ok (zipD xs ys) S
    | _, _ => .bad
  | _, _ => .bad
def cZip (fs : Env → M (List D)) : Env → M (List D) := fun ds S => bindR (fs ds S) fun xs S => zipO xs S
theorem seqD_ok {d : D} {v : V} {xs : List D} (r : Rep T g H d v) (h : seqD d = some xs) : ∃ a vs, v = .ref a ∧ Reps T g H xs vs ∧ ∀ g' H', Held (Chk.now g H) g' H' → SqL T.K H' a vs := by
  cases d with
  | lst ys =>
    cases h
    cases r with
    | lst h1 n1 h2 => exact ⟨_, _, rfl, h2, fun g' H' hh => SqL.of (hh.1 _ _ ⟨h1, n1⟩).1⟩
  | scr ns =>
    cases h
    cases r with
    | scr h1 => exact ⟨_, _, rfl, reps_ints ns, fun g' H' hh => FzL.sq ((Chk.now_fix hh).fzl h1)⟩
  | _ => cases h
theorem iter_zip {a b : Addr} {vs ws : List V} {xs ys : List D} (hs1 : ∀ g' H', Held (Chk.now g H) g' H' → SqL T.K H' a vs) (hs2 : ∀ g' H', Held (Chk.now g H) g' H' → SqL T.K H' b ws) (r1 : Reps T g H xs vs) (r2 : Reps T g H ys ws) : IterOk T (Itz T.K a b) (zipD xs ys) (Chk.now g H) := by
  have hl : (zipD xs ys).length = min xs.length ys.length := by
    unfold zipD
    rw [List.length_zipWith]
  refine ⟨fun i g' H' S hi hh _ => ?_, fun g' H' S hh _ => ?_, fun i d g' H' S x H2 hd hh rs hy => ?_⟩
  · rw [hl] at hi
    obtain ⟨v, hv, _⟩ := r1.get (List.getElem?_eq_getElem (show i < xs.length by omega))
    obtain ⟨w, hw, _⟩ := r2.get (List.getElem?_eq_getElem (show i < ys.length by omega))
    exact ⟨vs, ws, v, w, hs1 g' H' hh, hs2 g' H' hh, hv, hw⟩
  · refine ⟨vs, ws, hs1 g' H' hh, hs2 g' H' hh, ?_⟩
    rw [← r1.length, ← r2.length, hl]
    omega
  · obtain ⟨q, x1, y1, rfl, hq, rfl, e1, e2⟩ := hy
    unfold zipD at hd
    rw [List.getElem?_zipWith] at hd
    cases p1 : xs[i]? with
    | none =>
      rw [p1] at hd
      cases hd
    | some dx =>
      cases p2 : ys[i]? with
      | none =>
        rw [p1, p2] at hd
        cases hd
      | some dy =>
        rw [p1, p2] at hd
        cases hd
        obtain ⟨v, hv, rv⟩ := r1.get p1
        obtain ⟨w, hw, rw'⟩ := r2.get p2
        have z1 := e1 vs (hs1 g' H' hh)
        have z2 := e2 ws (hs2 g' H' hh)
        rw [hv] at z1
        rw [hw] at z2
        cases z1
        cases z2
        have fx := Chk.now_fix hh
        obtain ⟨g2, x2, rs2, fx2, nl⟩ := alloc_fz rs hq (.tup [x1, y1])
        exact ⟨g2, x2, rs2, .tup upd_same nl (.cons ((rv.fix fx).fix fx2) (.cons ((rw'.fix fx).fix fx2) .nil))⟩
theorem ji_zip {elts : List Expr} {kk : Nat} {tpos p : Pos} {fs : Env → M (List D)} (lv : Lv T Wx X) (hg : Gl X "zip") (hm : X.mg "zip" = none) (ha : JA T Wx X [e, e2] fs)
    (hs : starEach [e, e2] X.env = (false, eval e X.env) :: starEach [e2] X.env := by rfl) (hpl : (backTo pos (starEach [e2] X.env)).any (·.1) = false := by rfl) : JI T Wx X (.Tuple elts kk tpos) (.Call (.Name "zip" p) [e, e2] [] pos) (cZip fs) :=
  PI.imp (pi_zip hg hm ha hs hpl) fun σ H Rr ⟨g0, H0, c, g, S, ds, fr, p⟩ => by
    have hK := lv.hK
    refine tG.iter (r := RA T) fr p fun xs S1 g1 H1 vs hf e1 fr1 rv p1 => ?_
    unfold zipO at p1
    split at p1
    · rename_i a b
      split at p1
      · rename_i xs ys hx hy
        cases rv with
        | cons r1 r2 =>
          cases r2 with
          | cons r2 r3 =>
            cases r3
            obtain ⟨a1, us1, rfl, q1, s1⟩ := seqD_ok r1 hx
            obtain ⟨a2, us2, rfl, q2, s2⟩ := seqD_ok r2 hy
            refine ⟨a1, a2, us1, us2, rfl, hK.symm ▸ s1 _ _ (Chk.now_held _ _), hK.symm ▸ s2 _ _ (Chk.now_held _ _), ?_⟩
            refine p1 g1 H1 _ (Chk.now g1 H1) (Ext.refl _ _) fr1.st (Chk.now_held _ _) fr1.now ?_
            rw [hK]
            exact iter_zip s1 s2 q1 q2
      · exact p1.elim
    · exact p1.elim
/-! ### all, of a list of truths -/
def blsD : List D → Option (List Bool)
  | [] => some []
  | .bl b :: r => match blsD r with
    | some bs => some (b :: bs)
    | none => none
  | _ :: _ => none
theorem blsD_ok : ∀ {xs : List D} {vs : List V} {bs : List Bool}, Reps T g H xs vs → blsD xs = some bs → vs = bs.map V.bl
  | [], _, _, .nil, h => by
    cases h
    rfl
  | .bl b :: r, _, _, .cons rb rr, h => by
    unfold blsD at h
    split at h
    · rename_i bs' hb
      cases h
      cases rb
      rw [blsD_ok rr hb]
      rfl
    · cases h
def bAll : List Wv → M Wv := fun ws S => match ws with
  | [w] => match viewR S w with
    | some xs => match blsD xs with
      | some bs => .ok (.fz (.bl (bs.all id))) S
      | none => .bad
    | none => .bad
  | _ => .bad
theorem v_all : VC T Wx (rAll T.K) bAll := by
  intro g H S σ ws vs Q rs rv p
  unfold bAll at p
  split at p
  · cases rv with
    | cons r1 r2 =>
      cases r2
      split at p
      · rename_i xs hx
        split at p
        · rename_i bs hb
          obtain ⟨a, us, rfl, h1, r⟩ := viewR_ok rs r1 hx
          rw [blsD_ok r hb] at h1
          exact ⟨a, bs, rfl, h1, PostG.now (r := RW T H) p rs (.bl _)⟩
        · exact p.elim
      · exact p.elim
  · exact p.elim
def bAbs : List Wv → M Wv := fun ws S => match ws with
  | [.fz (.int i)] => .ok (.fz (.int (if i < 0 then -i else i))) S
  | _ => .bad
theorem v_abs : VC T Wx (fun xs H Q => ∃ i, xs = [.int i] ∧ Q (.int (if i < 0 then -i else i)) H) bAbs := by
  intro g H S σ ws vs Q rs rv p
  unfold bAbs at p
  split at p
  · rename_i i
    cases rv with
    | cons r1 r2 =>
      cases r2
      cases r1
      exact ⟨i, rfl, PostG.now (r := RW T H) p rs (.int _)⟩
  · exact p.elim
/-! ### sorted -/
theorem bd_inj {B : Int} : ∀ {ns ms : List Int}, ns.length = ms.length → TS.Bd B ns → TS.Bd B ms → TS.code B ns = TS.code B ms → ns = ms
  | [], [], _, _, _, _ => rfl
  | [], _ :: _, h, _, _, _ => by simp at h
  | _ :: _, [], h, _, _, _ => by simp at h
  | a :: r, b :: t, hl, h1, h2, e => by
    have hl' : r.length = t.length := by simpa using hl
    have b1 : TS.Bd B r := fun m hm => h1 m (List.mem_cons_of_mem _ hm)
    have b2 : TS.Bd B t := fun m hm => h2 m (List.mem_cons_of_mem _ hm)
    rcases Int.lt_trichotomy a b with q | q | q
    · have := TS.code_lt hl' b1 b2 q
      omega
    · subst q
      have z1 := TS.code_same (B := B) (d := a) hl'
      have z2 := TS.code_same (B := B) (d := a) hl'.symm
      have : TS.code B r = TS.code B t := by omega
      rw [bd_inj hl' b1 b2 this]
    · have := TS.code_lt hl'.symm b2 b1 q
      omega
abbrev tupD (ns : List Int) : D := .tup (ns.map D.int)
def tupsI : List D → Option (List (List Int))
  | [] => some []
  | .tup xs :: r => match intsD xs, tupsI r with
    | some ns, some nss => some (ns :: nss)
    | _, _ => none
  | _ :: _ => none
theorem intsD_eq : ∀ {xs : List D} {ns : List Int}, intsD xs = some ns → xs = ns.map D.int
  | [], _, h => by
    cases h
    rfl
  | .int i :: r, ns, h => by
    unfold intsD at h
    cases q : intsD r with
    | none =>
      rw [q] at h
      cases h
    | some ms =>
      rw [q] at h
      cases h
      rw [intsD_eq q]
      rfl
theorem tupsI_eq : ∀ {xs : List D} {nss : List (List Int)}, tupsI xs = some nss → xs = nss.map tupD
  | [], _, h => by
    cases h
    rfl
  | .tup xs :: r, nss, h => by
    unfold tupsI at h
    split at h
    · rename_i ns ms h1 h2
      cases h
      rw [intsD_eq h1, tupsI_eq h2]
      rfl
    · cases h
theorem reps_perm {ys vs : List V} (p : ys.Perm vs) : ∀ {nss : List (List Int)}, Reps T g H (nss.map tupD) vs → ∃ mss : List (List Int), mss.Perm nss ∧ Reps T g H (mss.map tupD) ys := by
  induction p with
  | nil => exact fun {nss} r => ⟨nss, .refl _, r⟩
  | cons x _ ih =>
    intro nss r
    cases nss with
    | nil => cases r
    | cons n t =>
      cases r with
      | cons r1 r2 =>
        obtain ⟨m, h1, h2⟩ := ih r2
        exact ⟨n :: m, h1.cons n, .cons r1 h2⟩
  | swap x y l =>
    intro nss r
    cases nss with
    | nil => cases r
    | cons n t =>
      cases t with
      | nil =>
        cases r with
        | cons _ r2 => cases r2
      | cons n' t =>
        cases r with
        | cons r1 r2 =>
          cases r2 with
          | cons r2 r3 => exact ⟨n' :: n :: t, .swap _ _ _, .cons r2 (.cons r1 r3)⟩
  | trans _ _ ih1 ih2 =>
    intro nss r
    obtain ⟨m, h1, h2⟩ := ih2 r
    obtain ⟨m', h3, h4⟩ := ih1 h2
    exact ⟨m', h3.trans h1, h4⟩
theorem reps_vint : ∀ {ns : List Int} {vs : List V}, Reps T g H (ns.map D.int) vs → vs = ns.map V.int
  | [], _, .nil => rfl
  | n :: r, _, .cons h t => by
    cases h
    rw [reps_vint t]
    rfl
theorem rep_tupI {ns : List Int} {v : V} (r : Rep T g H (tupD ns) v) : TupI T.K H v ns := by
  cases r with
  | tup h1 _ h2 =>
    refine ⟨_, rfl, ?_⟩
    rw [← reps_vint h2]
    exact SqT.of h1
theorem pw_reps {B : Int} {nss : List (List Int)} {ys : List V} (r : Reps T g H (nss.map tupD) ys) (h : ys.Pairwise fun x y => ∀ n m, TupI T.K H x n → TupI T.K H y m → TS.code B n ≤ TS.code B m) : nss.Pairwise fun a b => TS.code B a ≤ TS.code B b := by
  induction nss generalizing ys with
  | nil => exact .nil
  | cons n t ih =>
    cases r with
    | cons r1 r2 =>
      obtain ⟨h1, h2⟩ := List.pairwise_cons.mp h
      refine List.pairwise_cons.mpr ⟨fun m hm => ?_, ih r2 h2⟩
      obtain ⟨i, hi⟩ := List.getElem?_of_mem hm
      obtain ⟨y, hy, ry⟩ := r2.get (i := i) (d := tupD m) (by rw [List.getElem?_map, hi]; rfl)
      exact h1 y (List.mem_of_getElem? hy) n m (rep_tupI r1) (rep_tupI ry)
theorem mem_reps {nss : List (List Int)} {vs : List V} (r : Reps T g H (nss.map tupD) vs) : ∀ v ∈ vs, ∃ ns ∈ nss, Rep T g H (tupD ns) v := by
  induction nss generalizing vs with
  | nil =>
    cases r
    exact fun v h => nomatch h
  | cons n t ih =>
    cases r with
    | cons r1 r2 =>
      intro v h
      rcases List.mem_cons.mp h with rfl | h
      · exact ⟨n, List.mem_cons_self, r1⟩
      · obtain ⟨m, h1, h2⟩ := ih r2 v h
        exact ⟨m, List.mem_cons_of_mem _ h1, h2⟩
def sortT (B : Int) (nss : List (List Int)) : List (List Int) := nss.mergeSort fun a b => decide (TS.code B a ≤ TS.code B b)
theorem sortT_perm (B : Int) (nss : List (List Int)) : (sortT B nss).Perm nss := List.mergeSort_perm _ _
theorem sortT_pw (B : Int) (nss : List (List Int)) : (sortT B nss).Pairwise fun a b => TS.code B a ≤ TS.code B b := by
  have q := List.pairwise_mergeSort (le := fun a b => decide (TS.code B a ≤ TS.code B b)) (fun a b c h1 h2 => decide_eq_true (Int.le_trans (of_decide_eq_true h1) (of_decide_eq_true h2))) (fun a b => by
    rcases Int.le_total (TS.code B a) (TS.code B b) with h | h
    · simp [h]
    · simp [h]) nss
  exact q.imp fun h => of_decide_eq_true h
def okTs (d : Nat) (B : Int) (nss : List (List Int)) : Bool := decide (nss.length < 64) && nss.all fun ns => decide (ns.length = d) && ns.all fun m => decide (0 ≤ m) && decide (m < B)
theorem okTs_of {d : Nat} {B : Int} {nss : List (List Int)} (h : okTs d B nss = true) : nss.length < 64 ∧ ∀ ns ∈ nss, ns.length = d ∧ TS.Bd B ns := by
  unfold okTs at h
  rcases Bool.and_eq_true_iff.mp h with ⟨h1, h2⟩
  refine ⟨of_decide_eq_true h1, fun ns hn => ?_⟩
  rcases Bool.and_eq_true_iff.mp (List.all_eq_true.mp h2 ns hn) with ⟨h3, h4⟩
  refine ⟨of_decide_eq_true h3, fun m hm => ?_⟩
  rcases Bool.and_eq_true_iff.mp (List.all_eq_true.mp h4 m hm) with ⟨h5, h6⟩
  exact ⟨of_decide_eq_true h5, of_decide_eq_true h6⟩
def B200 : Int := 2 ^ 200
theorem B200_gt : B200 > 1000000000000000000 := by decide
def bSortT (d : Nat) (B : Int) : List Wv → M Wv := fun ws S => match ws with
  | [w] => match viewR S w with
    | some xs => match tupsI xs with
      | some nss => if okTs d B nss then .ok (.ow (.lst ((sortT B nss).map tupD))) S else .bad
      | none => .bad
    | none => .bad
  | _ => .bad
theorem v_sortT {d : Nat} {B : Int} : VC T Wx (rSortU T.K d B) (bSortT d B) := by
  intro g H S σ ws vs Q rs rv p
  unfold bSortT at p
  split at p
  · cases rv with
    | cons r1 r2 =>
      cases r2
      split at p
      · rename_i xs hx
        split at p
        · rename_i nss hn
          split at p
          · rename_i hk
            obtain ⟨a, us, rfl, h1, r⟩ := viewR_ok rs r1 hx
            obtain ⟨k1, k2⟩ := okTs_of hk
            have exs := tupsI_eq hn
            subst exs
            have hlen : us.length = nss.length := by rw [← r.length, List.length_map]
            refine ⟨a, us, rfl, h1, by rw [hlen]; exact k1, fun x hx => ?_, fun ys q hp hw hq => ?_⟩
            · obtain ⟨ns, m1, m2⟩ := mem_reps r x hx
              exact ⟨ns, rep_tupI m2, k2 ns m1⟩
            · obtain ⟨mss, p1, p2⟩ := reps_perm hp r
              have pw := pw_reps p2 hw
              have e : mss = sortT B nss := List.Perm.eq_of_pairwise (le := fun a b => TS.code B a ≤ TS.code B b) (fun x y hx hy h1 h2 => by
                obtain ⟨l1, b1⟩ := k2 x (p1.mem_iff.mp hx)
                obtain ⟨l2, b2⟩ := k2 y ((sortT_perm B nss).mem_iff.mp hy)
                exact bd_inj (l1.trans l2.symm) b1 b2 (Int.le_antisymm h1 h2)) pw (sortT_pw B nss) (p1.trans (sortT_perm B nss).symm)
              subst e
              obtain ⟨g2, e2, rs2, rw2⟩ := alloc_ow (so := .lst ((sortT B nss).map tupD)) rs hq (ho := .lst ys) fun g' H' fx => .lst (p2.fix fx)
              exact p g2 _ _ e2 rs2 rw2
          · exact p.elim
        · exact p.elim
      · exact p.elim
  · exact p.elim
end
end Mir
namespace Mir
open PySem PySem.Spec PyProof.Rows L2
theorem Bd.crSortT {T : Tx} {mg : Str → Option Value} {P : Program} {w : World} {base : Heap} {k : Nat} {Wx : WX} {X : Cx} (B : Bd T mg P w base k Wx X) {d : Nat} {b : Int} (hd : 1 ≤ d) : CallR X (.builtin "sorted") (rSortU T.K d b) := by
  rw [← B.hK]
  exact cr_sortT hd
end Mir
set_option Elab.async false
set_option linter.all false
set_option maxRecDepth 100000
set_option exponentiation.threshold 100000
/-! MirR: the helpers of the laws of lots: cell, row, lots, are. -/
namespace Mir
open PySem L2
section
variable {S S' : Store} {ds : Env} {w w1 w2 : Wv} {d : D} {fe : CE} {fd : Env → M D} {fs : Env → M (List D)}
/-! rows for what Mir15 .. Mir19 brought -/
@[simp] theorem s_fld {f : Str} {cs : List Nat} : cFld f cs fe ds S = bindR (fe ds S) fun w S => fldO f cs S (insW S w) := rfl
@[simp] theorem s_ins1 {c : Nat} {fl : List (Str × D)} : insW S (.fz (.ins c fl)) = some (c, fl) := rfl
@[simp] theorem s_ins2 {c : Nat} {fl : List (Str × D)} : insW S (.ow (.ins c fl)) = some (c, fl) := rfl
def gotD (o : Option D) (S : Store) : R D := match o with
  | some d => .ok d S
  | none => .bad
@[simp] theorem s_gotD : gotD (some d) S = .ok d S := rfl
@[simp] theorem s_fldO {f : Str} {cs : List Nat} {c : Nat} {fl : List (Str × D)} : fldO f cs S (some (c, fl)) = if cs.contains c then gotD (fl.lookup f) S else .bad := by
  unfold fldO
  dsimp only
  unfold gotD
  cases fl.lookup f <;> rfl
def methO (o : Option Fn) (fs : Env → M (List D)) (d : D) (ds : Env) (S : Store) : R Wv := match o with
  | some fn => bindR (fs ds S) fun args S => fn (d :: args) S
  | none => .bad
@[simp] theorem s_meth {m : Str} {disp : Nat → Option Fn} : cMeth m disp fd fs ds S = bindR (fd ds S) fun d S => methO (dispO m disp (insW S (.fz d))) fs d ds S := by
  unfold cMeth methO
  refine congrArg (bindR (fd ds S)) (funext fun d => funext fun S => ?_)
  cases dispO m disp (insW S (.fz d)) <;> rfl
@[simp] theorem s_methO {fn : Fn} : methO (some fn) fs d ds S = bindR (fs ds S) fun args S => fn (d :: args) S := rfl
@[simp] theorem s_disp {m : Str} {disp : Nat → Option Fn} {c : Nat} {fl : List (Str × D)} : dispO m disp (some (c, fl)) = match fl.lookup m with
  | none => disp c
  | some _ => none := rfl
@[simp] theorem s_tabF1 {c : Nat} {fn : Fn} {l : List (Nat × Fn)} : tabF ((c, fn) :: l) c = some fn := by
  unfold tabF List.lookup
  simp
@[simp] theorem s_mk {c : Nat} {m : FnI} : cMk c m fs ds S = bindR (fs ds S) fun args S => mkO c (m args [] S) := rfl
@[simp] theorem s_mkO {c : Nat} {fl : List (Str × D)} : mkO c (.ok fl S) = .ok (.ow (.ins c fl)) S := rfl
@[simp] theorem s_isO {tst : Nat → Option Bool} : cIsO tst fe ds S = bindR (fe ds S) fun w S => isO tst S (insW S w) := rfl
def isO2 (o : Option Bool) (S : Store) : R Wv := match o with
  | some b => .ok (.fz (.bl b)) S
  | none => .bad
@[simp] theorem s_isO1 {tst : Nat → Option Bool} {c : Nat} {fl : List (Str × D)} : isO tst S (some (c, fl)) = isO2 (tst c) S := by
  unfold isO isO2
  dsimp only <;> (cases tst c <;> rfl)
@[simp] theorem s_isO2 {b : Bool} : isO2 (some b) S = .ok (.fz (.bl b)) S := rfl
@[simp] theorem s_zip : cZip fs ds S = bindR (fs ds S) fun xs S => zipO xs S := rfl
@[simp] theorem s_zipO {xs ys : List D} : zipO [.lst xs, .lst ys] S = .ok (zipD xs ys) S := rfl
@[simp] theorem s_abs {i : Int} : bAbs [.fz (.int i)] S = .ok (.fz (.int (if i < 0 then -i else i))) S := rfl
theorem blsD_map : ∀ bs : List Bool, blsD (bs.map D.bl) = some bs
  | [] => rfl
  | b :: r => by
    rw [List.map_cons, blsD, blsD_map r]
def allO (o : Option (List Bool)) (S : Store) : R Wv := match o with
  | some bs => .ok (.fz (.bl (bs.all id))) S
  | none => .bad
@[simp] theorem s_all1 {xs : List D} : bAll [.ow (.lst xs)] S = allO (blsD xs) S := rfl
@[simp] theorem s_all2 {xs : List D} : bAll [.fz (.lst xs)] S = allO (blsD xs) S := rfl
@[simp] theorem s_allO {bs : List Bool} : allO (some bs) S = .ok (.fz (.bl (bs.all id))) S := rfl
theorem tupsI_map : ∀ nss : List (List Int), tupsI (nss.map tupD) = some nss
  | [] => rfl
  | n :: r => by
    rw [List.map_cons, tupsI, intsD_map, tupsI_map r]
theorem s_sortT {k : Nat} {B : Int} {nss : List (List Int)} (h : okTs k B nss = true) : bSortT k B [.ow (.lst (nss.map tupD))] S = .ok (.ow (.lst ((sortT B nss).map tupD))) S := by
  show (match tupsI (nss.map tupD) with | some nss => if okTs k B nss then _ else _ | none => _) = _
  rw [tupsI_map]
  show (if okTs k B nss = true then _ else _) = _
  rw [if_pos h]
theorem okTs_mk {d : Nat} {B : Int} {nss : List (List Int)} (h1 : nss.length < 64) (h2 : ∀ ns ∈ nss, ns.length = d ∧ ∀ m ∈ ns, 0 ≤ m ∧ m < B) : okTs d B nss = true := by
  unfold okTs
  rw [decide_eq_true h1, Bool.true_and, List.all_eq_true]
  intro ns hn
  obtain ⟨h3, h4⟩ := h2 ns hn
  rw [decide_eq_true h3, Bool.true_and, List.all_eq_true]
  intro m hm
  obtain ⟨h5, h6⟩ := h4 m hm
  rw [decide_eq_true h5, decide_eq_true h6]
  rfl
theorem dVs_ints : ∀ ns : List Int, dVs (ns.map D.int) = some (ns.map V.int)
  | [] => rfl
  | n :: r => by
    rw [List.map_cons, dVs, dVs_ints r]
    rfl
theorem inV_ints (i : Int) : ∀ ns : List Int, inV (.int i) (ns.map V.int) = decide (i ∈ ns)
  | [] => rfl
  | n :: r => by
    have ih := inV_ints i r
    unfold inV at ih ⊢
    rw [List.map_cons, List.any_cons, ih]
    have e : eqV (.int n) (.int i) = decide (n = i) := by
      by_cases h : n = i <;> simp [eqV, h]
    rw [e]
    by_cases h1 : n = i
    · subst h1
      simp
    · have h2 : ¬ i = n := fun z => h1 z.symm
      by_cases h3 : i ∈ r <;> simp [h1, h2, h3]
@[simp] theorem s_inInts {i : Int} {ns : List Int} : inO (dV (.int i)) (dVs (ns.map D.int)) S = .ok (decide (i ∈ ns)) S := by
  rw [dVs_ints]
  show R.ok (inV (.int i) (ns.map V.int)) S = _
  rw [inV_ints]
/-! __init__ -/
variable {fl : List (Str × D)}
@[simp] theorem s_iNil : iNil ds fl S = .ok fl S := rfl
@[simp] theorem s_iSeq {a b : CI} : iSeq a b ds fl S = bindR (a ds fl S) fun fl S => b ds fl S := rfl
@[simp] theorem s_iSet {f : Str} : iSet f fd ds fl S = bindR (fd ds S) fun d S => if fl.length < 1000 then .ok (putN f d fl) S else .bad := rfl
end
end Mir
namespace MirR
open PySem L2 Mir
variable {S : Store}
def m_cell : CS :=
    (cSeq (cIfS (cBin opLt (cBor 1) (cBlt bLen (bCons (cBor 0) bNil)))
      (cRet (cBin opSub2 (cBor 0) (cBor 1)))
      cSkip)
    (cSeq (cIfS (cBin opEq (cBor 0) (cLst cNil))
      (cRet (cUp (cC (.int 0))))
      cSkip)
    (cRet (cBin opMod (cBin opMul (cBin opMod (cBin opMul (cBin opAdd (cBin opSub2 (cBor 0) (cBin opMod (cBor 1) (cBlt bLen (bCons (cBor 0) bNil)))) (cBor 1)) (cUp (cC (.int 48271)))) (cUp (cC (.int 2147483647)))) (cUp (cC (.int 69621)))) (cUp (cC (.int 2147483629)))))))
def f_cell : Fn := runF 2 m_cell
def cel (ns : List Int) (k : Nat) : Int := if k < ns.length then MirC.cl ns k else if ns = [] then 0 else (MirC.cl ns (k % ns.length) + k) * 48271 % 2147483647 * 69621 % 2147483629
theorem eqv_scr (ns : List Int) : eqvD (.scr ns) (.lst []) = decide (ns = []) := by
  cases ns with
  | nil => rfl
  | cons n r =>
    unfold eqvD
    rw [toPd, toPd, toPds, PyData.eqv, List.map_cons, PyData.eqvAll]
    simp
theorem cell_eq (ns : List Int) (k : Nat) : f_cell [.scr ns, .int (k : Nat)] S = .ok (.fz (.int (cel ns k))) S := by
  have e0 : opEq (.fz (.scr ns)) (.ow (.lst [])) S = .ok (decide (ns = [])) S := by rw [s_eqFO rfl rfl, eqv_scr]
  by_cases h : k < ns.length
  · have e : atD (ns.map D.int) (k : Int) = some (.int (MirC.cl ns k)) := MirC.getD_scr ns k h
    have h' : (k : Int) < (ns.length : Int) := by omega
    have q : cel ns k = MirC.cl ns k := if_pos h
    rw [q]
    simp -implicitDefEqProofs [f_cell, s_runF, m_cell, startE, h', e, -atD_int]
  · have h' : ¬ (k : Int) < (ns.length : Int) := by omega
    by_cases hn : ns = []
    · subst hn
      have h2 : ¬ (k : Int) < 0 := by omega
      simp -implicitDefEqProofs [f_cell, s_runF, m_cell, startE, cel, e0, h2]
    · have hp : 0 < ns.length := List.length_pos_iff.mpr hn
      have q : cel ns k = (MirC.cl ns (k % ns.length) + k) * 48271 % 2147483647 * 69621 % 2147483629 := by
        unfold cel
        rw [if_neg h, if_neg hn]
      have e1 : ((k : Int) % (ns.length : Int)) = ((k % ns.length : Nat) : Int) := by omega
      have e : atD (ns.map D.int) ((k : Int) % (ns.length : Int)) = some (.int (MirC.cl ns (k % ns.length))) := by
        rw [e1]
        exact MirC.getD_scr ns _ (Nat.mod_lt _ hp)
      have h1 : modOk (k : Int) (ns.length : Int) = true := modOk_p (by omega)
      have m1 : ∀ x, mulOk x 48271 = true := fun x => mulOk_r (by decide) (by decide)
      have m2 : ∀ x, mulOk x 69621 = true := fun x => mulOk_r (by decide) (by decide)
      have d1 : ∀ x, modOk x 2147483647 = true := fun x => modOk_p (by decide)
      have d2 : ∀ x, modOk x 2147483629 = true := fun x => modOk_p (by decide)
      rw [q]
      simp -implicitDefEqProofs [f_cell, s_runF, m_cell, startE, h', e0, hn, h1, e, m1, m2, d1, d2, -atD_int]
def m_Lot_init : CI :=
    (iSeq (iSet "number" (cVar 1))
    (iSeq (iSet "since" (cVar 2))
    (iSeq (iSet "pieces" (cVar 3))
    (iSeq (iSet "cost" (cVar 4))
    iNil))))
def f_Lot_init : FnI := runI 5 m_Lot_init
/-- a lot -/
def lotF (n s p c : Int) : List (Str × D) := [("number", .int n), ("since", .int s), ("pieces", .int p), ("cost", .int c)]
abbrev lotD (k : Nat) (n s p c : Int) : D := .ins k (lotF n s p c)
theorem Lot_init_eq (n s p c : Int) : f_Lot_init [.int n, .int s, .int p, .int c] [] S = .ok (lotF n s p c) S := rfl
end MirR
set_option Elab.async false
set_option linter.all false
set_option maxRecDepth 100000
/-! Mir20: changes that tell a value; lists' pop, insert, extend, reverse; dicts made, changed, asked. -/
namespace Mir
open PySem PySem.Spec PyProof.Rows L2
section
variable {T : Tx} {Wx : WX} {X : Cx} {e e2 o : Expr} {g g0 g1 : Gh} {H H0 H1 : Hp} {c : Chk} {S S1 : Store} {ds : Env} {σ : SV} {pos : Pos} {tg : Expr} {f1 f2 f3 : CE}
/-! ### x = y.m(..) -/
def asgK (t : Tgt) (d : D) (ds : Env) (S : Store) : RS := match asgT t (.fz d) S ds with
  | some ds' => .nx ds' S
  | none => .bad
def cMutA (t : Tgt) (i : Nat) (ty : String) (m : Mu) (fs : Env → M (List D)) : CS := fun ds S => if slTy i ty ds S then liftR (fs ds S) ds fun args S => mutE i m args ds S (asgK t) else .bad
theorem asgK_ok {t : Tgt} {d : D} {y : V} {D' : Ends} (fr : FR T g0 H0 c g H S ds σ) (r : Rep T g H d y) (p : PostS T Wx g0 H0 c D' (asgK t d ds S)) : tGt T t y σ H D'.nx := by
  unfold asgK at p
  cases q : asgT t (.fz d) S ds with
  | none =>
    rw [q] at p
    exact p.elim
  | some ds' =>
    rw [q] at p
    exact ⟨g0, H0, c, g, S, ds, .fz d, ds', fr, r, r, q, fun σ' fr' => p g H σ' fr'⟩
theorem js_mutA {t : Tgt} {i : Nat} {x name : Str} {ty id : String} {m : Mu} {r : V → List V → Hp → VK → Prop} {a : Expr} {es : List Expr} {px apos cpos : Pos} {fs : Env → M (List D)} (lv : Lv T Wx X) (pa : PlainAttrs ty) (slot : Slot ty name id) (hty : typeOf (.builtin id) = pure (.type "method_descriptor")) (hm : MtR X id r) (hv : VM T ty r m) (ht : MuTy ty m)
    (hN : X.N[i]? = some x) (hx : Vis X.env.scope x) (ha : JA T Wx X (a :: es) fs) (hg : JG T X tg t) (hd : (x == ("__debug__" : Str)) = false := by decide) (hcd : (x == ("__classdict__" : Str)) = false := by decide)
    (hbase : attributeBase (.Name x px) name X.env (eval (.Name x px) X.env) = eval (.Name x px) X.env := by rfl)
    (hfew : ((backTo cpos (starEach (a :: es) X.env)).all (fun x => !x.1) && (backToKw cpos (keywordEach [] X.env)).all (fun x => x.1.isSome)
      && decide ((a :: es).length + ([] : List Keyword).length + (if ([] : List Keyword).isEmpty then 0 else 1) < 30)) = true := by rfl)
    (hline : (apos.endLine == cpos.line) = true := by rfl) (hs : starEach (a :: es) X.env = (false, eval a X.env) :: starEach es X.env := by rfl) (hplain : (backTo cpos (starEach es X.env)).any (·.1) = false := by rfl)
    (hsw : swapsWithSole [tg] (.Call (.Attribute (.Name x px) name apos) (a :: es) [] cpos) pos.line X.env = pure false := by rfl) (hw : swappedStores [tg] (.Call (.Attribute (.Name x px) name apos) (a :: es) [] cpos) X.env = pure none := by rfl)
    (h1 : (assignEach [tg] X.env).map (·.2) = [assign tg X.env] := by rfl) :
    JS T Wx X (.Assign [tg] (.Call (.Attribute (.Name x px) name apos) (a :: es) [] cpos) pos) (cMutA t i ty m fs) := by
  have hK := lv.hK
  refine PS.imp (ps_asg (pe_bm pa slot hty hm (pe_var hN hx hd hcd) ha hbase hfew hline hs hplain) hg hsw hw h1) fun D' σ H ⟨g0, H0, c, g, S, ds, fr, p⟩ => ?_
  unfold cMutA at p
  split at p
  · rename_i hz
    obtain ⟨v, hv1, tv⟩ := slTy_ok fr hz
    refine ⟨v, hv1, hK.symm ▸ tv, tG.stmt (r := RA T) fr p fun args S1 g1 H1 vs e1 fr1 rv p1 => ?_⟩
    exact mutE_ok hv ht fr1 rv hv1 p1 fun d g' H' ds' S' y fr' ry p2 => asgK_ok fr' ry p2
  · exact p.elim
theorem js_mutA0 {t : Tgt} {i : Nat} {x name : Str} {ty id : String} {m : Mu} {r : V → List V → Hp → VK → Prop} {px apos cpos : Pos} (lv : Lv T Wx X) (pa : PlainAttrs ty) (slot : Slot ty name id) (hty : typeOf (.builtin id) = pure (.type "method_descriptor")) (hm : MtR X id r) (hv : VM T ty r m) (ht : MuTy ty m)
    (hN : X.N[i]? = some x) (hx : Vis X.env.scope x) (hg : JG T X tg t) (hd : (x == ("__debug__" : Str)) = false := by decide) (hcd : (x == ("__classdict__" : Str)) = false := by decide)
    (hbase : attributeBase (.Name x px) name X.env (eval (.Name x px) X.env) = eval (.Name x px) X.env := by rfl) (hline : (apos.endLine == cpos.line) = true := by rfl)
    (hsw : swapsWithSole [tg] (.Call (.Attribute (.Name x px) name apos) [] [] cpos) pos.line X.env = pure false := by rfl) (hw : swappedStores [tg] (.Call (.Attribute (.Name x px) name apos) [] [] cpos) X.env = pure none := by rfl)
    (h1 : (assignEach [tg] X.env).map (·.2) = [assign tg X.env] := by rfl) :
    JS T Wx X (.Assign [tg] (.Call (.Attribute (.Name x px) name apos) [] [] cpos) pos) (cMutA t i ty m cNil) := by
  have hK := lv.hK
  refine PS.imp (ps_asg (pe_bm0 pa slot hty hm (pe_var hN hx hd hcd) hbase hline) hg hsw hw h1) fun D' σ H ⟨g0, H0, c, g, S, ds, fr, p⟩ => ?_
  unfold cMutA at p
  split at p
  · rename_i hz
    obtain ⟨v, hv1, tv⟩ := slTy_ok fr hz
    refine ⟨v, hv1, hK.symm ▸ tv, ?_⟩
    have p1 : PostS T Wx g0 H0 c D' (mutE i m [] ds S (asgK t)) := p
    exact mutE_ok hv ht fr .nil hv1 p1 fun d g' H' ds' S' y fr' ry p2 => asgK_ok fr' ry p2
  · exact p.elim
/-! ### the methods -/
theorem Reps.snoc_inv {T : Tx} {g : Gh} {H : Hp} : ∀ {ds : List D} {vs : List V} {d : D}, Reps T g H (ds ++ [d]) vs → ∃ us v, vs = us ++ [v] ∧ Reps T g H ds us ∧ Rep T g H d v
  | [], _, d, .cons r .nil => ⟨[], _, rfl, .nil, r⟩
  | x :: ds, _, d, .cons r t => by
    obtain ⟨us, v, e, r1, r2⟩ := Reps.snoc_inv (ds := ds) t
    exact ⟨_ :: us, v, by rw [e]; rfl, .cons r r1, r2⟩
theorem Reps.erase {T : Tx} {g : Gh} {H : Hp} : ∀ (n : Nat) {ds : List D} {vs : List V}, Reps T g H ds vs → Reps T g H (ds.eraseIdx n) (vs.eraseIdx n)
  | _, _, _, .nil => by simpa using Reps.nil
  | 0, _, _, .cons _ t => t
  | n + 1, _, _, .cons r t => .cons r (Reps.erase n t)
theorem Reps.rev {T : Tx} {g : Gh} {H : Hp} : ∀ {ds : List D} {vs : List V}, Reps T g H ds vs → Reps T g H ds.reverse vs.reverse
  | _, _, .nil => .nil
  | _, _, .cons r t => by
    rw [List.reverse_cons, List.reverse_cons]
    exact (Reps.rev t).append (.cons r .nil)
/-- x.pop() -/
def mPop : Mu := fun so xs => match so, xs with
  | .lst ys, [] => match ys[ys.length - 1]? with
    | some d => some (.lst ys.dropLast, d)
    | none => none
  | _, _ => none
theorem ty_pop : MuTy "list" mPop := fun so ds p h => by
  unfold mPop at h
  split at h
  · rfl
  · cases h
theorem Reps.dropLast {T : Tx} {g : Gh} {H : Hp} {ds : List D} {vs : List V} (r : Reps T g H ds vs) : Reps T g H ds.dropLast vs.dropLast := by
  rw [List.dropLast_eq_take, List.dropLast_eq_take, r.length]
  exact r.take _
theorem v_pop : VM T "list" rPop mPop := by
  intro g H a ho so ds vs so' d h r ra hm
  unfold mPop at hm
  split at hm
  · rename_i ys
    split at hm
    · rename_i x hx
      cases hm
      cases ra
      cases r with
      | @lst _ vys r =>
        obtain ⟨y, hy, ry⟩ := r.get hx
        rw [r.length] at hy
        exact ⟨.lst vys.dropLast, y, fun g' H' fx => .lst ((r.fix fx).dropLast), fun _ _ fx => ry.fix fx, fun Q q => ⟨a, vys, y, rfl, rfl, h, hy, q⟩⟩
    · cases hm
  · cases hm
/-- x.pop(i), 0 ≤ i -/
def mPopAt : Mu := fun so xs => match so, xs with
  | .lst ys, [.int i] => if decide (0 ≤ i) && decide (i < 2 ^ 63) then (match ys[i.toNat]? with
    | some d => some (.lst (ys.eraseIdx i.toNat), d)
    | none => none) else none
  | _, _ => none
theorem ty_popAt : MuTy "list" mPopAt := fun so ds p h => by
  unfold mPopAt at h
  split at h
  · rfl
  · cases h
theorem seqIndex_nat {i : Int} {n : Nat} (h0 : 0 ≤ i) (h : i.toNat < n) : seqIndex? i n = some i.toNat := by
  have h1 : ¬ i < 0 := by omega
  have h2 : i < (n : Int) := by omega
  simp [seqIndex?, h1, h0, h2]
theorem v_popAt : VM T "list" rPopAt mPopAt := by
  intro g H a ho so ds vs so' d h r ra hm
  unfold mPopAt at hm
  split at hm
  · rename_i ys i
    split at hm
    · rename_i hz
      rw [Bool.and_eq_true] at hz
      have z1 : 0 ≤ i := of_decide_eq_true hz.1
      have z2 : i < 2 ^ 63 := of_decide_eq_true hz.2
      split at hm
      · rename_i x hx
        cases hm
        cases ra with
        | cons r1 r2 =>
          cases r2
          cases r1
          cases r with
          | @lst _ vys r =>
            obtain ⟨y, hy, ry⟩ := r.get hx
            have hl : i.toNat < vys.length := (List.getElem?_eq_some_iff.mp hy).1
            exact ⟨.lst (vys.eraseIdx i.toNat), y, fun g' H' fx => .lst ((r.fix fx).erase _), fun _ _ fx => ry.fix fx, fun Q q => ⟨a, vys, i, i.toNat, y, rfl, rfl, h, by omega, z2, seqIndex_nat z1 hl, hy, q⟩⟩
      · cases hm
    · cases hm
  · cases hm
/-- x.insert(i, d), 0 ≤ i -/
def mInsert : Mu := fun so xs => match so, xs with
  | .lst ys, [.int i, d] => if decide (0 ≤ i) && (decide (i < 2 ^ 63) && szOk (ys.length + 1)) then some (.lst (ys.take i.toNat ++ [d] ++ ys.drop i.toNat), .non) else none
  | _, _ => none
theorem ty_insert : MuTy "list" mInsert := fun so ds p h => by
  unfold mInsert at h
  split at h
  · rfl
  · cases h
def rInsert : V → List V → Hp → VK → Prop := fun x vs H Q => ∃ (l : Addr) (xs : List V) (i : Int) (y : V), x = .ref l ∧ vs = [.int i, y] ∧ H l = some (.lst xs) ∧ xs.length < sizeLine ∧ 0 ≤ i ∧ i < 2 ^ 63 ∧ Q .non (upd H l (.lst (xs.take i.toNat ++ [y] ++ xs.drop i.toNat)))
theorem v_insert : VM T "list" rInsert mInsert := by
  intro g H a ho so ds vs so' d h r ra hm
  unfold mInsert at hm
  split at hm
  · rename_i ys i x
    split at hm
    · rename_i hz
      rw [Bool.and_eq_true, Bool.and_eq_true] at hz
      have z1 : 0 ≤ i := of_decide_eq_true hz.1
      have z2 : i < 2 ^ 63 := of_decide_eq_true hz.2.1
      have z3 := szOk_of hz.2.2
      cases hm
      cases ra with
      | cons r1 r2 =>
        cases r1
        cases r2 with
        | @cons _ y _ _ r3 r4 =>
          cases r4
          cases r with
          | @lst _ vys r =>
            exact ⟨.lst (vys.take i.toNat ++ [y] ++ vys.drop i.toNat), .non, fun g' H' fx => .lst ((((r.fix fx).take _).append (.cons (r3.fix fx) .nil)).append ((r.fix fx).drop _)), fun _ _ _ => .non, fun Q q => ⟨a, vys, i, y, rfl, rfl, h, by rw [← r.length]; omega, z1, z2, q⟩⟩
    · cases hm
  · cases hm
/-- x.reverse() -/
def mReverse : Mu := fun so xs => match so, xs with
  | .lst ys, [] => some (.lst ys.reverse, .non)
  | _, _ => none
theorem ty_reverse : MuTy "list" mReverse := fun so ds p h => by
  unfold mReverse at h
  split at h
  · rfl
  · cases h
theorem v_reverse : VM T "list" rReverse mReverse := by
  intro g H a ho so ds vs so' d h r ra hm
  unfold mReverse at hm
  split at hm
  · cases hm
    cases ra
    cases r with
    | @lst _ vys r => exact ⟨.lst vys.reverse, .non, fun g' H' fx => .lst (r.fix fx).rev, fun _ _ _ => .non, fun Q q => ⟨a, vys, rfl, rfl, h, q⟩⟩
  · cases hm
/-- x.extend(list) -/
def mExtend : Mu := fun so xs => match so, xs with
  | .lst ys, [.lst zs] => if szOk (ys.length + zs.length) then some (.lst (ys ++ zs), .non) else none
  | _, _ => none
theorem ty_extend : MuTy "list" mExtend := fun so ds p h => by
  unfold mExtend at h
  split at h
  · rfl
  · cases h
theorem v_extend : VM T "list" rExtend mExtend := by
  intro g H a ho so ds vs so' d h r ra hm
  unfold mExtend at hm
  split at hm
  · rename_i ys zs
    split at hm
    · rename_i hz
      cases hm
      cases ra with
      | cons r1 r2 =>
        cases r2
        cases r1 with
        | @lst b _ vzs h1 h2 r3 =>
          cases r with
          | @lst _ vys r =>
            exact ⟨.lst (vys ++ vzs), .non, fun g' H' fx => .lst ((r.fix fx).append (r3.fix fx)), fun _ _ _ => .non, fun Q q => ⟨a, b, vys, vzs, rfl, rfl, h, h1, by rw [← r.length, ← r3.length]; exact szOk_of hz, q⟩⟩
    · cases hm
  · cases hm
/-! ### dicts -/
theorem repK_nil : RepK T g H [] [] := .nil
def cDct0 : CE := fun _ S => .ok (.ow (.dct [])) S
theorem je_dct0 : JE T Wx X (.Dict [] [] pos) cDct0 := PE.imp pe_dnewK fun σ H Q ⟨g0, H0, c, g, S, ds, fr, p⟩ => by
  intro q hq
  obtain ⟨g2, e2, rs2, rw2⟩ := alloc_ow (so := .dct []) fr.st hq (ho := .dK []) fun g' H' fx => .dct .nil
  exact (show PostG T Wx (RW T H) g H σ Q (.ok (.ow (.dct [])) S) from p) g2 _ _ e2 rs2 rw2
/-- d.get(k), d.get(k, x) -/
def opGet1 : Wv → Wv → M Wv := fun w1 w2 S => match viewK S w1, keyW w2 with
  | some kvs, some k => .ok (.fz ((lkD kvs k).getD .non)) S
  | _, _ => .bad
def cGet1 (f1 f2 : CE) : CE := fun ds S => bindR (f1 ds S) fun w1 S => if (viewK S w1).isSome then bindR (f2 ds S) fun w2 S => opGet1 w1 w2 S else .bad
theorem je_get1 {apos cpos : Pos} (lv : Lv T Wx X) (m : M1 X o "get" apos e cpos) (ho : JB T Wx X o f1) (he : JB T Wx X e f2) : JE T Wx X (.Call (.Attribute o "get" apos) [e] [] cpos) (cGet1 f1 f2) :=
  PE.imp (pe_dget1 (by have := lv.un; omega) ho he m) fun σ H Q ⟨g0, H0, c, g, S, ds, fr, p⟩ => by
    refine tG.bind (r1 := RB T) (r2 := RW T) mono_w fr p fun w1 S1 g1 H1 v1 e1 fr1 rv1 p1 => ?_
    split at p1
    · rename_i hz
      obtain ⟨kvs, hk⟩ := Option.isSome_iff_exists.mp hz
      obtain ⟨a, vs, rfl, h1, r⟩ := viewK_ok fr1.st rv1 hk
      refine ⟨a, rfl, .inl ⟨vs, .inl h1⟩, ?_⟩
      refine tG.bind (r1 := RB T) (r2 := RW T) mono_w fr1 p1 fun w2 S2 g2 H2 v2 e2 fr2 rv2 p2 => ?_
      unfold opGet1 at p2
      split at p2
      · rename_i kvs2 k q1 q2
        obtain ⟨a', vs2, ea, h2, r2⟩ := viewK_ok fr2.st (rv1.ext e2 fr1.st) q1
        cases ea
        rw [keyW_ok rv2 q2]
        rcases r2.lk (k := k) with ⟨z, zv⟩ | ⟨d', v, z, zv, rv⟩
        · refine ⟨_, DGet.k h2, ?_⟩
          rw [zv]
          rw [z] at p2
          exact PostG.now (r := RW T H2) p2 fr2.st .non
        · refine ⟨_, DGet.k h2, ?_⟩
          rw [zv]
          rw [z] at p2
          exact PostG.now (r := RW T H2) p2 fr2.st rv
      · exact p2.elim
    · exact p1.elim
def opGet2 (w1 w2 : Wv) (d : D) : M Wv := fun S => match viewK S w1, keyW w2 with
  | some kvs, some k => .ok (.fz ((lkD kvs k).getD d)) S
  | _, _ => .bad
def cGet2 (f1 f2 : CE) (f3 : Env → M D) : CE := fun ds S => bindR (f1 ds S) fun w1 S => if (viewK S w1).isSome then bindR (f2 ds S) fun w2 S => bindR (f3 ds S) fun d S => opGet2 w1 w2 d S else .bad
theorem je_get2 {apos cpos : Pos} {f3 : Env → M D} (lv : Lv T Wx X) (m : M2 X o "get" apos e e2 cpos) (ho : JB T Wx X o f1) (he : JB T Wx X e f2) (hf : JD T Wx X e2 f3) : JE T Wx X (.Call (.Attribute o "get" apos) [e, e2] [] cpos) (cGet2 f1 f2 f3) :=
  PE.imp (pe_dget2 (by have := lv.un; omega) ho he hf m) fun σ H Q ⟨g0, H0, c, g, S, ds, fr, p⟩ => by
    refine tG.bind (r1 := RB T) (r2 := RW T) mono_w fr p fun w1 S1 g1 H1 v1 e1 fr1 rv1 p1 => ?_
    split at p1
    · rename_i hz
      obtain ⟨kvs, hk⟩ := Option.isSome_iff_exists.mp hz
      obtain ⟨a, vs, rfl, h1, r⟩ := viewK_ok fr1.st rv1 hk
      refine ⟨a, rfl, .inl ⟨vs, .inl h1⟩, ?_⟩
      refine tG.bind (r1 := RB T) (r2 := RW T) mono_w fr1 p1 fun w2 S2 g2 H2 v2 e2 fr2 rv2 p2 => ?_
      refine tG.bind (r1 := RD T) (r2 := RW T) mono_w fr2 p2 fun d3 S3 g3 H3 v3 e3 fr3 rv3 p3 => ?_
      unfold opGet2 at p3
      split at p3
      · rename_i kvs2 k q1 q2
        obtain ⟨a', vs2, ea, h2, r2⟩ := viewK_ok fr3.st ((rv1.ext e2 fr1.st).ext e3 fr2.st) q1
        cases ea
        rw [keyW_ok (rv2.ext e3 fr2.st) q2]
        rcases r2.lk (k := k) with ⟨z, zv⟩ | ⟨d', v, z, zv, rv⟩
        · refine ⟨_, DGet.k h2, ?_⟩
          rw [zv]
          rw [z] at p3
          exact PostG.now (r := RW T H3) p3 fr3.st rv3
        · refine ⟨_, DGet.k h2, ?_⟩
          rw [zv]
          rw [z] at p3
          exact PostG.now (r := RW T H3) p3 fr3.st rv
      · exact p3.elim
    · exact p1.elim
/-- d[k] = v, d in a slot -/
def mPut : Mu := fun so xs => match so, xs with
  | .dct kvs, [k, d] => match keyD k with
    | some k => if szOk (kvs.length + 1) then some (.dct (putD kvs k d), .non) else none
    | none => none
  | _, _ => none
def cPut (i : Nat) (fv fk : Env → M D) : CS := fun ds S => liftR (fv ds S) ds fun v S => if slTy i "dict" ds S then liftR (fk ds S) ds fun k S => mutE i mPut [k, v] ds S fun _ ds S => .nx ds S else .bad
theorem ty_put : MuTy "dict" mPut := fun so ds p h => by
  unfold mPut at h
  split at h
  · rfl
  · cases h
theorem v_put : VM T "dict" (fun x vs H Q => ∃ a y v H', x = .ref a ∧ vs = [y, v] ∧ DPut H a y v H' ∧ Q .non H') mPut := by
  intro g H a ho so ds vs so' d h r ra hm
  unfold mPut at hm
  split at hm
  · rename_i kvs kd d1
    split at hm
    · rename_i k hk
      split at hm
      · rename_i hz
        cases hm
        cases ra with
        | @cons _ y _ _ r1 r2 =>
          cases r2 with
          | @cons _ v _ _ r3 r4 =>
            cases r4
            cases r with
            | @dct _ vks r =>
              have ek : y = kV k := keyW_ok (w := .fz kd) r1 hk
              subst ek
              refine ⟨.dK (putK vks k v), .non, fun g' H' fx => .dct ((r.fix fx).put (r3.fix fx)), fun _ _ _ => .non, fun Q q => ⟨a, kV k, v, _, rfl, rfl, DPut.k h (by rw [← r.length]; have := szOk_of hz; omega), q⟩⟩
      · cases hm
    · cases hm
  · cases hm
theorem js_put {i : Nat} {x : Str} {ix value : Expr} {px p' : Pos} {fv fk : Env → M D} (lv : Lv T Wx X) (hN : X.N[i]? = some x) (hx : Vis X.env.scope x) (hv : JD T Wx X value fv) (hk : JD T Wx X ix fk)
    (hd : (x == ("__debug__" : Str)) = false := by decide) (hcd : (x == ("__classdict__" : Str)) = false := by decide)
    (hs : swapsWith value (some (.Subscript (.Name x px) ix p')) pos.line X.env = pure false := by rfl) : JS T Wx X (.Assign [.Subscript (.Name x px) ix p'] value pos) (cPut i fv fk) :=
  PS.imp (ps_dput (by have := lv.un; omega) (pe_var hN hx hd hcd) hk hv hs) fun D' σ H ⟨g0, H0, c, g, S, ds, fr, p⟩ => by
    refine tG.stmt (r := RD T) fr p fun v S1 g1 H1 u e1 fr1 rv p1 => ?_
    split at p1
    · rename_i hz
      obtain ⟨z, hz1, tz⟩ := slTy_ok fr1 hz
      refine ⟨z, hz1, tG.stmt (r := RD T) fr1 p1 fun k S2 g2 H2 y e2 fr2 rk p2 => ?_⟩
      obtain ⟨a, y', v', H', ea, ev, hp, hq⟩ := mutE_ok (Q := fun _ H' => D'.nx σ H') v_put ty_put fr2 (.cons rk (.cons (Rep.fix (e2.fix fr1.st) rv) .nil)) hz1 p2 fun d g' H' ds' S' y fr' ry p3 => p3 g' H' σ fr'
      cases ev
      exact ⟨a, H', ea, hp, hq⟩
    · exact p1.elim
end
end Mir
set_option Elab.async false
set_option linter.all false
set_option maxRecDepth 100000
/-! Mir21: x[::-1]; C() without an __init__; errors with a field. -/
namespace Mir
open PySem PySem.Spec PyProof.Rows L2
section
variable {T : Tx} {Wx : WX} {X : Cx} {e e2 o : Expr} {g g0 g1 : Gh} {H H0 H1 : Hp} {c : Chk} {S S1 : Store} {ds : Env} {σ : SV} {pos : Pos} {tg : Expr} {f1 f2 f3 : CE}
/-! ### x[::-1] -/
def opRev : Wv → M Wv := fun w S => match viewR S w with
  | some xs => .ok (.ow (.lst xs.reverse)) S
  | none => .bad
theorem je_rev {k : Nat} {p1 p2 p3 : Pos} (lv : Lv T Wx X) (h : JB T Wx X e f1) : JE T Wx X (.Subscript e (.Slice none none (some (.UnaryOp .USub (.Constant (.int 1) k p1) p2)) p3) pos) (cUn opRev f1) :=
  PE.imp (pe_revL h) fun σ H Q ⟨g0, H0, c, g, S, ds, fr, p⟩ => by
    refine tG.bind (r1 := RB T) (r2 := RW T) mono_w fr p fun w1 S1 g1 H1 v1 e1 fr1 rv1 p1 => ?_
    unfold opRev at p1
    split at p1
    · rename_i xs hx
      obtain ⟨a, vs, rfl, h1, r⟩ := viewR_ok fr1.st rv1 hx
      refine ⟨a, vs, rfl, lv.hK.symm ▸ h1, fun q hq => ?_⟩
      obtain ⟨g2, e2, rs2, rw2⟩ := alloc_ow (so := .lst xs.reverse) fr1.st hq (ho := .lst vs.reverse) fun g' H' fx => .lst ((r.fix fx).rev)
      exact p1 g2 _ _ e2 rs2 rw2
    · exact p1.elim
/-! ### C() where there is no __init__ but object's -/
structure Mk0 (K : PySem.W.Frag) (C : Addr) : Prop where
  makes : PySem.W.makesIn K C = true
  init : PySem.W.findIn K (.ref C) "__init__" = some (some (.builtin "object.__init__"))
  top : PySem.W.mroIn K C (.type "object") = some true
  kp : PySem.W.keepIn K (.ref C) = true
theorem run_mk0 {C : Addr} {pins : List (Addr × Obj)} {s : Shared} {Q : VK} (M : Mk0 X.K C) (I : Inv X pins σ H s) (h : ∀ x dx, H x = none → H dx = none → dx ≠ x → Q (.ref x) (upd (upd H dx (.own x)) x (.ins C dx []))) :
    wpAny (model X.prog X.w) X.A (call (.ref C) []) (EP X pins σ Q) X.xe s := by
  obtain ⟨z, hz⟩ : ∃ z, z = s.heap.objs.size := ⟨_, rfl⟩
  have q := h (z + 1) z (I.hok.fresh (by rw [hz]; exact Nat.le_succ _)) (I.hok.fresh (by rw [hz]; exact Nat.le_refl _)) (Nat.ne_of_lt (Nat.lt_succ_self z))
  have J := Inv.made (C := C) I
  subst hz
  refine wpAny_call (make_map0 I.kIn M.makes M.init (fun self => PySem.W.Looks.of_pure (PySem.W.oi_bind _)) ?_)
  obtain ⟨_, _, _, ho, _⟩ := J.hok (s.heap.objs.size + 1) _ upd_same
  have t1 : PySem.W.Looks (model X.prog X.w) _ (typeOf (.ref (s.heap.objs.size + 1))) (.ref C) := NwA.type_at ho rfl
  have t2 : PySem.W.Looks (model X.prog X.w) _ (isInstance (.ref (s.heap.objs.size + 1)) (.type "object")) true := t1.andThen (PySem.W.looks_mroIn J.kIn M.top)
  refine codeAny_call_builtin PySem.W.oi_plain PySem.W.entry_oi (@PySem.W.check_slot (model X.prog X.w) _ _ _ "object.__init__" "object" "__init__" (.ref (s.heap.objs.size + 1)) [] [] _ PySem.W.oi_kind PySem.W.oi_split t2 (NwA.oi_args_any _ _ _) ?_)
  rw [PySem.W.oi_run]
  exact wpAny_pure ⟨rfl, ⟨.ref (s.heap.objs.size + 1), _, J, rfl, q⟩⟩
theorem pe_mk0 {x : Str} {C : Addr} {p : Pos} (M : Mk0 X.K C) (hg : Gl X x) (hm : X.mg x = some (.ref C)) (hdb : (x == ("__debug__" : Str)) = false := by decide) :
    PE X (.Call (.Name x p) [] [] pos) (fun σ H Q => ∀ a dx, H a = none → H dx = none → dx ≠ a → Q (.ref a) (upd (upd H dx (.own a)) a (.ins C dx []))) := by
  refine ⟨fun pins s σ H Q I h => ?_⟩
  refine wpAny_Call_Name_kw (ld_glob I hg hm ?_ hdb)
  exact PySem.W.callWith_K0 I.kIn M.kp (run_mk0 M I h)
def cMk0 (k : Nat) : CE := fun _ S => .ok (.ow (.ins k [])) S
theorem je_mk0 {x : Str} {k : Nat} {p : Pos} (lv : Lv T Wx X) (M : Mk0 T.K (T.cls k)) (hg : Gl X x) (hm : X.mg x = some (.ref (T.cls k))) (hdb : (x == ("__debug__" : Str)) = false := by decide) : JE T Wx X (.Call (.Name x p) [] [] pos) (cMk0 k) :=
  PE.imp (pe_mk0 (lv.hK.symm ▸ M) hg hm hdb) fun σ H Q ⟨g0, H0, c, g, S, ds, fr, p⟩ => by
    intro a dx ha hdx ne
    obtain ⟨g2, x2, rs2, _, _⟩ := alloc_lv fr.st hdx (.own a)
    obtain ⟨g3, x3, rs3, rw3⟩ := alloc_ow (so := .ins k []) rs2 (p := a) (by rw [upd_ne (Ne.symm ne)]; exact ha) (ho := .ins (T.cls k) dx []) fun g' H' fx => .ins .nil
    have p : PostG T Wx (RW T H) g H σ Q (.ok (.ow (.ins k [])) S) := p
    refine p g3 _ _ (x2.trans x3) rs3 ?_
    obtain ⟨b, eb, ow⟩ := rw3
    cases eb
    exact ⟨a, rfl, ha, ow.liv, ow.nio, ow.obj⟩
/-! ### errors with a field: class X(Base): def __init__(self, f): Base.__init__(self, text); self.f = f -/
/-- the base's __init__ is ValueError's -/
structure BaseI (K : PySem.W.Frag) (C : Addr) : Prop where
  rd : ClX.CRead K C (.type "type")
  at_ : PySem.W.findCls K (.ref C) (.type "type") "__init__" = some (.val (.builtin "ValueError.__init__"))
theorem pe_binit {x : Str} {C : Addr} {es : List Expr} {ta : TA} {p1 p2 : Pos} {pl : Sem Bool} (hg : Gl X x) (hm : X.mg x = some (.ref C)) (A : BaseI X.K C) (ha : PA X (e :: es) ta) (hdb : (x == ("__debug__" : Str)) = false := by decide)
    (hc : eval (.Call (.Attribute (.Name x p1) "__init__" p2) (e :: es) [] pos) X.env = (do
      let ov ← eval (.Name x p1) X.env
      standAt p2.atName
      let (f, first) ← holding [ov] (getMethod ov "__init__" pl)
      callWith pos f first (backTo pos (starEach (e :: es) X.env)) (backToKw pos (keywordEach [] X.env))) := by rfl)
    (he : starEach (e :: es) X.env = (false, eval e X.env) :: starEach es X.env := by rfl) (hpl : (backTo pos (starEach es X.env)).any (·.1) = false := by rfl) :
    PE X (.Call (.Attribute (.Name x p1) "__init__" p2) (e :: es) [] pos) (tVeI X.K ta) := by
  refine ⟨fun pins s σ H Q I h => ?_⟩
  refine PySem.W.methodCall_KW (pl := pl) (ld_glob I hg hm ?_ hdb) hc
  refine PySem.W.method_cls I.kIn A.rd.ga (PySem.W.cls_value I.kIn A.rd.rd A.at_ (by decide +kernel) ?_)
  show wpAny _ _ (callWith pos (Value.builtin "ValueError.__init__") [] (backTo pos (starEach (e :: es) X.env)) []) _ _ _
  refine PyProof.Rows.callWith_method1 (thn (ha.run pos pins _ σ H _ (I.tok _) h) fun us s1 ⟨vs, H1, I1, r1, a, C, ws, ev, hl, T, ea, q⟩ => ?_) he hpl
  subst ev
  cases r1 with
  | @cons _ u0 _ ur ra rw' =>
    obtain rfl : u0 = Value.ref a := ra
    have hlen : ur.length ≤ sizeLine := by
      rw [← Paired.length rw', sizeLine_eq]
      omega
    exact oinit_ok T I1 ea hlen fun s' J => ⟨.non, H1, J, rfl, q⟩
def spEr (C : Addr) (f : Str) : Sp := fun vs H Q _ => ∃ (a : Addr) (i : Int), vs = [.ref a, .int i] ∧ H a = some (exo a C none) ∧ ∀ dx, H dx = none → dx ≠ a → Q .non (upd (upd H dx (exd dx [(f, .int i)])) a (exo a C (some dx)))
/-- a class of errors with a field -/
structure Erd (P : Program) (w : World) (K : PySem.W.Frag) (mg : Str → Option Value) (base : Heap) (T : Tx) (j : Nat) (x : Str) (k : Nat) (f : Str) : Prop where
  ex : ∃ (fI : Addr) (fd : FuncData) (ps : List Str), mg x = some (.ref (T.cls k)) ∧ OexC K (T.cls k) ∧ PySem.W.findIn K (.ref (T.cls k)) "__init__" = some (some (.ref fI)) ∧ PySem.W.typeIn K (.ref fI) = some (.type "function") ∧ Binds K fd ps [] ∧ FnOk P w K mg base (L2.CX P w) j fI fd ps (spEr (T.cls k) f)
theorem Erd.mono {P : Program} {w : World} {K : PySem.W.Frag} {mg : Str → Option Value} {base : Heap} {i j : Nat} {x : Str} {k : Nat} {f : Str} (d : Erd P w K mg base T i x k f) (h : i ≤ j) : Erd P w K mg base T j x k f := by
  obtain ⟨fI, fd, ps, h1, h2, h3, h4, h5, h6⟩ := d.ex
  exact ⟨fI, fd, ps, h1, h2, h3, h4, h5, h6.mono h⟩
def cRaiseN (c : Nat) (f : Str) (fe : CE) : CS := fun ds S => liftR (fe ds S) ds fun w S => match w with
  | .fz (.int i) => .ex (c, some (f, i)) ds S
  | _ => .bad
theorem js_raiseN {P : Program} {w : World} {mg : Str → Option Value} {base : Heap} {j : Nat} {x : Str} {k : Nat} {f : Str} {p pos' : Pos} {fe : Env → M D} (B : Bd T mg P w base (j + 1) Wx X) (U : Erd P w T.K mg base T j x k f) (hg : Gl X x) (ha : JD T Wx X e fe) (hdb : (x == ("__debug__" : Str)) = false := by decide)
    (he : starEach [e] X.env = [(false, eval e X.env)] := by rfl) : JS T Wx X (.Raise (some (.Call (.Name x p) [e] [] pos')) none pos) (cRaiseN k f (cUp fe)) := by
  obtain ⟨fI, fd, ps, h1, h2, h3, h4, h5, h6⟩ := U.ex
  have hK := B.hK
  have hF : FnOk X.prog X.w X.K X.mg X.base (L2.CX X.prog X.w) j fI fd ps (spEr (T.cls k) f) := by rw [B.prog, B.wo, hK, B.mg, B.ba]; exact h6
  have hja : JA T Wx X [e] (cCons fe cNil) := ja_cons ha ja_nil he
  refine PS.imp (ps_raise B.calm B.tk (pmk_oex (dvs := []) (ds := []) (hK.symm ▸ h2) (hK.symm ▸ h3) (hK.symm ▸ h4) hF B.rm (hK.symm ▸ h5) .nil (fun _ _ _ _ _ _ _ c => by obtain ⟨_, _, _, _, _, _, _, _, _, _, _, _, z⟩ := c; exact z.elim) hg (by rw [B.mg]; exact h1) hja hdb he (by rfl))) fun D' σ H ⟨g0, H0, c, g, S, ds, fr, p⟩ => ?_
  refine ⟨g0, H0, c, g, S, ds, fr, ?_⟩
  unfold cRaiseN cUp at p
  unfold cCons cNil
  cases q : fe ds S with
  | ex y S1 =>
    rw [q] at p
    exact fun g1 H1 cls dx e1 rs rx => p g1 H1 σ cls dx (fr.on e1 rs) rx
  | bad =>
    rw [q] at p
    exact p.elim
  | ok d S1 =>
    rw [q] at p
    intro g1 H1 vs e1 rs rv
    cases rv with
    | @cons _ v _ vs r1 r2 =>
      cases r2
      cases d with
      | int i =>
        cases r1
        refine ⟨by simp, fun a ha => ⟨a, i, rfl, upd_same, fun dx hdx hne => ⟨rfl, dx, [(f, .int i)], upd_same, ?_, ?_, ?_⟩⟩⟩
        · rw [upd_ne hne, upd_same]
        · rw [upd_ne hne] at hdx
          exact hdx
        · rw [upd_ne hne] at hdx
          have eH : upd (del (upd (upd (upd H1 a (exo a (T.cls k) none)) dx (exd dx [(f, .int i)])) a (exo a (T.cls k) (some dx))) a) dx (.xd [(f, .int i)]) = upd H1 dx (.xd [(f, .int i)]) := by
            funext b
            by_cases e1 : b = dx
            · subst e1
              rw [upd_same, upd_same]
            · rw [upd_ne e1, upd_ne e1]
              by_cases e2 : b = a
              · subst e2
                rw [del_same, ha]
              · rw [del_ne e2, upd_ne e2, upd_ne e1, upd_ne e2]
          rw [eH]
          obtain ⟨g2, e2, rs2, fx, nl⟩ := alloc_fz rs hdx (.xd [(f, .int i)])
          exact p g2 _ σ _ _ (fr.on (e1.trans e2) rs2) ⟨rfl, dx, rfl, upd_same, nl⟩
      | _ => exact p.elim
end
end Mir
set_option Elab.async false
set_option linter.all false
set_option maxRecDepth 100000
/-! Mir22: the __init__ of an error with a field; sorted. -/
namespace Mir
open PySem PySem.Spec PyProof.Rows L2
/-- the class at C and its __init__ -/
def ErFact (K : PySem.W.Frag) (C : Addr) (qual : Str) (st : Stmt) : Prop := ∃ f fd, OexC K C ∧ PySem.W.findIn K (.ref C) "__init__" = some (some (.ref f)) ∧ PySem.W.typeIn K (.ref f) = some (.type "function") ∧ Fun K "__init__" qual st f fd
theorem er_fact {K : PySem.W.Frag} {C : Addr} {qual : Str} {st : Stmt} {f : Addr} {oc : Value} {od an : Option Addr} {osl : Array (Option Value)} {kV doc pm cdv ct : Value} {nm q N bs bm sn sub ab col dd k0 k1 k2 k3 k5}
    (o : K.lookup C = some (excClassObj nm q C N bs bm true sn sub ab col dd k0 k1 k2 k3 k5 "ValueError.__new__")) (r : PySem.HandSPX.refsVE bm = true) (sa : PySem.W.findIn K (.ref C) "__setattr__" = some (some (.builtin "object.__setattr__"))) (ex : PySem.W.subIn K (.ref C) (.type "BaseException") = some true)
    (ty : PySem.W.typeIn K (.ref C) = some (.type "type")) (kc : PySem.W.keepIn K (.ref C) = true) (a : PySem.W.findIn K (.ref C) "__init__" = some (some (.ref f))) (b : PySem.W.typeIn K (.ref f) = some (.type "function"))
    (l : K.lookup f = some ⟨oc, od, .func (PySem.W.fnOf "__init__" qual (defArgs st) (defBody st) (defScope st) .none kV doc pm an cdv ct), osl⟩)
    (c : PySem.W.codeIn K cdv qual = true) (k : PySem.W.keepIn K (.ref f) = true) : ErFact K C qual st := ⟨_, _, ⟨⟨_, _, _, _, _, _, _, _, _, _, _, _, _, _, _, o, r⟩, sa, ex, ty, kc⟩, a, b, fun_mk l c k⟩
theorem erd_mk {P : Program} {w : World} {K : PySem.W.Frag} {mg : Str → Option Value} {base : Heap} {x qual f self n msg : Str} {st : Stmt} {ps : List Str} {k : Nat} {T : Tx} (hT : T.K = K) (hm : mg x = some (.ref (T.cls k))) (F : ErFact K (T.cls k) qual st) (Sc : FnScope [self, n] ps (defScope st)) (hps : ps.length = 2)
    (hno : PySem.W.findIn K (.ref (T.cls k)) f = some none)
    (hbi : ∀ (kV doc pm : Value) (an : Option Addr) (cdv ct : Value) (us : List Value), us.length = ps.length → bindArgs (PySem.W.fnOf "__init__" qual (defArgs st) (defBody st) (defScope st) .none kV doc pm an cdv ct) ⟨us, []⟩ = pure (ps.zip us))
    (hb : ∀ (g : Addr) (cdv : Value) (A : Around) (outer : List PySem.Env) (s : Shared) (H : Hp) (E : XK),
      PSs (cxOf (L2.CX P w) P w K mg base [self, n] qual (defScope st) g cdv A outer s H E) (defBody st) (tSeq (tDrop (tVeI K (tCons (tVar 0) (tCons (tC (.str msg)) tNil)))) (tOst K f (tVar 0) (tVar 1)))) :
    Erd P w T.K mg base T 1 x k f := by
  obtain ⟨fI, fd, T1, a, b, F⟩ := F
  subst hT
  refine ⟨fI, fd, ps, hm, T1, a, b, F.binds hbi, F.okX Sc (fun vs H Q E h => ?_) (fun cdv A outer s H vs Q E hr h => ⟨_, hb fI cdv A outer s H E, ?_⟩)⟩
  · obtain ⟨a, i, rfl, _⟩ := h
    rw [hps]
    rfl
  · obtain ⟨a, i, rfl, ha, q⟩ := h
    refine ⟨_, rfl, a, T.cls k, [.str msg], rfl, by simp, T1, ha, ?_⟩
    refine ⟨_, rfl, _, rfl, a, T.cls k, rfl, T1, hno, .inl ⟨ha, fun dx hdx hne => ?_⟩⟩
    exact q dx hdx hne
theorem xfl_nil {T : Tx} {f : Str} : ∀ c ∈ ([] : List Nat), XFld T f c := fun _ h => nomatch h
theorem xfl_cons {T : Tx} {f : Str} {k : Nat} {cs : List Nat} (h : XFld T f k) (r : ∀ c ∈ cs, XFld T f c) : ∀ c ∈ k :: cs, XFld T f c := fun c hc => by
  rcases List.mem_cons.mp hc with rfl | hc
  · exact h
  · exact r c hc
/-! ### sorted(x), x of alike data -/
section
variable {T : Tx} {Wx : WX} {X : Cx} {e e2 o : Expr} {g g0 g1 : Gh} {H H0 H1 : Hp} {c : Chk} {S S1 : Store} {ds : Env} {σ : SV} {pos : Pos} {tg : Expr} {f1 f2 f3 : CE}
def leD (a b : D) : Bool := !PySem.W.dataLt (toPd b) (toPd a)
theorem leD_eq : leD = PySem.W.dataLe false toPd := by
  funext a b
  rw [PySem.W.dataLe_eq]
  rfl
def alikeAllD (xs : List D) : Bool := xs.all fun a => xs.all fun b => PySem.W.alike (toPd a) (toPd b)
def tupAll (xs : List D) : Bool := xs.all fun a => match toPd a with
  | .tuple (_ :: _) => true
  | _ => false
def atomAll (xs : List D) : Bool := xs.all fun a => match toPd a with
  | .none => false
  | .tuple _ => false
  | _ => true
def okSrt (xs : List D) : Bool := (isPds xs && alikeAllD xs) && ((tupAll xs || atomAll xs) && xs.all fun a => decide ((toPd a).depth < 100))
def bSorted : List Wv → M Wv := fun ws S => match ws with
  | [w] => match viewR S w with
    | some xs => if okSrt xs then .ok (.ow (.lst (xs.mergeSort leD))) S else .bad
    | none => .bad
  | _ => .bad
def rSortedD (K : PySem.W.Frag) : List V → Hp → VK → Prop := fun vs H Q => ∃ (a : Addr) (ys : List V) (xs : List D) (Tx' : Tx) (g' : Gh), vs = [.ref a] ∧ SqL K H a ys ∧ Tx'.K = K ∧ Reps Tx' g' H xs ys ∧ okSrt xs = true ∧
  ∀ (zs : List V) (p : Addr), Reps Tx' g' H (xs.mergeSort leD) zs → H p = none → Q (.ref p) (upd H p (.lst zs))
theorem each_reps {T : Tx} {g : Gh} {H : Hp} : ∀ {xs : List D} {ys : List V} {us : List Value}, Reps T g H xs ys → Vals ys us → PySem.W.EachIs (fun v d => ∃ y, RelV y v ∧ Rep T g H d y) us xs
  | _, _, _, .nil, r => by
    cases r
    exact .nil
  | _, _, _, .cons h t, r => by
    cases r with
    | cons h1 t1 => exact .cons ⟨_, h1, h⟩ (each_reps t t1)
theorem reps_each {T : Tx} {g : Gh} {H : Hp} : ∀ {xs : List D} {us : List Value}, PySem.W.EachIs (fun v d => ∃ y, RelV y v ∧ Rep T g H d y) us xs → ∃ ys, Reps T g H xs ys ∧ Vals ys us
  | _, _, .nil => ⟨[], .nil, .nil⟩
  | _, _, .cons ⟨y, h1, h⟩ t => by
    obtain ⟨ys, r1, r2⟩ := reps_each t
    exact ⟨y :: ys, .cons h r1, .cons h1 r2⟩
theorem each_reads {pins : List (Addr × Obj)} {s : Shared} {T : Tx} {g : Gh} {H : Hp} (hK : T.K = X.K) (I : Inv X pins σ H s) : ∀ {xs : List D} {ys : List V} {us : List Value}, Reps T g H xs ys → Vals ys us → isPds xs = true → PySem.W.EachIs (fun v d => ∃ as, Reads s.heap v (toPd d) as) us xs
  | _, _, _, .nil, r, _ => by
    cases r
    exact .nil
  | _, _, _, .cons h t, r, hp => by
    rw [isPds, Bool.and_eq_true] at hp
    cases r with
    | cons h1 t1 => exact .cons (Dp.reads I _ _ _ (hK ▸ toPd_ok h hp.1) h1) (each_reads hK I t t1 hp.2)
theorem cr_sortedD (hu : X.A.units + 200 < cLine) : CallR X (.builtin "sorted") (rSortedD X.K) := by
  intro pins s σ H vs us Q I r h
  obtain ⟨a, ys, xs, T, g', rfl, hs, hK, rp, ok, q⟩ := h
  obtain ⟨its, rv, hl, hz⟩ := I.list hs
  rw [Vals.ref1 r]
  unfold okSrt at ok
  simp only [Bool.and_eq_true] at ok
  obtain ⟨⟨o1, o2⟩, o3, o4⟩ := ok
  have hal : PySem.W.AllAlike (xs.map toPd) := fun d hd d' hd' => by
    obtain ⟨x, hx, rfl⟩ := List.mem_map.mp hd
    obtain ⟨x', hx', rfl⟩ := List.mem_map.mp hd'
    unfold alikeAllD at o2
    exact List.all_eq_true.mp (List.all_eq_true.mp o2 x hx) x' hx'
  have hsk : PySem.W.Sortable (xs.map toPd) := by
    rcases Bool.or_eq_true_iff.mp o3 with o3 | o3
    · refine .inl fun d hd => ?_
      obtain ⟨x, hx, rfl⟩ := List.mem_map.mp hd
      have z := List.all_eq_true.mp o3 x hx
      split at z
      · rename_i y r e
        exact ⟨y, r, e⟩
      · cases z
    · refine .inr fun d hd => ?_
      obtain ⟨x, hx, rfl⟩ := List.mem_map.mp hd
      have z := List.all_eq_true.mp o3 x hx
      split at z
      · cases z
      · cases z
      · rename_i n1 n2
        exact ⟨n1, fun xs e => n2 xs e⟩
  have hd : ∀ b, b ∈ xs → X.A.units + 2 + (toPd b).depth < cLine := fun b hb => by
    have z := of_decide_eq_true (List.all_eq_true.mp o4 b hb)
    omega
  have hlen : xs.length = ys.length := rp.length
  refine PySem.W.sorted_data (enc := toPd) hl.isList (each_reps rp rv) (each_reads hK I rp rv o1) hal hsk (by rw [hlen]; exact hz) hd fun out h1 h2 => ?_
  obtain ⟨zs, k1, k2⟩ := reps_each h2
  obtain ⟨ep, he'⟩ := PyProof.Rows.sortedAll_at s.heap its out.toArray
  have hlen2 : zs.length ≤ sizeLine := by
    rw [← k1.length, List.length_mergeSort, hlen]
    exact hz
  exact ⟨.ref _, upd H (s.heap.objs.size + 1) (.lst zs), I.laid (t' := s.toks) (fun _ _ => PyProof.Rows.sortedAll_old) (Nat.le_succ _) ⟨hlen2, out, ep, k2, he'⟩, rfl, q _ _ (by rw [leD_eq]; exact k1) (I.hok.fresh (Nat.le_succ _))⟩
theorem v_sorted : VC T Wx (rSortedD T.K) bSorted := by
  intro g H S σ ws vs Q rs rv p
  unfold bSorted at p
  split at p
  · rename_i w
    cases rv with
    | cons r1 r2 =>
      cases r2
      split at p
      · rename_i xs hx
        split at p
        · rename_i hz
          obtain ⟨a, us, rfl, h1, r⟩ := viewR_ok rs r1 hx
          refine ⟨a, us, xs, T, g, rfl, h1, rfl, r, hz, fun zs p0 k hq => ?_⟩
          obtain ⟨g2, e2, rs2, rw2⟩ := alloc_ow (so := .lst (xs.mergeSort leD)) rs hq (ho := .lst zs) fun g' H' fx => .lst (k.fix fx)
          exact p g2 _ _ e2 rs2 rw2
        · exact p.elim
      · exact p.elim
  · exact p.elim
theorem Bd.crSorted {mg : Str → Option Value} {P : Program} {w : World} {base : Heap} {k : Nat} (B : Bd T mg P w base k Wx X) : CallR X (.builtin "sorted") (rSortedD T.K) := B.hK ▸ cr_sortedD B.un
end
end Mir
set_option Elab.async false
set_option linter.all false
set_option maxRecDepth 100000
/-! Mir23: a slot's own thing lent: frozen for a while, and the slot's own again. -/
namespace Mir
open PySem PySem.Spec PyProof.Rows L2
/-! ### what holds no list -/
mutual
def noLst : D → Bool
  | .lst _ => false
  | .scr _ => false
  | .dct kvs => noLstK kvs
  | .tup xs => noLsts xs
  | .ins _ fs => noLstF fs
  | _ => true
def noLsts : List D → Bool
  | [] => true
  | a :: r => noLst a && noLsts r
def noLstK : List (Key × D) → Bool
  | [] => true
  | (_, a) :: r => noLst a && noLstK r
def noLstF : List (Str × D) → Bool
  | [] => true
  | (_, a) :: r => noLst a && noLstF r
end
section
variable {T : Tx} {Wx : WX} {X : Cx} {e : Expr} {g g0 g1 g' : Gh} {H H0 H1 H' : Hp} {c : Chk} {S S1 : Store} {ds : Env} {σ : SV} {st : Stmt} {a : Addr}
/-- a is a list again that is only the slot's -/
abbrev Gh.with (g : Gh) (a : Addr) : Gh := ⟨g.io, fun b => g.L b ∨ b = a⟩
abbrev Gh.less (g : Gh) (a : Addr) : Gh := ⟨g.io, fun b => g.L b ∧ b ≠ a⟩
mutual
theorem Rep.back {vs : List V} (ha : H a = some (.lst vs)) : ∀ {d : D} {v : V}, Rep T g H d v → noLst d = true → Rep T (g.with a) H d v
  | _, _, .non, _ => .non
  | _, _, .bl b, _ => .bl b
  | _, _, .int i, _ => .int i
  | _, _, .str x, _ => .str x
  | _, _, .tup h n r, q => .tup h (fun z => z.elim n fun e => by rw [e, ha] at h; cases h) (Reps.back ha r (by rw [noLst] at q; exact q))
  | _, _, .lst _ _ _, q => by simp [noLst] at q
  | _, _, .scr _, q => by simp [noLst] at q
  | _, _, .dct h n r, q => .dct h (fun z => z.elim n fun e => by rw [e, ha] at h; cases h) (RepK.back ha r (by rw [noLst] at q; exact q))
  | _, _, .ins h n r, q => .ins h (fun z => z.elim n fun e => by rw [e, ha] at h; cases h) (RepF.back ha r (by rw [noLst] at q; exact q))
  | _, _, .ref h, _ => .ref h
theorem Reps.back {vs : List V} (ha : H a = some (.lst vs)) : ∀ {ds : List D} {us : List V}, Reps T g H ds us → noLsts ds = true → Reps T (g.with a) H ds us
  | _, _, .nil, _ => .nil
  | _, _, .cons h r, q => by
    rw [noLsts, Bool.and_eq_true] at q
    exact .cons (Rep.back ha h q.1) (Reps.back ha r q.2)
theorem RepK.back {vs : List V} (ha : H a = some (.lst vs)) : ∀ {ds : List (Key × D)} {us : List (Key × V)}, RepK T g H ds us → noLstK ds = true → RepK T (g.with a) H ds us
  | _, _, .nil, _ => .nil
  | _, _, .cons h r, q => by
    rw [noLstK, Bool.and_eq_true] at q
    exact .cons (Rep.back ha h q.1) (RepK.back ha r q.2)
theorem RepF.back {vs : List V} (ha : H a = some (.lst vs)) : ∀ {ds : List (Str × D)} {us : List (Str × V)}, RepF T g H ds us → noLstF ds = true → RepF T (g.with a) H ds us
  | _, _, .nil, _ => .nil
  | _, _, .cons h r, q => by
    rw [noLstF, Bool.and_eq_true] at q
    exact .cons (Rep.back ha h q.1) (RepF.back ha r q.2)
end
theorem FR.lend {i : Nat} {so : SO} (fr : FR T g0 H0 c g H S ds σ) (h : ds[i]? = some (some (.ow so))) (ha : σ[i]? = some (some (.ref a))) : FR T g0 H0 c (g.less a) H S (ds.set i (some (.fz (Wv.ow so).frz))) σ := by
  obtain ⟨a', ha', o⟩ := fr.env.ow i so h
  rw [ha] at ha'
  cases ha'
  obtain ⟨ho, hH, p⟩ := o.obj
  have hi : i < ds.length := (List.getElem?_eq_some_iff.mp h).1
  have fx : Fix g H (g.less a) H := ⟨⟨[], by simp⟩, fun b u hb n => ⟨hb, fun z => n z.1⟩⟩
  have na : ¬ (g.L a ∧ a ≠ a) := fun z => z.2 rfl
  refine ⟨⟨fr.ext.pre, fr.ext.trk, fun b u hb => ?_, fr.ext.kp⟩, ⟨fr.st.len, fr.st.nd, fun b hb => ⟨fr.st.liv b hb, fun z => o.nio (z ▸ hb)⟩, fun n so' b h1 h2 => ?_⟩,
    ⟨by simpa using fr.env.len, fun j d hj => ?_, fun j so' hj => ?_, fun j k so1 so2 b ne h1 h2 h3 h4 => ?_, fun j hj => ?_⟩, fun b u hb => ⟨(fr.fz b u hb).1, fun z => (fr.fz b u hb).2 z.1⟩, fr.io, fun b u hb => ⟨(fr.ln b u hb).1, fun z => (fr.ln b u hb).2 z.1⟩⟩
  · have nb : b ≠ a := fun z => by
      rw [z, o.new] at hb
      cases hb
    exact ⟨fun z => (fr.ext.liv b u hb).mp z.1, fun z => ⟨(fr.ext.liv b u hb).mpr z, nb⟩⟩
  · obtain ⟨ho', h3, p'⟩ := fr.st.obj n so' b h1 h2
    exact ⟨ho', h3, p'.fix fx⟩
  · by_cases e : i = j
    · subst e
      rw [List.getElem?_set_self hi] at hj
      cases hj
      refine ⟨_, ha, ?_⟩
      have p2 := p.fix fx
      cases p2 with
      | lst r => exact .lst hH na r
      | dct r => exact .dct hH na r
      | ins r => exact .ins hH na r
    · rw [List.getElem?_set_ne e] at hj
      obtain ⟨v, hv, rv⟩ := fr.env.fz j d hj
      exact ⟨v, hv, rv.fix fx⟩
  · by_cases e : i = j
    · subst e
      rw [List.getElem?_set_self hi] at hj
      cases hj
    · rw [List.getElem?_set_ne e] at hj
      obtain ⟨b, hb, ob⟩ := fr.env.ow j so' hj
      have nb : b ≠ a := fun z => fr.env.ne i j so so' a e h hj ha (z ▸ hb)
      obtain ⟨ho', h3, p'⟩ := ob.obj
      exact ⟨b, hb, ob.new, ⟨ob.liv, nb⟩, ob.nio, ho', h3, p'.fix fx⟩
  · have f : ∀ {m : Nat} {s : SO}, (ds.set i (some (Wv.fz (Wv.ow so).frz)))[m]? = some (some (.ow s)) → ds[m]? = some (some (.ow s)) := fun {m s} q => by
      by_cases e : i = m
      · subst e
        rw [List.getElem?_set_self hi] at q
        cases q
      · rw [List.getElem?_set_ne e] at q
        exact q
    exact fr.env.ne j k so1 so2 b ne (f h1) (f h2) h3 h4
  · by_cases e : i = j
    · subst e
      rw [List.getElem?_set_self hi] at hj
      cases hj
    · rw [List.getElem?_set_ne e] at hj
      exact fr.env.xc j hj
/-- back from a run in which it was lent -/
theorem Ext.back {vs : List V} (e : Ext (g.less a) H g' H') (ha : H a = some (.lst vs)) (hl : g.L a) : Ext g H (g'.with a) H' := by
  refine ⟨e.pre, e.trk, fun b o hb => ?_, e.kp⟩
  have h := e.liv b o hb
  by_cases q : b = a
  · subst q
    exact ⟨fun _ => hl, fun _ => .inr rfl⟩
  · exact ⟨fun z => (h.mp (z.elim id fun w => (q w).elim)).1, fun z => .inl (h.mpr ⟨z, q⟩)⟩
def noLstO : SO → Bool
  | .lst xs => noLsts xs
  | .dct kvs => noLstK kvs
  | .ins _ fs => noLstF fs
def noLstS (S : Store) : Bool := S.all noLstO
@[simp] theorem noLstS_nil : noLstS [] = true := rfl
theorem RepO.back {vs : List V} (ha : H a = some (.lst vs)) {o : SO} {ho : HO} (r : RepO T g H o ho) (q : noLstO o = true) : RepO T (g.with a) H o ho := by
  cases r with
  | lst r => exact .lst (Reps.back ha r q)
  | dct r => exact .dct (RepK.back ha r q)
  | ins r => exact .ins (RepF.back ha r q)
theorem RelS.back {vs : List V} (rs : RelS T g S H) (ha : H a = some (.lst vs)) (q : noLstS S = true) : RelS T (g.with a) S H := by
  refine ⟨rs.len, rs.nd, fun b hb => .inl (rs.liv b hb), fun n o b h1 h2 => ?_⟩
  obtain ⟨ho, h3, p⟩ := rs.obj n o b h1 h2
  exact ⟨ho, h3, p.back ha (List.all_eq_true.mp q o (List.mem_of_getElem? h1))⟩
def noLstW : Wv → Bool
  | .fz d => noLst d
  | .ow so => noLstO so
  | .xc => false
def lendR {α : Type} (ok : α → Bool) : R α → R α
  | .ok w S => if ok w && noLstS S then .ok w S else .bad
  | .ex x S => if noLstS S then .ex x S else .bad
  | .bad => .bad
def lendE {α : Type} (i : Nat) (ok : α → Bool) (f : Env → M α) : Env → M α := fun ds S => match ds[i]? with
  | some (some (.ow (.lst xs))) => lendR ok (f (ds.set i (some (.fz (.lst xs)))) S)
  | _ => .bad
theorem lend_post {α β : Type} {r : Rl α β} {ok : α → Bool} {i : Nat} {xs : List D} {f : Env → M α} {Q : β → Hp → Prop}
    (hr : ∀ {g' H' w v vs}, H a ≠ none → H' a = some (.lst vs) → r H g' H' w v → ok w = true → r H (g'.with a) H' w v)
    (fr : FR T g0 H0 c g H S ds σ) (h : ds[i]? = some (some (.ow (.lst xs)))) (ha : σ[i]? = some (some (.ref a)))
    (p : PostG T Wx (r H) g H σ Q (lendR ok (f (ds.set i (some (.fz (.lst xs)))) S))) : tG T Wx r f σ H Q := by
  obtain ⟨a', ha', o⟩ := fr.env.ow i _ h
  rw [ha] at ha'
  cases ha'
  obtain ⟨ho, hH, pr⟩ := o.obj
  cases pr with
  | @lst _ vs rl =>
    have fr' := fr.lend h ha
    refine ⟨g0, H0, c, g.less a, S, _, fr', ?_⟩
    have keep : ∀ {g' H'}, Ext (g.less a) H g' H' → H' a = some (.lst vs) := fun e => (e.kp a _ hH o.nio).1
    have p : PostG T Wx (r H) g H σ Q (lendR ok (f (ds.set i (some (.fz (Wv.ow (.lst xs)).frz))) S)) := p
    generalize f (ds.set i (some (.fz (Wv.ow (.lst xs)).frz))) S = z at p
    cases z with
    | ok w S' =>
      have p : PostG T Wx (r H) g H σ Q (if (ok w && noLstS S') = true then .ok w S' else .bad) := p
      by_cases hz : (ok w && noLstS S') = true
      · rw [if_pos hz] at p
        rw [Bool.and_eq_true] at hz
        intro g' H' v e rs rv
        exact p (g'.with a) H' v (e.back hH o.liv) (rs.back (keep e) hz.2) (hr (by rw [hH]; exact fun z => nomatch z) (keep e) rv hz.1)
      · rw [if_neg hz] at p
        exact p.elim
    | ex x S' =>
      have p : PostG T Wx (r H) g H σ Q (if noLstS S' = true then .ex x S' else .bad) := p
      by_cases hz : noLstS S' = true
      · rw [if_pos hz] at p
        intro g' H' cls dx e rs rx
        refine p (g'.with a) H' cls dx (e.back hH o.liv) (rs.back (keep e) hz) ⟨rx.1, ?_⟩
        have rx2 := rx.2
        split at rx2
        · exact rx2
        · obtain ⟨b, h1, h2, h3⟩ := rx2
          exact ⟨b, h1, h2, fun z => z.elim h3 fun q => by
            rw [q, keep e] at h2
            cases h2⟩
      · rw [if_neg hz] at p
        exact p.elim
    | bad => exact p.elim
def cLendT (i : Nat) (p : Env → M Bool) : Env → M Bool := lendE i (fun _ => true) p
theorem jt_lend (i : Nat) {p : Env → M Bool} (h : JT T Wx X e p) : JT T Wx X e (cLendT i p) := PT.imp h fun σ H Q ⟨g0, H0, c, g, S, ds, fr, q⟩ => by
  unfold cLendT lendE at q
  split at q
  · rename_i xs hx
    obtain ⟨a, ha, _⟩ := fr.env.ow i _ hx
    exact lend_post (r := RT) (ok := fun _ => true) (f := p) (fun _ _ r _ => r) fr hx ha q
  · exact q.elim
def cLend (i : Nat) (f : CE) : CE := lendE i noLstW f
theorem je_lend (i : Nat) {f : CE} (h : JE T Wx X e f) : JE T Wx X e (cLend i f) := PE.imp h fun σ H Q ⟨g0, H0, c, g, S, ds, fr, q⟩ => by
  unfold cLend lendE at q
  split at q
  · rename_i xs hx
    obtain ⟨a, ha, _⟩ := fr.env.ow i _ hx
    refine lend_post (r := RW T) (ok := noLstW) (f := f) (fun {g' H' w v vs} hn hv r hz => ?_) fr hx ha q
    cases w with
    | fz d => exact Rep.back hv r hz
    | xc => exact r.elim
    | ow so =>
      obtain ⟨b, eb, ow⟩ := r
      obtain ⟨ho, h1, h2⟩ := ow.obj
      exact ⟨b, eb, ow.new, .inl ow.liv, ow.nio, ho, h1, h2.back hv hz⟩
  · exact q.elim
end
end Mir
set_option Elab.async false
set_option linter.all false
set_option maxRecDepth 100000
set_option maxHeartbeats 2000000
/-! Mir24: sorted(x, key=f) where f is a def of the text. -/
namespace Mir
open PySem PySem.Spec PyProof.Rows L2
section
variable {X : Cx} {pins : List (Addr × Obj)} {σ : SV} {H : Hp} {s : Shared} {a b : Addr} {E : Value → Shared → Prop}
/-- a new object of ours stands behind all, known as it is -/
theorem Inv.pushed {o : Obj} {t' : Nat} (I : L2.Inv X pins σ H s) (hc : ∀ v, o.data ≠ .cell v) (hf : o.isFreed = false) : L2.Inv X ((s.heap.objs.size, o) :: pins) σ H { s with heap := s.heap.push o, toks := t' } := by
  have k : ∀ c u, s.heap.get? c = some u → (s.heap.push o).get? c = some u := fun c u e => Heap.get?_push_of_some _ e
  have I1 : L2.Inv X pins σ H { s with heap := s.heap.push o, toks := t' } := I.kept k
  refine I1.pins_of fun p hp => ?_
  rcases List.mem_cons.mp hp with rfl | hp
  · exact ⟨Heap.get?_push_size _ hf, I.hok.fresh (Nat.le_refl _), Nat.ne_of_gt I.lt, I.nofs (Nat.le_refl _), hc⟩
  · exact I1.pin p (List.mem_append_right _ hp)
/-- a known object of ours changes -/
theorem Inv.changed {o o' : Obj} {t' : Nat} {h' : Heap} {p1 p2 : List (Addr × Obj)} (I : L2.Inv X (p1 ++ (a, o) :: p2) σ H s) (hs : X.s_0.heap.objs.size ≤ a) (h1 : ∀ p ∈ X.pn ++ (p1 ++ p2), p.1 ≠ a) (k : ∀ c u, c ≠ a → s.heap.get? c = some u → h'.get? c = some u) (e : h'.get? a = some o') (hc : ∀ v, o'.data ≠ .cell v) :
    L2.Inv X (p1 ++ (a, o') :: p2) σ H { s with heap := h', toks := t' } := by
  obtain ⟨q1, q2, q3, q4, q5⟩ := I.pin (a, o) (List.mem_append_right _ (List.mem_append_right _ List.mem_cons_self))
  have I1 : L2.Inv X (p1 ++ p2) σ H s := I.pins_of fun p hp => I.pin p (List.mem_append_right _ (by
    rcases List.mem_append.mp hp with hp | hp
    · exact List.mem_append_left _ hp
    · exact List.mem_append_right _ (List.mem_cons_of_mem _ hp)))
  have nc : ∀ x c, X.env.cells.lookup x = some c → c ≠ a := fun x c hx z => by
    obtain ⟨v, u, hu, hd⟩ := I.cell x c hx
    rw [z, q1] at hu
    cases hu
    exact q5 v hd
  have I2 : L2.Inv X (p1 ++ p2) σ H { s with heap := h', toks := t' } := I1.turned (it := a) k q2 q3 (.inr hs) nc h1
  refine I2.pins_of fun p hp => ?_
  rcases List.mem_append.mp hp with hp | hp
  · exact I2.pin p (List.mem_append_right _ (List.mem_append_left _ hp))
  · rcases List.mem_cons.mp hp with rfl | hp
    · exact ⟨e, q2, q3, q4, hc⟩
    · exact I2.pin p (List.mem_append_right _ (List.mem_append_right _ hp))
/-- a known object of ours is tracked from here on -/
theorem Inv.adopt {o : Obj} {ho : HO} (I : L2.Inv X ((a, o) :: pins) σ H s) (hs : X.s_0.heap.objs.size ≤ a) (h1 : ∀ p ∈ X.pn ++ pins, p.1 ≠ a) (new : ObjOk X.prog X.w (upd H a ho) s.heap a ho) : L2.Inv X pins σ (upd H a ho) s := by
  obtain ⟨q1, q2, q3, q4, q5⟩ := I.pin (a, o) (List.mem_append_right _ List.mem_cons_self)
  have q2 : H a = none := q2
  have ne : ∀ {c u}, H c = some u → c ≠ a := fun {c u} e z => by
    rw [z, q2] at e
    cases e
  have lt : ∀ c u, X.s_0.heap.get? c = some u → c ≠ a := fun c u e z => absurd (Nat.lt_of_lt_of_le (Heap.lt_size e) hs) (by rw [z]; exact Nat.lt_irrefl _)
  refine ⟨I.ok, I.os, I.bare, ⟨I.base.keep, I.base.slot, fun c u e n hx => ?_, I.base.there, fun c xs e => ?_, fun c u xs e => ?_, fun c ps e => ?_⟩, I.loc, I.cell, ?_, fun x c e => ?_, fun p hp => ?_, fun c u e => ?_, I.len⟩
  · rw [upd_ne (lt c u e)]
    exact I.base.free c u e n hx
  · have := I.base.tups c xs e
    rw [upd_ne (ne this)]
    exact this
  · have := I.base.frzs c u xs e
    rw [upd_ne (ne this)]
    exact this
  · obtain ⟨more, this⟩ := I.base.tbls c ps e
    exact ⟨more, by rw [upd_ne (ne this)]; exact this⟩
  · rw [upd_ne fun z => q3 z.symm]
    exact I.free
  · have : c ≠ a := fun z => by
      obtain ⟨v, u, hu, hd⟩ := I.cell x c e
      rw [z] at hu
      have q1 : s.heap.get? a = some o := q1
      rw [q1] at hu
      cases hu
      exact q5 v hd
    rw [upd_ne this]
    exact I.freeC x c e
  · have hp' : p ∈ X.pn ++ (a, o) :: pins := by
      rcases List.mem_append.mp hp with hp | hp
      · exact List.mem_append_left _ hp
      · exact List.mem_append_right _ (List.mem_cons_of_mem _ hp)
    obtain ⟨z1, z2, z3⟩ := I.pin p hp'
    exact ⟨z1, by rw [upd_ne (h1 p hp)]; exact z2, z3⟩
  · by_cases hb : c = a
    · subst hb
      rw [upd_same] at e
      cases e
      exact new
    · rw [upd_ne hb] at e
      exact (I.hok c u e).stay (fun _ _ _ q => q) (fun d q => by rw [upd_ne (ne q)]; exact q) fun d xs q => by rw [upd_ne (ne q)]; exact q
/-! the sort itself, where what the key's calls keep is the invariant -/
variable {f : Value} {vs : List Value} {kz : List PyData} {pn : List (Addr × Obj)}
theorem nocell {T : String} {xs : Array Value} {n : Nat} : ∀ v, (seqObj T xs n).data ≠ .cell v := fun v z => by cases z
/-- the two lists of the sort stand apart from all else that is known -/
structure Apart (X : Cx) (pins : List (Addr × Obj)) (a b : Addr) : Prop where
  sa : X.s_0.heap.objs.size ≤ a
  sb : X.s_0.heap.objs.size ≤ b
  ne : b ≠ a
  pa : ∀ p ∈ X.pn ++ pins, p.1 ≠ a
  pb : ∀ p ∈ X.pn ++ pins, p.1 ≠ b
theorem srt_tail {st : SortSt} {out : List Value} {keys : Array Value} {e e1 : Nat} {P : PySem.Fin → Shared → Prop} (ap : Apart X pins a b) (I : L2.Inv X ((b, seqObj "list" keys e) :: (a, seqObj "list" #[] e1) :: pins) σ H s)
    (hsz : keys.size ≤ sizeLine) (hz : out.length ≤ sizeLine) (hfl : failedOf st = none) (ho : (arrOf st).map (·.2) = out.toArray)
    (h : ∀ s' c, L2.Inv X ((a, seqObj "list" out.toArray c) :: pins) σ H s' → P (.done (.ret .none)) s') :
    wpAny (model X.prog X.w) (X.A.in1.in1) (ksk_tail a false e1 (.ref b) st) P E s := by
  have nb := (I.pin (b, seqObj "list" keys e) (List.mem_append_right _ List.mem_cons_self)).1
  have na := (I.pin (a, seqObj "list" #[] e1) (List.mem_append_right _ (List.mem_cons_of_mem _ List.mem_cons_self))).1
  have s1 := Heap.SameBut.update s.heap b (Obj.mapSeq fun _ => (#[] : Array Value))
  obtain ⟨c1, hc1⟩ : ∃ c1, (s.heap.update b (Obj.mapSeq fun _ => (#[] : Array Value))).get? b = some (seqObj "list" #[] c1) := ⟨_, get?_update_seq nb fun _ => #[]⟩
  have na1 : (s.heap.update b (Obj.mapSeq fun _ => (#[] : Array Value))).get? a = some (seqObj "list" #[] e1) := (s1.2 a ap.ne.symm).trans na
  have I1 : L2.Inv X ([] ++ (b, seqObj "list" #[] c1) :: ((a, seqObj "list" #[] e1) :: pins)) σ H { s with heap := s.heap.update b (Obj.mapSeq fun _ => (#[] : Array Value)) } := Inv.changed (t' := s.toks) (p1 := []) (p2 := (a, seqObj "list" #[] e1) :: pins) I ap.sb (fun p hp => by
    rcases List.mem_append.mp hp with hp | hp
    · exact ap.pb p (List.mem_append_left _ hp)
    · rcases List.mem_cons.mp hp with rfl | hp
      · exact ap.ne.symm
      · exact ap.pb p (List.mem_append_right _ hp)) (fun c u hc q => (s1.2 c hc).trans q) hc1 nocell
  have s2 := Heap.SameBut.update (s.heap.update b (Obj.mapSeq fun _ => (#[] : Array Value))) a (Obj.mapSeq fun _ => out.toArray)
  obtain ⟨c2, hc2⟩ : ∃ c2, ((s.heap.update b (Obj.mapSeq fun _ => (#[] : Array Value))).update a (Obj.mapSeq fun _ => out.toArray)).get? a = some (seqObj "list" out.toArray c2) := ⟨_, get?_update_seq na1 fun _ => out.toArray⟩
  have hz2 : out.toArray.size ≤ sizeLine + 1 := by
    rw [List.size_toArray]
    exact Nat.le_succ_of_le hz
  have I2 : L2.Inv X ([(b, seqObj "list" #[] c1)] ++ (a, seqObj "list" out.toArray c2) :: pins) σ H { s with heap := (s.heap.update b (Obj.mapSeq fun _ => (#[] : Array Value))).update a (Obj.mapSeq fun _ => out.toArray) } := Inv.changed (s := { s with heap := s.heap.update b (Obj.mapSeq fun _ => (#[] : Array Value)) }) (t' := s.toks) (p1 := [(b, seqObj "list" #[] c1)]) (p2 := pins) I1 ap.sa (fun p hp => by
    rcases List.mem_append.mp hp with hp | hp
    · exact ap.pa p (List.mem_append_left _ hp)
    · rcases List.mem_cons.mp hp with rfl | hp
      · exact ap.ne
      · exact ap.pa p (List.mem_append_right _ hp)) (fun c u hc q => (s2.2 c hc).trans q) hc2 nocell
  unfold ksk_tail
  simp only [Bool.false_eq_true, if_false]
  rw [ho]
  refine wpAny_bind (listUpdate_at nb rfl ?_ hsz (Nat.zero_le _))
  refine wpAny_bind (wpAny_letGo ?_)
  refine wpAny_bind (seqEpoch_at na1 rfl ?_)
  refine wpAny_bind (listUpdate_at na1 rfl ?_ (Nat.zero_le _) hz2)
  rw [hfl]
  simp only [bne_self_eq_false, Bool.false_eq_true, if_false]
  exact wpAny_pure (h _ c2 (I2.pins_of fun p hp => I2.pin p (List.mem_append_right _ (List.mem_cons_of_mem _ hp))))
theorem srt_end {κ : PyProof.Rows.KeyKind} {keys : Array Value} {e e1 : Nat} {P : PySem.Fin → Shared → Prop} (ap : Apart X pins a b) (I : L2.Inv X ((b, seqObj "list" keys e) :: (a, seqObj "list" #[] e1) :: pins) σ H s)
    (Sa : PySem.W.SortsAt X.prog X.w X.A.in1.in1 s κ keys.toList) (hsz : keys.size = vs.length) (hZ : vs.length ≤ sizeLine)
    (h : ∀ s' c, L2.Inv X ((a, seqObj "list" (PySem.W.sortVals κ false keys.toList vs).toArray c) :: pins) σ H s' → P (.done (.ret .none)) s') :
    wpAny (model X.prog X.w) (X.A.in1.in1) (ksk_end a false vs.toArray e1 (.ref b) keys) P E s := by
  obtain ⟨kd, h1, h2⟩ := Sa.kind
  have hkl : keys.toList.length = vs.length := by rw [Array.length_toList]; exact hsz
  have hK : PyProof.Rows.KeysOf κ (keys.zip vs.toArray) := PySem.W.keysOf_zip Sa.keys
  have hol : (PySem.W.sortVals κ false keys.toList vs).length = vs.length := PySem.W.sortVals_length false hkl
  have hss : (keys.zip vs.toArray).size = vs.length := by rw [Array.size_zip, hsz, List.size_toArray, Nat.min_self]
  have fin : ∀ st' : SortSt, (arrOf st').Perm (keys.zip vs.toArray) → SortedToK κ (arrOf st') (keys.zip vs.toArray).size → Stable κ (arrOf st') (keys.zip vs.toArray) → (arrOf st').map (·.2) = (PySem.W.sortVals κ false keys.toList vs).toArray := by
    intro st' hp hs ht
    have q := PySem.W.sort_out (rev := false) (keys := keys) (items := vs.toArray) (xs := arrOf st') (κ := κ) hK (by simpa using hp) (by simpa using hs) (by simpa using ht)
    rw [if_neg Bool.false_ne_true] at q
    have q := congrArg List.toArray q
    rwa [Array.toArray_toList] at q
  unfold ksk_end
  simp only [Bool.false_eq_true, if_false]
  by_cases hl2 : vs.toArray.size < 2
  · rw [if_pos hl2, if_pos hl2]
    refine wpAny_bind (wpAny_pure ?_)
    rw [StateT.run_pure]
    refine wpAny_bind (wpAny_pure ?_)
    refine srt_tail (st := SortSt.mk' general' (keys.zip vs.toArray) #[] 7 none) ap I (by rw [hsz]; exact hZ) (by rw [hol]; exact hZ) rfl (fin _ (Array.Perm.refl _) ?_ (Stable.refl _)) h
    intro i j hij hj
    rw [hss] at hj
    rw [List.size_toArray] at hl2
    have : i = j := by omega
    subst this
    exact KeyOrd.kle_refl _
  · rw [if_neg hl2, if_neg hl2]
    rw [List.size_toArray] at hl2
    refine wpAny_bind (h2 (by omega) _ ?_)
    refine wpAny_bind (wpAny_mono (PyProof.Rows.H.wpS_sortRunsSt (κ := κ) (kd := kd) (a₀ := keys.zip vs.toArray) (st := SortSt.mk' kd (keys.zip vs.toArray) #[] 7 none)
      (Q := fun _ st' => failedOf st' = none ∧ (arrOf st').map (·.2) = (PySem.W.sortVals κ false keys.toList vs).toArray)
      h1 hK ⟨Array.Perm.refl _, rfl, rfl⟩ rfl (Stable.refl _) (by rw [hss]; omega) fun st' a1 a2 a3 a4 => ⟨a2, fin st' a1 a3 a4⟩) ?_ fun _ _ e => e)
    rintro ⟨⟨⟩, st'⟩ s' ⟨rfl, hf, ho⟩
    exact srt_tail ap I (by rw [hsz]; exact hZ) (by rw [hol]; exact hZ) hf ho h
/-- what the key's calls do -/
structure Keyed (X : Cx) (σ : SV) (f : Value) (vs : List Value) (kz : List PyData) (G : List Value → Hp → Prop) : Prop where
  turn : ∀ (pins' : List (Addr × Obj)) (ks : List Value) (v : Value) (H' : Hp) (s' : Shared), vs[ks.length]? = some v → L2.Inv X pins' σ H' s' → G ks H' →
    wpAny (model X.prog X.w) (X.A.in1.in1) (call f [v]) (fun u s'' => ∃ H'', L2.Inv X pins' σ H'' s'' ∧ G (ks ++ [u]) H'') (fun _ _ => False) s'
  read : ∀ (pins' : List (Addr × Obj)) (ks : List Value) (H' : Hp) (s' : Shared), L2.Inv X pins' σ H' s' → G ks H' → ks.length = vs.length → PySem.W.EachIs (fun v d => ∃ as, Reads s'.heap v d as) ks kz
  al : PySem.W.AllAlike kz
  so : PySem.W.Sortable kz
  un : ∀ d, d ∈ kz → X.A.units + 2 + d.depth < cLine
  len : kz.length = vs.length
theorem srt_rest {G : List Value → Hp → Prop} {e1 : Nat} {P : PySem.Fin → Shared → Prop} (kd : Keyed X σ f vs kz G) (ap : Apart X pins a b) (I : L2.Inv X ((b, seqObj "list" #[] 0) :: (a, seqObj "list" #[] e1) :: pins) σ H s) (hG : G [] H) (hZ : vs.length ≤ sizeLine)
    (h : ∀ s' H' ks out c, L2.Inv X ((a, seqObj "list" (List.toArray out) c) :: pins) σ H' s' → G ks H' → ks.length = vs.length → PySem.W.KeyedOut false kz vs out → P (.done (.ret .none)) s') :
    wpAny (model X.prog X.w) (X.A.in1.in1) (ksk_rest a f false vs.toArray e1 (.ref b)) P E s := by
  unfold ksk_rest
  refine wpAny_bind (wpAny_rule ?_)
  first
    | rw [List.forIn_toArray]
    | (rw [← Array.forIn_toList]; simp only [List.toList_toArray])
  refine wpAny_bind (ksk_fold (fun i s' => ∃ H' ks e, ks.length = i ∧ L2.Inv X ((b, seqObj "list" (List.toArray ks) e) :: (a, seqObj "list" #[] e1) :: pins) σ H' s' ∧ G ks H') vs 0 s ⟨H, [], 0, rfl, I, hG⟩ ?step ?done)
  case step =>
    rintro j x s' hx ⟨H', ks, e, hl, I', g⟩
    simp only [Nat.zero_add] at hl ⊢
    have hj : j < vs.length := (List.getElem?_eq_some_iff.mp hx).1
    refine wpAny_bind (wpAny_attempt (wpAny_mono (kd.turn _ ks x H' s' (by rw [hl]; exact hx) I' g) (fun u s'' q => ?_) fun _ _ hF => hF.elim))
    obtain ⟨H2, I2, g2⟩ := q
    have nb := (I2.pin (b, seqObj "list" (List.toArray ks) e) (List.mem_append_right _ List.mem_cons_self)).1
    have nb : s''.heap.get? b = some (seqObj "list" (List.toArray ks) e) := nb
    have s1 := Heap.SameBut.update s''.heap b (Obj.mapSeq (·.push u))
    have eu : (List.toArray ks).push u = List.toArray (ks ++ [u]) := by simp
    obtain ⟨c2, hc2⟩ : ∃ c2, (s''.heap.update b (Obj.mapSeq (·.push u))).get? b = some (seqObj "list" (List.toArray (ks ++ [u])) c2) := by
      rw [← eu]
      exact ⟨_, get?_update_seq nb (·.push u)⟩
    have hs : (List.toArray ks).size ≤ sizeLine := by rw [List.size_toArray]; omega
    refine wpAny_bind (listUpdate_at nb rfl ?_ hs (by rw [Array.size_push]; omega))
    refine wpAny_pure ⟨rfl, H2, ks ++ [u], c2, by rw [List.length_append, hl]; rfl, ?_, g2⟩
    exact Inv.changed (t' := s''.toks) (p1 := []) (p2 := (a, seqObj "list" #[] e1) :: pins) I2 ap.sb (fun p hp => by
      rcases List.mem_append.mp hp with hp | hp
      · exact ap.pb p (List.mem_append_left _ hp)
      · rcases List.mem_cons.mp hp with rfl | hp
        · exact ap.ne.symm
        · exact ap.pb p (List.mem_append_right _ hp)) (fun c u hc q => (s1.2 c hc).trans q) hc2 nocell
  case done =>
    rintro s' ⟨H', ks, e, hl, I', g⟩
    rw [Nat.zero_add] at hl
    have nb := (I'.pin (b, seqObj "list" (List.toArray ks) e) (List.mem_append_right _ List.mem_cons_self)).1
    have nb : s'.heap.get? b = some (seqObj "list" (List.toArray ks) e) := nb
    have rd := kd.read _ ks H' s' I' g hl
    refine wpAny_bind (listItems_at nb rfl ?_)
    refine srt_end (κ := PySem.W.dataKind s'.heap kz) ap I' (PySem.W.SortsAt.data rd kd.al kd.so kd.un) (by rw [List.size_toArray]; exact hl) hZ fun s3 c I3 => h s3 H' ks _ c I3 g hl ⟨s'.heap, ks, kd.al, rfl, rd⟩
theorem srt_tree {G : List Value → Hp → Prop} {n : Nat} {P : PySem.Fin → Shared → Prop} (kd : Keyed X σ f vs kz G) (hs : X.s_0.heap.objs.size ≤ a) (hp : ∀ p ∈ X.pn ++ pins, p.1 ≠ a) (I : L2.Inv X ((a, seqObj "list" vs.toArray n) :: pins) σ H s) (hG : G [] H) (hZ : vs.length ≤ sizeLine)
    (h : ∀ s' H' ks out c, L2.Inv X ((a, seqObj "list" (List.toArray out) c) :: pins) σ H' s' → G ks H' → ks.length = vs.length → PySem.W.KeyedOut false kz vs out → P (.done (.ret .none)) s') :
    wpAny (model X.prog X.w) (X.A.in1.in1) (ksk_tree a f false) P E s := by
  have na := (I.pin (a, seqObj "list" vs.toArray n) (List.mem_append_right _ List.mem_cons_self)).1
  have na : s.heap.get? a = some (seqObj "list" vs.toArray n) := na
  obtain ⟨e1, ho1⟩ : ∃ e1, (s.heap.update a (Obj.mapSeq fun _ => (#[] : Array Value))).get? a = some (seqObj "list" #[] e1) := ⟨_, get?_update_seq na fun _ => #[]⟩
  have s1 := Heap.SameBut.update s.heap a (Obj.mapSeq fun _ => (#[] : Array Value))
  have I1 : L2.Inv X ([] ++ (a, seqObj "list" #[] e1) :: pins) σ H { s with heap := s.heap.update a (Obj.mapSeq fun _ => (#[] : Array Value)) } := Inv.changed (t' := s.toks) (p1 := []) (p2 := pins) I hs hp (fun c u hc q => (s1.2 c hc).trans q) ho1 nocell
  have I2 := Inv.pushed (o := seqObj "tuple" vs.toArray 0) (t' := s.toks) I1 nocell rfl
  have I2' := I2.pins_of (pins' := (a, seqObj "list" #[] e1) :: pins) fun p hp => I2.pin p (List.mem_append_right _ (List.mem_cons_of_mem _ hp))
  have I3 := Inv.pushed (o := seqObj "list" #[] 0) (t' := s.toks) I2' nocell rfl
  unfold ksk_tree
  refine wpAny_bind (listItems_at na rfl ?_)
  refine wpAny_bind (listUpdate_at na rfl ?_ (by rw [List.size_toArray]; exact hZ) (Nat.zero_le _))
  refine wpAny_bind (seqEpoch_at ho1 rfl ?_)
  refine wpAny_bind (wpAny_newTuple ?_ (by show vs.length ≤ _; exact hZ))
  refine wpAny_bind (wpAny_newList ?_ (Nat.zero_le _))
  refine wpAny_holding ?_
  refine srt_rest kd (b := ((s.heap.update a (Obj.mapSeq fun _ => (#[] : Array Value))).push (seqObj "tuple" vs.toArray 0)).objs.size) ⟨hs, I2'.sz, ?_, hp, fun p hq => ?_⟩ I3 hG hZ h
  · have := I2'.pin (a, seqObj "list" #[] e1) (List.mem_append_right _ List.mem_cons_self)
    exact (Nat.ne_of_lt (Heap.lt_size this.1)).symm
  · have := I2'.pin p (by
      rcases List.mem_append.mp hq with hq | hq
      · exact List.mem_append_left _ hq
      · exact List.mem_append_right _ (List.mem_cons_of_mem _ hq))
    exact Nat.ne_of_lt (Heap.lt_size this.1)
/-- sorted(l, key=f) -/
theorem srt_keyed {G : List Value → Hp → Prop} {l : Addr} {q : Addr} {Q : Value → Shared → Prop} (hf : f = .ref q) (kd : Keyed X σ f vs kz G) (I : L2.Inv X pins σ H s) (hl : s.heap.IsList l vs.toArray) (hG : G [] H) (hZ : vs.length ≤ sizeLine)
    (h : ∀ s' H' ks out c p, H p = none → L2.Inv X ((p, seqObj "list" (List.toArray out) c) :: pins) σ H' s' → X.s_0.heap.objs.size ≤ p → (∀ x ∈ X.pn ++ pins, x.1 ≠ p) → G ks H' → ks.length = vs.length → PySem.W.KeyedOut false kz vs out → Q (.ref p) s') :
    wpAny (model X.prog X.w) X.A (call (.builtin "sorted") [.ref l] [(Str.ofString "key", f)]) Q E s := by
  subst hf
  refine PySem.W.sorted_of_sort hl hZ (ksk_s1 _ _) (fun x => ksk_l1 _ _) fun E' => ?_
  rw [ksk_t1]
  have I1 : L2.Inv X pins σ H { s with heap := PySem.W.copyHeap s.heap vs } := I.kept (t' := s.toks) fun c u e => PySem.W.copyHeap_old e
  have lt : ∀ x ∈ X.pn ++ pins, x.1 ≠ s.heap.objs.size + 1 := fun x hx => by
    exact Nat.ne_of_lt (Nat.lt_succ_of_lt (Heap.lt_size (I.pin x hx).1))
  have fr : H (s.heap.objs.size + 1) = none := I.hok.fresh (Nat.le_succ _)
  have I2 : L2.Inv X ((s.heap.objs.size + 1, seqObj "list" vs.toArray 0) :: pins) σ H { s with heap := PySem.W.copyHeap s.heap vs } := I1.pins_of fun p hp => by
    rcases List.mem_cons.mp hp with rfl | hp
    · exact ⟨PySem.W.copyHeap_at s.heap vs, fr, Nat.ne_of_gt (Nat.lt_succ_of_lt I.lt), I.nofs (Nat.le_succ _), nocell⟩
    · exact I1.pin p (List.mem_append_right _ hp)
  refine srt_tree kd (a := s.heap.objs.size + 1) (Nat.le_succ_of_le I.sz) lt I2 hG hZ fun s' H' ks out c I3 g gl ko => ⟨rfl, ?_⟩
  exact h s' H' ks out c _ fr I3 (Nat.le_succ_of_le I.sz) lt g gl ko
end
end Mir
set_option Elab.async false
set_option linter.all false
set_option maxRecDepth 100000
set_option maxHeartbeats 2000000
/-! Mir25: sorted(x, key=f), the mirror. -/
namespace Mir
open PySem PySem.Spec PyProof.Rows L2
def keysK (m : Fn) : List D → Store → R (List D)
  | [], S => .ok [] S
  | x :: r, S => match m [x] S with
    | .ok (.fz d) S1 => match keysK m r S1 with
      | .ok ks S2 => .ok (d :: ks) S2
      | _ => .bad
    | _ => .bad
def sortK (ks xs : List D) : List D := ((ks.zip xs).mergeSort fun a b => leD a.1 b.1).map (·.2)
theorem keysK_len {m : Fn} : ∀ {xs : List D} {S S' : Store} {ks : List D}, keysK m xs S = .ok ks S' → ks.length = xs.length
  | [], _, _, _, h => by cases h; rfl
  | x :: r, S, S', ks, h => by
    unfold keysK at h
    split at h
    · split at h
      · rename_i e
        cases h
        rw [List.length_cons, List.length_cons, keysK_len e]
      · cases h
    · cases h
theorem keysK_cons {m : Fn} {x : D} {r : List D} {S S' : Store} {ks : List D} (h : keysK m (x :: r) S = .ok ks S') : ∃ d S1 t, m [x] S = .ok (.fz d) S1 ∧ keysK m r S1 = .ok t S' ∧ ks = d :: t := by
  unfold keysK at h
  split at h
  · rename_i d S1 e1
    split at h
    · rename_i t S2 e2
      cases h
      exact ⟨d, S1, t, e1, e2, rfl⟩
    · cases h
  · cases h
section
variable {T : Tx} {X : Cx} {pins : List (Addr × Obj)} {σ : SV} {g : Gh} {H : Hp} {s : Shared} {S Sf : Store} {m : Fn} {xs ks : List D} {ys : List V} {vs : List Value}
/-- what the keys so far are -/
def KG (T : Tx) (g : Gh) (H : Hp) (m : Fn) (xs ks : List D) (Sf : Store) (us : List Value) (H' : Hp) : Prop := ∃ (g' : Gh) (S' : Store) (vks : List V), Ext g H g' H' ∧ RelS T g' S' H' ∧ Vals vks us ∧ Reps T g' H' (ks.take us.length) vks ∧ keysK m (xs.drop us.length) S' = .ok (ks.drop us.length) Sf
theorem Vals.at : ∀ {ys : List V} {vs : List Value} {i : Nat} {v : Value}, Vals ys vs → vs[i]? = some v → ∃ y, ys[i]? = some y ∧ RelV y v
  | _, _, i, v, .nil, h => by simp at h
  | _, _, 0, v, .cons h1 _, h => by
    cases h
    exact ⟨_, rfl, h1⟩
  | _, _, i + 1, v, .cons _ t, h => by
    rw [List.getElem?_cons_succ] at h ⊢
    exact Vals.at t h
theorem Reps.at {T : Tx} {g : Gh} {H : Hp} : ∀ {xs : List D} {ys : List V} {i : Nat} {y : V}, Reps T g H xs ys → ys[i]? = some y → ∃ x, xs[i]? = some x ∧ Rep T g H x y
  | _, _, i, v, .nil, h => by simp at h
  | _, _, 0, v, .cons h1 _, h => by
    cases h
    exact ⟨_, rfl, h1⟩
  | _, _, i + 1, v, .cons _ t, h => by
    rw [List.getElem?_cons_succ] at h ⊢
    exact Reps.at t h
theorem okSrt_al {ks : List D} (ok : okSrt ks = true) : isPds ks = true ∧ PySem.W.AllAlike (ks.map toPd) ∧ PySem.W.Sortable (ks.map toPd) ∧ ∀ d, d ∈ ks.map toPd → d.depth < 100 := by
  unfold okSrt at ok
  simp only [Bool.and_eq_true] at ok
  obtain ⟨⟨o1, o2⟩, o3, o4⟩ := ok
  refine ⟨o1, fun d hd d' hd' => ?_, ?_, fun d hd => ?_⟩
  · obtain ⟨x, hx, rfl⟩ := List.mem_map.mp hd
    obtain ⟨x', hx', rfl⟩ := List.mem_map.mp hd'
    unfold alikeAllD at o2
    exact List.all_eq_true.mp (List.all_eq_true.mp o2 x hx) x' hx'
  · rcases Bool.or_eq_true_iff.mp o3 with o3 | o3
    · refine .inl fun d hd => ?_
      obtain ⟨x, hx, rfl⟩ := List.mem_map.mp hd
      have z := List.all_eq_true.mp o3 x hx
      split at z
      · rename_i y r e
        exact ⟨y, r, e⟩
      · cases z
    · refine .inr fun d hd => ?_
      obtain ⟨x, hx, rfl⟩ := List.mem_map.mp hd
      have z := List.all_eq_true.mp o3 x hx
      split at z
      · cases z
      · cases z
      · rename_i n1 n2
        exact ⟨n1, fun xs e => n2 xs e⟩
  · obtain ⟨x, hx, rfl⟩ := List.mem_map.mp hd
    exact of_decide_eq_true (List.all_eq_true.mp o4 x hx)
theorem key_turn {f : Addr} {fd : FuncData} {ps : List Str} {k : Nat} (F : FnOk X.prog X.w X.K X.mg X.base (L2.CX X.prog X.w) k f fd ps (spF T 1 m)) (bF : Binds X.K fd ps []) (sb : Sub X k X.A.in1.in1) (hx0 : Reps T g H xs ys) (hy : Vals ys vs) (rs0 : RelS T g S H)
    (pins' : List (Addr × Obj)) (us : List Value) (v : Value) (H' : Hp) (s' : Shared) (hv : vs[us.length]? = some v) (I : L2.Inv X pins' σ H' s') (hg : KG T g H m xs ks Sf us H') :
    wpAny (model X.prog X.w) (X.A.in1.in1) (call (.ref f) [v]) (fun u s'' => ∃ H'', L2.Inv X pins' σ H'' s'' ∧ KG T g H m xs ks Sf (us ++ [u]) H'') (fun _ _ => False) s' := by
  obtain ⟨g', S', vks, ex, rs, vv, rk, q⟩ := hg
  obtain ⟨y, ey, ry⟩ := Vals.at hy hv
  obtain ⟨x, exx, rx⟩ := Reps.at hx0 ey
  have hlt : us.length < xs.length := (List.getElem?_eq_some_iff.mp exx).1
  have ed : xs.drop us.length = x :: xs.drop (us.length + 1) := by
    rw [List.drop_eq_getElem_cons hlt, ← (List.getElem?_eq_some_iff.mp exx).2]
  rw [ed] at q
  obtain ⟨d, S1, t, m1, m2, ek⟩ := keysK_cons q
  have ek1 : ks[us.length]? = some d := by
    have := congrArg (·[0]?) ek
    simpa using this
  have ek2 : ks.drop (us.length + 1) = t := by
    have := congrArg (List.drop 1) ek
    simpa [List.drop_drop, Nat.add_comm] using this
  have ek3 : ks.take (us.length + 1) = ks.take us.length ++ [d] := by
    rw [List.take_add_one, ek1]
    rfl
  have e0 : Env0 X.prog X.w X.K X.mg X.base X.A.in1.in1 X.stack s' H' := by
    have e := I.env0
    exact ⟨by rw [sb.fr]; exact e.frames, e.mod, e.bs, e.bsz, e.funs, e.frf, e.hok, e.bare⟩
  have hsp : spF T 1 m [y] H' (fun vv2 H2 => ∃ g2, Ext g' H' g2 H2 ∧ RelS T g2 S1 H2 ∧ Rep T g2 H2 d vv2) fun _ _ _ => False := by
    refine ⟨rfl, g', S', [x], rs, .cons (rx.fix (ex.fix rs0)) .nil, ?_⟩
    rw [m1]
    exact fun g2 H2 v2 e2 rs2 rw2 => ⟨g2, e2, rs2, rw2⟩
  have hl := F.len _ _ _ _ hsp
  have r2 : Vals [y] [v] := .cons ry .nil
  refine wpAny_call (codeAny_mono (F.run X.A.in1.in1 X.stack s' H' ⟨[v], []⟩ [v] [y] _ _ sb.room e0 (by
    have := bF s' [v] I.kIn (by simpa using hl)
    simpa using this) r2 hsp) fun r s'' hq => ?_)
  cases r with
  | error e =>
    obtain ⟨_, _, _, _, _, _, _, _, _, _, _, _, hE⟩ := hq
    exact hE
  | ok fl =>
    cases fl with
    | next => exact False.elim hq
    | brk => exact False.elim hq
    | cont => exact False.elim hq
    | ret u =>
      obtain ⟨v2, H2, I2, rv2, g2, e2, rs2, rd2⟩ := I.after hq
      refine ⟨H2, I2, g2, S1, vks ++ [v2], ex.trans e2, rs2, vv.append (.cons rv2 .nil), ?_, ?_⟩
      · rw [List.length_append, List.length_singleton, ek3]
        exact (rk.fix (e2.fix rs)).append (.cons rd2 .nil)
      · rw [List.length_append, List.length_singleton, ek2]
        exact m2
theorem key_all {f : Addr} {fd : FuncData} {ps : List Str} {k : Nat} (F : FnOk X.prog X.w X.K X.mg X.base (L2.CX X.prog X.w) k f fd ps (spF T 1 m)) (bF : Binds X.K fd ps []) (sb : Sub X k X.A.in1.in1) (hK : T.K = X.K) (hu : X.A.units + 200 < cLine) (hx0 : Reps T g H xs ys) (hy : Vals ys vs) (rs0 : RelS T g S H)
    (q : keysK m xs S = .ok ks Sf) (ok : okSrt ks = true) : Keyed X σ (.ref f) vs (ks.map toPd) (KG T g H m xs ks Sf) := by
  obtain ⟨o1, o2, o3, o4⟩ := okSrt_al ok
  have kl := keysK_len q
  have l1 := hx0.length
  have l2 := hy.length
  refine ⟨key_turn F bF sb hx0 hy rs0, fun pins' us H' s' I hg hlen => ?_, o2, o3, fun d hd => by have := o4 d hd; omega, by rw [List.length_map]; omega⟩
  obtain ⟨g', S', vks, ex, rs, vv, rk, q2⟩ := hg
  have : ks.take us.length = ks := List.take_of_length_le (by omega)
  rw [this] at rk
  have e := each_reads hK I rk vv o1
  have mp : ∀ {us : List Value} {ks : List D}, PySem.W.EachIs (fun v d => ∃ as, Reads s'.heap v (toPd d) as) us ks → PySem.W.EachIs (fun v d => ∃ as, Reads s'.heap v d as) us (ks.map toPd) := by
    intro us ks e
    induction e with
    | nil => exact .nil
    | cons h _ ih => exact .cons h ih
  exact mp e
end
end Mir
set_option Elab.async false
set_option linter.all false
set_option maxRecDepth 100000
set_option maxHeartbeats 2000000
/-! Mir26: sorted(x, key=f), the rule. -/
namespace Mir
open PySem PySem.Spec PyProof.Rows L2
def srtKO (m : Fn) (xs : List D) (S : Store) : R Wv := match keysK m xs S with
  | .ok ks S1 => if okSrt ks then .ok (.ow (.lst (sortK ks xs))) S1 else .bad
  | _ => .bad
def bSortK (m : Fn) : List Wv → M Wv := fun ws S => match ws with
  | [w] => match viewR S w with
    | some xs => srtKO m xs S
    | none => .bad
  | _ => .bad
def cSortK (m : Fn) (fs : Env → M (List Wv)) : CE := cBlt (bSortK m) fs
section
variable {T : Tx} {Wx : WX} {X : Cx} {pins : List (Addr × Obj)} {σ : SV} {g : Gh} {H : Hp} {s : Shared} {S Sf : Store} {m : Fn} {xs ks : List D} {ys : List V} {vs : List Value} {e : Expr} {pos : Pos}
def rSortK (X : Cx) (T : Tx) (m : Fn) (fa : Addr) : List V → List V → Hp → VK → Prop := fun vs zs H Q => zs = [.ref fa] ∧ ∃ (a : Addr) (ys : List V) (xs : List D) (g : Gh) (S : Store) (ks : List D) (Sf : Store), vs = [.ref a] ∧ SqL X.K H a ys ∧ Reps T g H xs ys ∧ RelS T g S H ∧
  keysK m xs S = .ok ks Sf ∧ okSrt ks = true ∧ ∀ (g' : Gh) (H' : Hp) (zs : List V) (p : Addr), Ext g H g' H' → RelS T g' Sf H' → Reps T g' H' (sortK ks xs) zs → H' p = none → Q (.ref p) (upd H' p (.lst zs))
theorem each_snd {Rr : Value → D → Prop} : ∀ {vs : List Value} {xs ks : List D}, ks.length = xs.length → PySem.W.EachIs Rr vs xs → PySem.W.EachIs (fun v b => Rr v b.2) vs (ks.zip xs)
  | _, _, [], hl, .nil => .nil
  | _, _, [], hl, .cons h t => by cases hl
  | _, _, k :: ks, hl, .nil => by cases hl
  | _, _, k :: ks, hl, .cons h t => .cons h (each_snd (by simpa using hl) t)
theorem each_map2 {Rr : Value → D → Prop} : ∀ {vs : List Value} {bs : List (D × D)}, PySem.W.EachIs (fun v b => Rr v b.2) vs bs → PySem.W.EachIs Rr vs (bs.map (·.2))
  | _, _, .nil => .nil
  | _, _, .cons h t => .cons h (each_map2 t)
theorem cr_sortK {f : Addr} {fd : FuncData} {ps : List Str} {k : Nat} (F : FnOk X.prog X.w X.K X.mg X.base (L2.CX X.prog X.w) k f fd ps (spF T 1 m)) (bF : Binds X.K fd ps []) (sb : Sub X k X.A.in1.in1) (hK : T.K = X.K) (hu : X.A.units + 200 < cLine) :
    CallRK X (.builtin "sorted") [Str.ofString "key"] (rSortK X T m f) := by
  intro pins s σ H us0 zs0 us ws Q I r rz h
  obtain ⟨rfl, a, ys, xs, g, S, ks, Sf, rfl, hs, rp, rs, q, ok, hq⟩ := h
  obtain ⟨its, rv, hl, hz⟩ := I.list hs
  obtain rfl := Vals.ref1 r
  obtain rfl := Vals.ref1 rz
  have kd := key_all (σ := σ) F bF sb hK hu rp rv rs q ok
  have kl := keysK_len q
  have l1 := rp.length
  have l2 := rv.length
  have g0 : KG T g H m xs ks Sf [] H := ⟨g, S, [], Ext.refl g H, rs, .nil, .nil, q⟩
  show wpAny _ _ (call (.builtin "sorted") [.ref a] [(Str.ofString "key", .ref f)]) _ _ _
  refine srt_keyed rfl kd I hl.isList g0 (by omega) fun s' H' us out c p fr I3 hs0 hp hg hlen ko => ?_
  obtain ⟨g', S', vks, ex, rs', vv, rk, q2⟩ := hg
  have e1 : xs.drop us.length = [] := List.drop_of_length_le (by omega)
  rw [e1] at q2
  have eS : S' = Sf := by
    cases hh : ks.drop us.length with
    | nil =>
      rw [hh] at q2
      cases q2
      rfl
    | cons x r =>
      rw [hh] at q2
      cases q2
  rw [eS] at rs'
  have zk : (ks.zip xs).map (toPd ∘ Prod.fst) = ks.map toPd := by
    have : ∀ (ks xs : List D), ks.length = xs.length → (ks.zip xs).map (toPd ∘ Prod.fst) = ks.map toPd := by
      intro ks
      induction ks with
      | nil => intro xs _; rfl
      | cons k r ih =>
        intro xs hl
        cases xs with
        | nil => cases hl
        | cons x t => rw [List.zip_cons_cons, List.map_cons, List.map_cons, ih t (by simpa using hl)]; rfl
    exact this ks xs kl
  have e2 := PySem.W.keyedOut_each (rev := false) (β := D × D) (bs := ks.zip xs) (toPd ∘ Prod.fst) (by rw [zk]; exact ko) (each_snd (Rr := fun v d => ∃ y, RelV y v ∧ Rep T g H d y) kl (each_reps rp rv))
  have ele : (PySem.W.dataLe false (toPd ∘ Prod.fst) : D × D → D × D → Bool) = fun a b => leD a.1 b.1 := by
    funext a b
    rw [PySem.W.dataLe_eq]
    rfl
  rw [ele] at e2
  have e3 := each_map2 (Rr := fun v d => ∃ y, RelV y v ∧ Rep T g H d y) e2
  obtain ⟨zs, k1, k2⟩ := reps_each e3
  have k1' := k1.fix (ex.fix rs)
  have zl : zs.length ≤ sizeLine := by
    have := k1.length
    rw [List.length_map, (List.mergeSort_perm _ _).length_eq, List.length_zip] at this
    omega
  have pn := (I3.pin (p, seqObj "list" (List.toArray out) c) (List.mem_append_right _ List.mem_cons_self))
  have I4 := Inv.adopt (ho := .lst zs) I3 hs0 hp ⟨zl, out, c, k2, pn.1⟩
  exact ⟨.ref p, _, I4, rfl, hq g' H' zs p ex rs' k1' pn.2.1⟩
theorem je_sortK {P : Program} {w : World} {mg : Str → Option Value} {base : Heap} {j k : Nat} {x : Str} {p' kp kpos : Pos} {es : List Expr} {fs : Env → M (List Wv)} (B : Bd T mg P w base k Wx X) (d : Def P w T.K mg base T j x 1 m) (hj : j + 2 ≤ k) (hgs : Gl X "sorted") (hms : mg "sorted" = none) (hg : Gl X x) (ha : JAB T Wx X (e :: es) fs)
    (hdb : (x == ("__debug__" : Str)) = false := by decide)
    (he : backTo pos (starEach (e :: es) X.env) = (false, eval e X.env) :: backTo pos (starEach es X.env) := by rfl) (hpl : (backTo pos (starEach (e :: es) X.env)).any (·.1) = false := by rfl) :
    JE T Wx X (.Call (.Name "sorted" p') (e :: es) [⟨some (Str.ofString "key"), .Name x kp, kpos⟩] pos) (cSortK m fs) := by
  obtain ⟨f, fd, ps, h1, h2, h3, h4, h5⟩ := d.ex
  have hK := B.hK
  have F : FnOk X.prog X.w X.K X.mg X.base (L2.CX X.prog X.w) j f fd ps (spF T 1 m) := by rw [B.prog, B.wo, hK, B.mg, B.ba]; exact h5
  have sb : Sub X j X.A.in1.in1 := Sub.in1 (Sub.in1 (⟨B.rm.mono hj, rfl⟩ : Sub X (j + 2) X.A))
  have hc := cr_sortK F (by rw [hK]; exact h4) sb hK.symm B.un
  have hk : PK X [⟨some (Str.ofString "key"), .Name x kp, kpos⟩] (tCons (tC (.ref f)) tNil) := pk_cons (pe_glob hg (by rw [B.mg]; exact h1) rfl hdb) pk_nil
  refine PE.imp (pe_callBK hc hgs (by rw [B.mg]; exact hms) (by rfl) ha hk (by decide) (by decide) he hpl) fun σ H Q h => ?_
  obtain ⟨g0, H0, c, g, S, ds, fr, p⟩ := h
  refine tG.bind (r1 := RBs T) (r2 := RW T) mono_w fr p fun ws S1 g1 H1 vs e1 fr1 rv p1 => ?_
  show rSortK X T m f vs [.ref f] H1 Q
  unfold bSortK at p1
  split at p1
  · rename_i w
    cases rv with
    | cons r1 r2 =>
      cases r2
      split at p1
      · rename_i xs hx
        obtain ⟨a, us, rfl, h1, r⟩ := viewR_ok fr1.st r1 hx
        unfold srtKO at p1
        split at p1
        · rename_i ks S2 hkk
          split at p1
          · rename_i ok
            refine ⟨rfl, a, us, xs, g1, S1, ks, S2, rfl, by rw [hK]; exact h1, r, fr1.st, hkk, ok, fun g' H' zs pp ex rs rz hp => ?_⟩
            obtain ⟨g2, e2, rs2, rw2⟩ := alloc_ow (so := .lst (sortK ks xs)) rs hp (ho := .lst zs) fun g3 H3 fx => .lst (rz.fix fx)
            refine p1 g2 _ _ (ex.trans e2) rs2 (mono_w H1 H' g2 _ _ _ (fun a h => ex.free h) rw2)
          · exact p1.elim
        · exact p1.elim
      · exact p1.elim
  · exact p1.elim
end
end Mir
set_option Elab.async false
set_option linter.all false
set_option maxRecDepth 100000
set_option maxHeartbeats 2000000
/-! Mir27: (a, b) < (c, d) of whole numbers. -/
namespace Mir
open PySem PySem.Spec PyProof.Rows L2
def lt2 (a b c d : Int) : Bool := if a = c then decide (b < d) else decide (a < c)
def opLt2 : Wv → Wv → M Bool := fun w1 w2 S => match w1, w2 with
  | .fz (.tup [.int a, .int b]), .fz (.tup [.int c, .int d]) => .ok (lt2 a b c d) S
  | _, _ => .bad
def rLt2 (K : PySem.W.Frag) : R2 := fun x y H Q => ∃ (p q : Addr) (a b c d : Int), x = .ref p ∧ y = .ref q ∧ SqT K H p [V.int a, V.int b] ∧ SqT K H q [V.int c, V.int d] ∧ Q (.bl (lt2 a b c d)) H
theorem op_lt2 {X : Cx} (hu : X.A.units < cLine) : OpR X (compareOp .Lt) (rLt2 X.K) := by
  intro pins s σ H x y v u Q I rx ry h
  obtain ⟨p, q, a, b, c, d, rfl, rfl, ha, hb, qq⟩ := h
  cases rx
  cases ry
  obtain ⟨its, r1, p1, _⟩ := I.tuple ha
  obtain ⟨its2, r2, p2, _⟩ := I.tuple hb
  obtain ⟨ns, en⟩ : ∃ ns : List Int, ns = [a, b] := ⟨_, rfl⟩
  obtain ⟨ms, em⟩ : ∃ ms : List Int, ms = [c, d] := ⟨_, rfl⟩
  have r1 : Vals (ns.map V.int) its := by rw [en]; exact r1
  have r2 : Vals (ms.map V.int) its2 := by rw [em]; exact r2
  have i1 : IntsAre its ns := Vals.ints r1
  have i2 : IntsAre its2 ms := Vals.ints r2
  have e1 : its.toArray.size = ns.length := by rw [List.size_toArray]; exact i1.length
  have e2 : its2.toArray.size = ms.length := by rw [List.size_toArray]; exact i2.length
  have at1 : ∀ j (h1 : j < its.toArray.size), ∃ t, its.toArray[j] = .int (ns.getD j 0) t := fun j h1 => PyProof.Rows.IntsAre.int_at i1 _ _ (by simp at h1; simp [h1])
  have at2 : ∀ j (h1 : j < its2.toArray.size), ∃ t, its2.toArray[j] = .int (ms.getD j 0) t := fun j h1 => PyProof.Rows.IntsAre.int_at i2 _ _ (by simp at h1; simp [h1])
  have R := Ob.RcOp.tuples_lt (A := X.A) (s := s) (e := fun j => decide (ns.getD j 0 = ms.getD j 0)) (r := fun j => decide (ns.getD j 0 < ms.getD j 0)) p1 p2 hu (fun j h1 h2 => by
    obtain ⟨t, et⟩ := at1 j h1
    obtain ⟨t', et'⟩ := at2 j h2
    rw [et, et']
    have z : (ns.getD j 0 == ms.getD j 0) = decide (ns.getD j 0 = ms.getD j 0) := by
      by_cases q : ns.getD j 0 = ms.getD j 0
      · rw [decide_eq_true q]; exact beq_iff_eq.mpr q
      · rw [decide_eq_false q]; exact beq_eq_false_iff_ne.mpr q
    rw [← z]
    exact SeqAt.EqAt.int_int _ _ _ _) (fun j h1 h2 _ => by
    obtain ⟨t, et⟩ := at1 j h1
    obtain ⟨t', et'⟩ := at2 j h2
    rw [et, et']
    exact Ob.RcOp.lt_int _ _ _ _)
  rw [e1, e2] at R
  have lx : Ob.lexAt (fun j => decide (ns.getD j 0 = ms.getD j 0)) (fun j => decide (ns.getD j 0 < ms.getD j 0)) (decide (ns.length < ms.length)) 0 (min ns.length ms.length) = lt2 a b c d := by
    subst en em
    show Ob.lexAt _ _ _ 0 2 = _
    rw [Ob.lexAt_succ, Ob.lexAt_succ, Ob.lexAt_zero]
    unfold lt2
    by_cases h1 : a = c
    · by_cases h2 : b = d
      · simp [h1, h2]
      · simp [h1, h2]
    · simp [h1]
  rw [lx] at R
  exact R X.prog X.w X.xe (EP X pins σ Q) ⟨.bl _, H, I, rfl, qq⟩
theorem v_lt2 {T : Tx} {Wx : WX} : V2 T Wx RBl (rLt2 T.K) opLt2 := by
  intro g H S σ w1 w2 v1 v2 Q rs r1 r2 p
  unfold opLt2 at p
  split at p
  · rename_i a b c d
    cases r1 with
    | tup h1 n1 q1 =>
      cases r2 with
      | tup h2 n2 q2 =>
        cases q1 with
        | cons x1 q1 => cases x1; cases q1 with
          | cons x2 q1 => cases x2; cases q1; cases q2 with
            | cons y1 q2 => cases y1; cases q2 with
              | cons y2 q2 => cases y2; cases q2; exact ⟨_, _, a, b, c, d, rfl, rfl, .inl (Rd.of h1), .inl (Rd.of h2), PostG.now (r := RBl H) p rs rfl⟩
  · exact p.elim
theorem cm_lt2 {T : Tx} {Wx : WX} {X : Cx} (lv : Lv T Wx X) : CmpR T Wx X .Lt opLt2 := ⟨rLt2 T.K, by
  have q : OpR X (compareOp .Lt) (rLt2 X.K) := op_lt2 (by have := lv.un; omega)
  rw [lv.hK] at q
  exact q, v_lt2⟩
end Mir
set_option Elab.async false
set_option linter.all false
set_option maxRecDepth 100000
set_option maxHeartbeats 4000000
/-! MirK: set(xs) of a list of whole numbers, in the way of the kit's rule for tuples. -/
namespace Mir
open PySem PySem.Spec PyProof.Rows L2
section
variable {P : Program} {w : World} {A : Around} {E : Value → Shared → Prop} {s : Shared}
set_option maxRecDepth 100000 in
set_option maxHeartbeats 6400000 in
theorem call_set_lstI {l : Addr} {items : Array Value} (ns : List Int) {Q : Value → Shared → Prop} (hh : A.handled = none) (hl : s.heap.IsList l items) (hit : IntsAre items.toList ns) (hb : ns.length + 1 < scanBound)
    (h : ∀ (h' : Heap) (tk c : Nat), SetR w h' s.heap.objs.size (fun j => decide (j ∈ ns)) c → c ≤ ns.length → (∀ b o, s.heap.get? b = some o → h'.get? b = some o) → Q (.ref s.heap.objs.size) { s with heap := h', toks := tk }) :
    wpAny (model P w) A (call (.type "set") [.ref l]) Q E s := by
  have hisz : items.size = ns.length := by
    have q := IntsAre.length hit
    rw [Array.length_toList] at q
    exact q
  obtain ⟨c, tl, hmro⟩ := F.called_set.mro
  have hmade := F.called_set.made
  have hsub := F.called_set.sub
  refine wpAny_call (codeAny_of_tree ?_)
  show wpAny _ _ (callAny (.type "set") _) _ _ _
  refine wpAny_pure ⟨Code.quiet_builtin _ (by decide +kernel), codeAny_builtin F.entry_type_call ?_⟩
  rw [Around.under_plain (weight_type_call_type "set" [.ref l] []) rfl]
  have h1 := F.called_set.notType
  have h2 := F.called_set.canCreate
  have hct := F.typeCall_set_1 (.ref l)
  repeat (any_goals (first | assumption | wp_step))

  refine codeAny_mono (code_set_led1 (.ref l) (E := E) (Q₁ := fun obj s₁ => obj = .ref s.heap.objs.size ∧ s₁ = { s with heap := s.heap.push { cls := .type "set", dict := none, data := .set #[] 0 (.fresh 0 0 (!w.params.followText "set-order")) } }) ⟨rfl, rfl⟩) fun r s₁ hr => ?_
  cases r with
  | error e => exact hr
  | ok fl =>
    cases fl with
    | ret obj =>
      obtain ⟨rfl, rfl⟩ := hr
      have hS : (s.heap.push { cls := .type "set", dict := none, data := .set #[] 0 (.fresh 0 0 (!w.params.followText "set-order")) }).get? s.heap.objs.size = some { cls := .type "set", dict := none, data := .set #[] 0 (.fresh 0 0 (!w.params.followText "set-order")) } := Heap.get?_push_size _ rfl
      have hT : Shared.TypeIs { s with heap := s.heap.push { cls := .type "set", dict := none, data := .set #[] 0 (.fresh 0 0 (!w.params.followText "set-order")) } } (.ref s.heap.objs.size) "set" := ⟨_, hS, rfl⟩
      have hli := F.called_set.init.lookup
      have hbi := F.called_set.init.bind (.ref s.heap.objs.size)
      repeat (any_goals (first | assumption | wp_step))

      refine codeAny_mono (codeAny_call_builtin (R := wants (fun r s₂ => r = .none ∧ ∃ h' tk c, s₂ = { s with heap := h', toks := tk } ∧ SetR w h' s.heap.objs.size (fun j => decide (j ∈ ns)) c ∧ c ≤ ns.length ∧
          (∀ b o, s.heap.get? b = some o → h'.get? b = some o)) E) F.called_set.init.plain F.entry_set_init (check_set_init_1 hT ?_)) fun r₂ s₂ hr₂ => ?_
      · obtain ⟨ol, hol, hcl, nl, hdl⟩ := hl
        obtain ⟨ocls, odict, odata, oslots⟩ := ol
        simp only at hcl hdl
        subst hcl; subst hdl
        have hol' : (s.heap.push { cls := .type "set", dict := none, data := .set #[] 0 (.fresh 0 0 (!w.params.followText "set-order")) }).get? l = some { cls := .type "list", dict := odict, data := .seq items nl, slots := oslots } := Heap.get?_push_of_some _ hol
        have hsls := F.sub_list_set
        have hslf := F.sub_list_frozenset
        have hne : (Value.type "list" == Value.type "dict") = false := by decide
        have hl1 : (s.heap.push { cls := .type "set", dict := none, data := .set #[] 0 (.fresh 0 0 (!w.params.followText "set-order")) }).IsList l items := ⟨_, hol', rfl, nl, rfl⟩
        unfold Builtin.«set.__init__» noKeywords Builtin.Frozenset.updateFrom
        generalize hPI : pyIter = PI
        wp_walk
        subst hPI

        refine wpAny_pyIter_list hl1 ?_
        refine wpAny_bind (wpAny_runValue ?_)
        have hlS : l < s.heap.objs.size := Heap.lt_size hol
        have hh3 : A.in1.in1.in1.handled = none := by simp [hh]
        have hz1 : (s.heap.push { cls := .type "set", dict := none, data := .set #[] 0 (.fresh 0 0 (!w.params.followText "set-order")) }).objs.size = s.heap.objs.size + 1 := Heap.size_push ..
        have hneI : l ≠ (s.heap.push { cls := .type "set", dict := none, data := .set #[] 0 (.fresh 0 0 (!w.params.followText "set-order")) }).objs.size := by
          rw [Heap.size_push]; exact Nat.ne_of_lt (Nat.lt_succ_of_lt hlS)
        have hSf : s.heap.objs.size ∉ [(s.heap.push { cls := .type "set", dict := none, data := .set #[] 0 (.fresh 0 0 (!w.params.followText "set-order")) }).objs.size, l] := by
          rw [Heap.size_push]; simp only [List.mem_cons, List.mem_singleton, List.not_mem_nil, or_false, not_or]
          exact ⟨Nat.ne_of_lt (Nat.lt_succ_self _), Nat.ne_of_gt hlS⟩
        have hval : ∀ (i : Nat) (v : Value), items[i]? = some v → ∃ k t, ns[i]? = some k ∧ v = .int k t := fun i v hv => by
          have hi : i < ns.length := by rw [← hisz]; exact (Array.getElem?_eq_some_iff.mp hv).1
          obtain ⟨t, e⟩ := PyProof.Rows.IntsAre.int_at hit i v (by rw [Array.getElem?_toList]; exact hv)
          refine ⟨ns[i], t, List.getElem?_eq_getElem hi, ?_⟩
          rw [e, List.getD_eq_getElem?_getD, List.getElem?_eq_getElem hi] <;> rfl
        refine set_update_ints ((Walks.list hh3 _ l hneI items).toS) s.heap.objs.size
          hSf ns hisz hb hval (items.size - 0) 0 _ (by omega) (Nat.zero_le _)
          ⟨⟨_, Heap.get?_push_size _ rfl, rfl, rfl⟩, (hl1.push _)⟩ ?hS0 ?hR
        case hS0 =>
          have hget : ((s.heap.push { cls := .type "set", dict := none, data := .set #[] 0 (.fresh 0 0 (!w.params.followText "set-order")) }).push { cls := .type "list_iterator", data := .fields #[.ref l, .int 0 0] }).get? s.heap.objs.size
              = some { cls := .type "set", dict := none, data := .set #[] 0 (.fresh 0 0 (!w.params.followText "set-order")) } := Heap.get?_push_of_some _ hS
          exact ⟨0, Nat.le_refl 0, setR_new_at hget⟩
        case hR =>
          intro s' c' hm hc' hS'
          obtain ⟨h', g2, d', tk', os'⟩ := s'
          have eg : g2 = s.gens := hm.gens
          have ed : d' = s.drawn := hm.drawn
          have eo : os' = s.os := hm.os
          subst eg; subst ed; subst eo
          show wpAny _ _ _ _ _ _
          refine wpAny_pure ?_
          show wpAny _ _ (ret Value.none) _ _ _
          rw [hisz] at hc'
          refine wpAny_pure ⟨rfl, h', tk', c', rfl, hS', hc', fun b o e => ?_⟩
          have hb0 : b < s.heap.objs.size := Heap.lt_size e
          have hb1 : b ≠ s.heap.objs.size := Nat.ne_of_lt hb0
          have hb2 : b ≠ (s.heap.push { cls := .type "set", dict := none, data := .set #[] 0 (.fresh 0 0 (!w.params.followText "set-order")) }).objs.size := by
            rw [Heap.size_push]; exact Nat.ne_of_lt (Nat.lt_succ_of_lt hb0)
          exact hm.heap b o (by simp only [List.mem_cons, List.mem_singleton, List.not_mem_nil, or_false, not_or]; exact ⟨hb1, hb2⟩) (Heap.get?_push_of_some _ (Heap.get?_push_of_some _ e))

      · cases r₂ with
        | error e => exact hr₂
        | ok fl₂ =>
          cases fl₂ with
          | ret r =>
            obtain ⟨rfl, h', tk, c', rfl, hS', hc', hk'⟩ := hr₂
            repeat (any_goals (first | assumption | wp_step))
            exact h _ _ _ hS' hc' hk'
          | _ => exact hr₂.elim
    | _ => exact hr.elim
end
end Mir
set_option Elab.async false
set_option linter.all false
set_option maxRecDepth 100000
set_option maxHeartbeats 4000000
/-! Mir28: len(set(xs)), sorted(set(xs)) of a list of whole numbers. -/
namespace Mir
open PySem PySem.Spec PyProof.Rows L2
/-! ### the values -/
/-- put in its place, if new -/
def insU (k : Int) : List Int → List Int
  | [] => [k]
  | x :: r => if k < x then k :: x :: r else if k = x then x :: r else x :: insU k r
def setU (ns : List Int) : List Int := ns.foldr insU []
theorem mem_insU {k j : Int} : ∀ {l : List Int}, j ∈ insU k l ↔ j = k ∨ j ∈ l
  | [] => by simp [insU]
  | x :: r => by
    unfold insU
    by_cases h : k < x
    · simp [h]
    · by_cases h2 : k = x
      · simp [h2]
      · rw [if_neg h, if_neg h2, List.mem_cons, mem_insU (l := r), List.mem_cons]
        constructor
        · rintro (a | a | a)
          · exact .inr (.inl a)
          · exact .inl a
          · exact .inr (.inr a)
        · rintro (a | a | a)
          · exact .inr (.inl a)
          · exact .inl a
          · exact .inr (.inr a)
theorem insU_up {k : Int} : ∀ {l : List Int}, l.Pairwise (· < ·) → (insU k l).Pairwise (· < ·)
  | [], _ => by simp [insU]
  | x :: r, h => by
    obtain ⟨h1, h2⟩ := List.pairwise_cons.mp h
    unfold insU
    by_cases c : k < x
    · rw [if_pos c]
      refine List.pairwise_cons.mpr ⟨fun y hy => ?_, h⟩
      rcases List.mem_cons.mp hy with e | e
      · omega
      · have := h1 y e; omega
    · rw [if_neg c]
      by_cases c2 : k = x
      · rw [if_pos c2]; exact h
      · rw [if_neg c2]
        refine List.pairwise_cons.mpr ⟨fun y hy => ?_, insU_up h2⟩
        rcases mem_insU.mp hy with e | e
        · omega
        · exact h1 y e
theorem setU_up : ∀ ns : List Int, (setU ns).Pairwise (· < ·)
  | [] => List.Pairwise.nil
  | n :: r => insU_up (setU_up r)
theorem mem_setU {j : Int} : ∀ {ns : List Int}, j ∈ setU ns ↔ j ∈ ns
  | [] => by simp [setU]
  | n :: r => by
    show j ∈ insU n (setU r) ↔ _
    rw [mem_insU, mem_setU (ns := r), List.mem_cons]
theorem up_unique : ∀ {a b : List Int}, a.Pairwise (· < ·) → b.Pairwise (· < ·) → (∀ k, k ∈ a ↔ k ∈ b) → a = b
  | [], [], _, _, _ => rfl
  | [], y :: b, _, _, h => absurd ((h y).mpr List.mem_cons_self) (by simp)
  | x :: a, [], _, _, h => absurd ((h x).mp List.mem_cons_self) (by simp)
  | x :: a, y :: b, ha, hb, h => by
    obtain ⟨a1, a2⟩ := List.pairwise_cons.mp ha
    obtain ⟨b1, b2⟩ := List.pairwise_cons.mp hb
    have e : x = y := by
      rcases List.mem_cons.mp ((h x).mp List.mem_cons_self) with q | q
      · exact q
      · rcases List.mem_cons.mp ((h y).mpr List.mem_cons_self) with p | p
        · exact p.symm
        · have := a1 y p; have := b1 x q; omega
    subst e
    have t : a = b := up_unique a2 b2 fun k => by
      constructor
      · intro q
        rcases List.mem_cons.mp ((h k).mp (List.mem_cons_of_mem _ q)) with p | p
        · have := a1 k q; omega
        · exact p
      · intro q
        rcases List.mem_cons.mp ((h k).mpr (List.mem_cons_of_mem _ q)) with p | p
        · have := b1 k q; omega
        · exact p
    rw [t]
theorem nodup_len_eq {a b : List Int} (ha : a.Nodup) (hb : b.Nodup) (h : ∀ k, k ∈ a ↔ k ∈ b) : a.length = b.length :=
  ((List.perm_ext_iff_of_nodup ha hb).mpr h).length_eq
theorem up_nodup {a : List Int} (h : a.Pairwise (· < ·)) : a.Nodup := h.imp fun q => by omega
theorem setU_len_nodup {ns : List Int} (h : ns.Nodup) : (setU ns).length = ns.length := nodup_len_eq (up_nodup (setU_up ns)) h fun _ => mem_setU
theorem setU_len_le : ∀ ns : List Int, (setU ns).length ≤ ns.length
  | [] => Nat.le_refl _
  | n :: r => by
    have ins : ∀ l : List Int, (insU n l).length ≤ l.length + 1 := by
      intro l
      induction l with
      | nil => simp [insU]
      | cons x l ih =>
        unfold insU
        by_cases c : n < x
        · simp [c]
        · by_cases c2 : n = x
          · simp [c2]
          · rw [if_neg c, if_neg c2]; simp only [List.length_cons]; omega
    have := setU_len_le r
    have := ins (setU r)
    show (insU n (setU r)).length ≤ _
    simp only [List.length_cons]
    omega
/-! ### the kit's count of what is met first -/
theorem met_mem (f : Nat → Int) : ∀ n k, (firstMet f n).any (· == k) = true ↔ ∃ i, i < n ∧ f i = k
  | 0, k => by
    constructor
    · intro h; exact absurd h (by simp [firstMet])
    · rintro ⟨i, h, _⟩; omega
  | n + 1, k => by
    rw [firstMet_succ]
    unfold step_dedup
    by_cases h : (firstMet f n).any (· == f n) = true
    · rw [if_pos h, met_mem f n k]
      constructor
      · rintro ⟨i, h1, h2⟩; exact ⟨i, by omega, h2⟩
      · rintro ⟨i, h1, h2⟩
        by_cases c : i = n
        · obtain ⟨j, h3, h4⟩ := (met_mem f n (f n)).mp h
          exact ⟨j, h3, by rw [h4, ← h2, c]⟩
        · exact ⟨i, by omega, h2⟩
    · rw [if_neg h, List.any_append, Bool.or_eq_true, met_mem f n k]
      constructor
      · rintro (⟨i, h1, h2⟩ | q)
        · exact ⟨i, by omega, h2⟩
        · exact ⟨n, by omega, by simpa using q⟩
      · rintro ⟨i, h1, h2⟩
        by_cases c : i = n
        · right; rw [← h2, c]; simp
        · left; exact ⟨i, by omega, h2⟩
theorem met_nodup (f : Nat → Int) : ∀ n, (firstMet f n).Nodup
  | 0 => List.nodup_nil
  | n + 1 => by
    rw [firstMet_succ]
    unfold step_dedup
    by_cases h : (firstMet f n).any (· == f n) = true
    · rw [if_pos h]; exact met_nodup f n
    · rw [if_neg h, List.nodup_append]
      refine ⟨met_nodup f n, by simp, fun a ha b hb => ?_⟩
      rw [List.mem_singleton.mp hb]
      intro e
      exact h (List.any_eq_true.mpr ⟨a, ha, by rw [e]; simp⟩)
theorem met_len (ns : List Int) : (firstMet (fun i => ns.getD i 0) ns.length).length = (setU ns).length := by
  refine nodup_len_eq (met_nodup _ _) (up_nodup (setU_up ns)) fun k => ?_
  rw [mem_setU]
  have q := met_mem (fun i => ns.getD i 0) ns.length k
  have e : (firstMet (fun i => ns.getD i 0) ns.length).any (· == k) = true ↔ k ∈ firstMet (fun i => ns.getD i 0) ns.length := by
    rw [List.any_eq_true]
    constructor
    · rintro ⟨x, h1, h2⟩; rw [← (beq_iff_eq.mp h2)]; exact h1
    · intro h; exact ⟨k, h, by simp⟩
  rw [← e, q]
  constructor
  · rintro ⟨i, h1, h2⟩
    have h2 : ns.getD i 0 = k := h2
    rw [List.getD_eq_getElem?_getD, List.getElem?_eq_getElem h1] at h2
    have h2 : ns[i] = k := h2
    exact h2 ▸ List.getElem_mem h1
  · intro h
    obtain ⟨i, h1, h2⟩ := List.getElem_of_mem h
    exact ⟨i, h1, by show ns.getD i 0 = k; rw [List.getD_eq_getElem?_getD, List.getElem?_eq_getElem h1]; exact h2⟩
/-! ### the rules -/
def setLO (S : Store) (w : Wv) : Option (List Int) := match viewR S w with
  | some xs => match intsD xs with
    | some ns => if ns.length < 4000 then some ns else none
    | none => none
  | none => none
def opLenSet : Wv → M Wv := fun w S => match setLO S w with
  | some ns => .ok (.fz (.int ((setU ns).length : Nat))) S
  | none => .bad
def opSrtSet : Wv → M Wv := fun w S => match setLO S w with
  | some ns => if ns.length < 64 then .ok (.ow (.lst ((setU ns).map D.int))) S else .bad
  | none => .bad
theorem setLO_ok {T : Tx} {g : Gh} {H : Hp} {S : Store} {w : Wv} {v : V} {ns : List Int} (rs : RelS T g S H) (r : RepB T g H w v) (h : setLO S w = some ns) : ∃ a, v = .ref a ∧ SqL T.K H a (ns.map V.int) ∧ ns.length < 4000 := by
  unfold setLO at h
  split at h
  · rename_i xs hx
    split at h
    · rename_i ms hm
      split at h
      · rename_i hl
        cases h
        obtain ⟨a, vs, rfl, h1, h2⟩ := viewR_ok rs r hx
        have e := intsD_eq hm
        subst e
        have e2 : vs = ns.map V.int := by
          have : ∀ {ms : List Int} {us : List V}, Reps T g H (ms.map D.int) us → us = ms.map V.int := by
            intro ms
            induction ms with
            | nil => intro us q; cases q; rfl
            | cons m r ih => intro us q; cases q with | cons x y => cases x; rw [ih y]; rfl
          exact this h2
        rw [e2] at h1
        exact ⟨a, rfl, h1, hl⟩
      · cases h
    · cases h
  · cases h
section
variable {X : Cx}
def tLenSetU (K : PySem.W.Frag) (ta : TE) : TE := fun σ H Q => ta σ H fun x H1 => ∃ (l : Addr) (ns : List Int), x = V.ref l ∧ SqL K H1 l (ns.map V.int) ∧ ns.length < 4000 ∧ Q (.int ((setU ns).length : Nat)) H1
theorem pe_lenSetU {a : Expr} {ta : TE} {p p2 q pos : Pos} (hc : X.calm = true) (hg : Gl X "len") (hm : X.mg "len" = none) (hg2 : Gl X "set") (hm2 : X.mg "set" = none) (ha : PE X a ta)
    (na : starEach [a] X.env = (false, eval a X.env) :: starEach [] X.env := by rfl) : PE X (.Call (.Name "len" p) [.Call (.Name "set" p2) [a] [] q] [] pos) (tLenSetU X.K ta) := by
  refine ⟨fun pins s σ H Q I h => ?_⟩
  refine Call_ (ld_blt I hg hm PySem.boot_len ?_)
  refine PyProof.Rows.callWith_builtin1 (PyProof.Rows.args_cons ?_ rfl) rfl rfl
  refine Call_ (ld_blt I hg2 hm2 PyProof.Rows.boot_set ?_)
  refine PyProof.Rows.callWith_type1 (PyProof.Rows.args_cons (thn (ha.run pins s σ H _ I h) fun v s1 ⟨x, H1, I1, r1, q1⟩ => PyProof.Rows.args_nil ?_) na) na rfl
  obtain ⟨l, ns, rfl, hq, h1, q1⟩ := q1
  cases r1
  obtain ⟨its, r, pl, hz⟩ := I1.list hq
  have hl : its.toArray.size = ns.length := by rw [List.size_toArray, ← r.length, List.length_map]
  refine call_set_list (I1.ok.hd hc) pl.isList (ns := ns) (by simpa using r.ints) (by unfold scanBound; omega) fun h' tk hS hk => ?_
  rw [hl] at hS
  refine PyProof.Rows.args_nil ?_
  have hn2 := met_len ns
  have hle := setU_len_le ns
  obtain ⟨o, es, ep, t, ho, hex, hd, _, _, _, hf, hn⟩ := hS
  have I2 : Inv X pins σ H1 { s1 with heap := h', toks := tk } := I1.kept fun b o e => hk b o (Heap.lt_size e) e
  refine call_len_set ho hex hd hf (by rw [hn] <;> omega) ⟨.int ((setU ns).length : Nat), H1, I2.tok _, ⟨_, by rw [hn, hn2]⟩, q1⟩
end
section
variable {X : Cx}
def tSrtSetU (K : PySem.W.Frag) (ta : TE) : TE := fun σ H Q => ta σ H fun x H1 => ∃ (l : Addr) (ns : List Int), x = V.ref l ∧ SqL K H1 l (ns.map V.int) ∧ ns.length < 64 ∧ ∀ p : Addr, H1 p = none → Q (.ref p) (upd H1 p (.lst ((setU ns).map V.int)))
theorem pe_srtSetU {a : Expr} {ta : TE} {p p2 q pos : Pos} (hc : X.calm = true) (hg : Gl X "sorted") (hm : X.mg "sorted" = none) (hg2 : Gl X "set") (hm2 : X.mg "set" = none) (ha : PE X a ta)
    (na : starEach [a] X.env = (false, eval a X.env) :: starEach [] X.env := by rfl) : PE X (.Call (.Name "sorted" p) [.Call (.Name "set" p2) [a] [] q] [] pos) (tSrtSetU X.K ta) := by
  refine ⟨fun pins s σ H Q I h => ?_⟩
  refine Call_ (ld_blt I hg hm (by rfl) ?_)
  refine PyProof.Rows.callWith_builtin1 (PyProof.Rows.args_cons ?_ rfl) rfl rfl
  refine Call_ (ld_blt I hg2 hm2 PyProof.Rows.boot_set ?_)
  refine PyProof.Rows.callWith_type1 (PyProof.Rows.args_cons (thn (ha.run pins s σ H _ I h) fun v s1 ⟨x, H1, I1, r1, q1⟩ => PyProof.Rows.args_nil ?_) na) na rfl
  obtain ⟨l, ns, rfl, hq, h1, q1⟩ := q1
  cases r1
  obtain ⟨its, r, pl, hz⟩ := I1.list hq
  refine call_set_lstI ns (I1.ok.hd hc) pl.isList (by simpa using r.ints) (by unfold scanBound; omega) fun h' tk c hS hcl hk => ?_
  refine PyProof.Rows.args_nil ?_
  have I2 : Inv X pins σ H1 { s1 with heap := h', toks := tk } := I1.kept fun b o e => hk b o e
  obtain ⟨s2, e2⟩ : ∃ s2 : Shared, s2 = { s1 with heap := h', toks := tk } := ⟨_, rfl⟩
  have hS2 : SetR X.w s2.heap s1.heap.objs.size (fun j => decide (j ∈ ns)) c := by rw [e2]; exact hS
  rw [← e2] at I2 ⊢
  refine sorted_set hS2 (I1.ok.hd hc) (by omega) fun s' p out c ms k g o hp hg hi hs hm hl => ?_
  have em : ms = setU ns := up_unique hs (setU_up ns) fun k => by rw [hm k, mem_setU]; simp
  subst em
  have hlen : ((setU ns).map V.int).length ≤ sizeLine := by have := setU_len_le ns; rw [List.length_map, sizeLine_eq]; omega
  have hn : H1 p = none := I2.hok.fresh hp
  have J : Inv X pins σ (upd H1 p (.lst ((setU ns).map V.int))) { s2 with heap := s'.heap, gens := s'.gens, drawn := s'.drawn, toks := s'.toks } :=
    I2.call (ch := []) (Un.laid k hp hn) (I2.hok.laid k hp ⟨hlen, out.toList, _, vals_of_ints hi, hg⟩) (by rw [g]; exact I2.bare) (fun _ z => nomatch z)
  have e : s' = { s2 with heap := s'.heap, gens := s'.gens, drawn := s'.drawn, toks := s'.toks } := by
    cases s'
    cases s2
    cases o
    rfl
  rw [e]
  exact ⟨.ref p, _, J, rfl, q1 p hn⟩
end
section
variable {T : Tx} {Wx : WX} {X : Cx} {a : Expr} {f1 : CE}
theorem je_lenSet {p p2 q pos : Pos} (lv : Lv T Wx X) (hc : X.calm = true) (hg : Gl X "len") (hm : X.mg "len" = none) (hg2 : Gl X "set") (hm2 : X.mg "set" = none) (ha : JB T Wx X a f1)
    (na : starEach [a] X.env = (false, eval a X.env) :: starEach [] X.env := by rfl) : JE T Wx X (.Call (.Name "len" p) [.Call (.Name "set" p2) [a] [] q] [] pos) (cUn opLenSet f1) :=
  PE.imp (pe_lenSetU hc hg hm hg2 hm2 ha na) fun σ H Q ⟨g0, H0, c, g, S, ds, fr, p⟩ => by
  refine tG.bind (r1 := RB T) (r2 := RW T) mono_w fr p fun w1 S1 g1 H1 v1 e1 fr1 rv1 p1 => ?_
  unfold opLenSet at p1
  split at p1
  · rename_i ns hx
    obtain ⟨a, rfl, h1, hl⟩ := setLO_ok fr1.st rv1 hx
    exact ⟨a, ns, rfl, by rw [lv.hK]; exact h1, hl, PostG.now (r := RW T H1) p1 fr1.st (.int _)⟩
  · exact p1.elim
theorem je_srtSet {p p2 q pos : Pos} (lv : Lv T Wx X) (hc : X.calm = true) (hg : Gl X "sorted") (hm : X.mg "sorted" = none) (hg2 : Gl X "set") (hm2 : X.mg "set" = none) (ha : JB T Wx X a f1)
    (na : starEach [a] X.env = (false, eval a X.env) :: starEach [] X.env := by rfl) : JE T Wx X (.Call (.Name "sorted" p) [.Call (.Name "set" p2) [a] [] q] [] pos) (cUn opSrtSet f1) :=
  PE.imp (pe_srtSetU hc hg hm hg2 hm2 ha na) fun σ H Q ⟨g0, H0, c, g, S, ds, fr, p⟩ => by
  refine tG.bind (r1 := RB T) (r2 := RW T) mono_w fr p fun w1 S1 g1 H1 v1 e1 fr1 rv1 p1 => ?_
  unfold opSrtSet at p1
  split at p1
  · rename_i ns hx
    obtain ⟨a, rfl, h1, hl⟩ := setLO_ok fr1.st rv1 hx
    split at p1
    · rename_i h64
      refine ⟨a, ns, rfl, by rw [lv.hK]; exact h1, h64, fun pp hp => ?_⟩
      obtain ⟨g2, e2, rs2, rw2⟩ := alloc_ow (so := .lst ((setU ns).map D.int)) fr1.st hp (ho := .lst ((setU ns).map V.int)) fun g3 H3 fx => .lst (reps_ints _)
      exact p1 g2 _ _ e2 rs2 rw2
    · exact p1.elim
  · exact p1.elim
end
/-! ### range(i, j, c) -/
def rngC (lo c : Int) (n : Nat) : List D := (List.range n).map fun i => .int (lo + (i : Nat) * c)
def rng3 : List D → M (List D) := fun xs S => match xs with
  | [.int i, .int j, .int c] => if decide (c ≠ 0) && (decide (c.natAbs < 1073741824) && (Builtin.Range.small i j c && decide (Builtin.Range.rangeSize i j c = ((Builtin.Range.rangeSize i j c).toNat : Nat)))) then .ok (rngC i c (Builtin.Range.rangeSize i j c).toNat) S else .bad
  | _ => .bad
section
variable {T : Tx} {Wx : WX} {X : Cx} {g : Gh} {H : Hp} {tg : Expr} {pos : Pos}
theorem iter_rngC (lo c : Int) (n : Nat) : IterOk T (Itc lo c n) (rngC lo c n) (Chk.now g H) := by
  have hl : (rngC lo c n).length = n := by simp [rngC]
  refine ⟨fun i g' H' S hi hh _ => ?_, fun g' H' S hh _ => ?_, fun i d g' H' S x H2 hd hh rs hy => ?_⟩
  · show i < n
    rw [hl] at hi
    exact hi
  · show n ≤ (rngC lo c n).length
    rw [hl]
    exact Nat.le_refl _
  · obtain ⟨rfl, rfl⟩ := hy
    have hi : i < n := by
      have := (List.getElem?_eq_some_iff.mp hd).1
      rw [hl] at this
      exact this
    have e1 : (rngC lo c n)[i]? = some (.int (lo + (i : Nat) * c)) := by simp [rngC, hi]
    rw [e1] at hd
    cases hd
    exact ⟨g', Ext.refl _ _, rs, .int _⟩
theorem ji_rng3 {a b d : Expr} {fs : Env → M (List D)} {p' : Pos} (hg : Gl X "range") (hm : X.mg "range" = none) (ha : JA T Wx X [a, b, d] fs)
    (hs : starEach [a, b, d] X.env = (false, eval a X.env) :: starEach [b, d] X.env := by rfl) (hpl : (backTo pos (starEach [b, d] X.env)).any (·.1) = false := by rfl) :
    JI T Wx X tg (.Call (.Name "range" p') [a, b, d] [] pos) (cRng rng3 fs) :=
  PI.imp (pi_range3 hg hm ha hs hpl) fun σ H Rr ⟨g0, H0, c, g, S, ds, fr, p⟩ => by
    refine tG.iter (r := RA T) fr p fun xs S1 g1 H1 vs hf e1 fr1 rv p1 => ?_
    unfold rng3 at p1
    split at p1
    · rename_i i j k
      split at p1
      · rename_i hz
        rw [Bool.and_eq_true, Bool.and_eq_true, Bool.and_eq_true] at hz
        obtain ⟨z1, z2, z3, z4⟩ := hz
        cases rv with
        | cons r1 r2 =>
          cases r2 with
          | cons r2 r3 =>
            cases r3 with
            | cons r3 r4 =>
              cases r4
              cases r1
              cases r2
              cases r3
              exact ⟨i, j, k, _, rfl, ⟨of_decide_eq_true z1, of_decide_eq_true z2, z3, of_decide_eq_true z4⟩, p1 g1 H1 _ (Chk.now g1 H1) (Ext.refl _ _) fr1.st (Chk.now_held _ _) fr1.now (iter_rngC i k _)⟩
      · exact p1.elim
    · exact p1.elim
end
end Mir
set_option Elab.async false
set_option linter.all false
set_option maxRecDepth 100000
set_option maxHeartbeats 2000000
/-! Mir29: x.remove(d) of data. -/
namespace Mir
open PySem PySem.Spec PyProof.Rows L2
def rRemD (K : PySem.W.Frag) : V → List V → Hp → VK → Prop := fun x vs H Q => ∃ (l : Addr) (xs : List V) (y : V) (ds : List PyData) (d : PyData) (j : Nat), x = .ref l ∧ vs = [y] ∧ H l = some (.lst xs) ∧ DpAll K H xs ds ∧ Dp K H y d ∧ SeqAt.shaped (.list ds) = true ∧ SeqAt.shaped d = true ∧ SeqAt.dataPlace ds d = some j ∧ Q .non (upd H l (.lst (xs.eraseIdx j)))
theorem mt_remD {X : Cx} (hu : X.A.units + 100 < cLine) : MtR X "list.remove" (rRemD X.K) := by
  intro pins s σ H x vs v us Q I rx rv h
  obtain ⟨l, xs, y, ds, d, j, rfl, rfl, hH, h1, h2, s1, s2, hp, q⟩ := h
  cases rx
  obtain ⟨u, rfl, ru⟩ := rv.one
  obtain ⟨z, its, n, r, hl, e⟩ := I.lstM hH
  obtain ⟨as, r1⟩ := Dp.readsAll I ds xs its h1 r
  obtain ⟨bs, r2⟩ := Dp.reads I d y u h2 ru
  have p1 : PyData.plainAll ds = true := PyData.plain_of_canLay0 (.list ds) (SeqAt.canLay_of_shaped s1)
  have p2 := PyData.plain_of_canLay0 d (SeqAt.canLay_of_shaped s2)
  have dd := SeqAt.depth_of_shaped s2
  have hu2 : X.A.units + 1 + min (PyData.depthAll ds) d.depth < cLine := by
    have := Nat.min_le_right (PyData.depthAll ds) d.depth
    omega
  refine SeqAt.remove_list_data (vs := its.toArray) ⟨_, e, rfl, n, rfl⟩ (by simpa using r1) r2 p1 p2 hu2 hp (by rw [List.size_toArray]; omega) ?_
  refine ⟨.non, _, I.lset (its' := its.eraseIdx j) (t' := s.toks) hH e ?_ (r.eraseIdx j) ?_, rfl, q⟩
  · show its.toArray.eraseIdxIfInBounds j = (its.eraseIdx j).toArray
    rw [List.eraseIdxIfInBounds_toArray]
  · have z2 := len_erase xs j
    omega
section
variable {T : Tx} {Wx : WX} {X : Cx}
theorem mt_rem (lv : Lv T Wx X) : MtR X "list.remove" (rRemD T.K) := lv.hK ▸ mt_remD (by have := lv.un; omega)
/-- the first that is d goes -/
def remD (d : D) (ys : List D) : Option (List D) := (SeqAt.dataPlace (toPds ys) (toPd d)).map ys.eraseIdx
def mRemove : Mu := fun so xs => match so, xs with
  | .lst ys, [d] => if isPds ys && SeqAt.shaped (.list (toPds ys)) && (isPd d && SeqAt.shaped (toPd d)) then (match remD d ys with
    | some zs => some (.lst zs, .non)
    | none => none) else none
  | _, _ => none
theorem ty_remove : MuTy "list" mRemove := fun so ds p h => by
  unfold mRemove at h
  split at h
  · rfl
  · cases h
theorem v_remove : VM T "list" (rRemD T.K) mRemove := by
  intro g H a ho so ds vs so' d h r ra hm
  unfold mRemove at hm
  split at hm
  · rename_i ys x
    split at hm
    · rename_i hz
      rw [Bool.and_eq_true, Bool.and_eq_true, Bool.and_eq_true] at hz
      obtain ⟨⟨z1, z2⟩, z3, z4⟩ := hz
      unfold remD at hm
      cases q : SeqAt.dataPlace (toPds ys) (toPd x) with
      | none => rw [q] at hm; cases hm
      | some j =>
        rw [q] at hm
        cases hm
        cases ra with
        | @cons _ y _ _ r1 r2 =>
          cases r2
          cases r with
          | @lst _ vys r =>
            exact ⟨.lst (vys.eraseIdx j), .non, fun g' H' fx => .lst ((r.fix fx).erase _), fun _ _ _ => .non, fun Q qq => ⟨a, vys, y, _, _, j, rfl, rfl, h, toPds_ok r z1, toPd_ok r1 z3, z2, z4, q, qq⟩⟩
    · cases hm
  · cases hm
end
end Mir
set_option Elab.async false
set_option linter.all false
set_option maxRecDepth 100000
set_option maxHeartbeats 2000000
/-! Mir30: a slot's own thing put into the store for one statement, and taken out of it again; a for over a list of the store. -/
namespace Mir
open PySem PySem.Spec PyProof.Rows L2
/-! ### data alike -/
mutual
def eqD : D → D → Bool
  | .non, b => match b with | .non => true | _ => false
  | .bl a, b => match b with | .bl b => a == b | _ => false
  | .int a, b => match b with | .int b => decide (a = b) | _ => false
  | .str a, b => match b with | .str b => decide (a = b) | _ => false
  | .tup a, b => match b with | .tup b => eqDs a b | _ => false
  | .lst a, b => match b with | .lst b => eqDs a b | _ => false
  | .dct a, b => match b with | .dct b => eqDk a b | _ => false
  | .ins c a, b => match b with | .ins d b => decide (c = d) && eqDf a b | _ => false
  | .ref a, b => match b with | .ref b => decide (a = b) | _ => false
  | .scr a, b => match b with | .scr b => decide (a = b) | _ => false
def eqDs : List D → List D → Bool
  | [], b => match b with | [] => true | _ => false
  | a :: r, b => match b with | b :: s => eqD a b && eqDs r s | _ => false
def eqDk : List (Key × D) → List (Key × D) → Bool
  | [], b => match b with | [] => true | _ => false
  | (k, a) :: r, b => match b with | (l, b) :: s => decide (k = l) && (eqD a b && eqDk r s) | _ => false
def eqDf : List (Str × D) → List (Str × D) → Bool
  | [], b => match b with | [] => true | _ => false
  | (k, a) :: r, b => match b with | (l, b) :: s => decide (k = l) && (eqD a b && eqDf r s) | _ => false
end
mutual
theorem eqD_self : ∀ a : D, eqD a a = true
  | .non => by simp [eqD]
  | .bl a => by simp [eqD]
  | .int a => by simp [eqD]
  | .str a => by simp [eqD]
  | .tup a => by rw [eqD]; exact eqDs_self a
  | .lst a => by rw [eqD]; exact eqDs_self a
  | .dct a => by rw [eqD]; exact eqDk_self a
  | .ins c a => by rw [eqD]; simp [eqDf_self a]
  | .ref a => by simp [eqD]
  | .scr a => by simp [eqD]
theorem eqDs_self : ∀ a : List D, eqDs a a = true
  | [] => by simp [eqDs]
  | a :: r => by rw [eqDs]; simp [eqD_self a, eqDs_self r]
theorem eqDk_self : ∀ a : List (Key × D), eqDk a a = true
  | [] => by simp [eqDk]
  | (k, a) :: r => by rw [eqDk]; simp [eqD_self a, eqDk_self r]
theorem eqDf_self : ∀ a : List (Str × D), eqDf a a = true
  | [] => by simp [eqDf]
  | (k, a) :: r => by rw [eqDf]; simp [eqD_self a, eqDf_self r]
end
mutual
theorem eqD_of : ∀ {a b : D}, eqD a b = true → a = b
  | .non, b, h => by cases b <;> simp_all [eqD]
  | .bl a, b, h => by cases b <;> simp_all [eqD]
  | .int a, b, h => by cases b <;> simp_all [eqD]
  | .str a, b, h => by cases b <;> simp_all [eqD]
  | .ref a, b, h => by cases b <;> simp_all [eqD]
  | .scr a, b, h => by cases b <;> simp_all [eqD]
  | .tup a, b, h => by
    cases b with
    | tup b => rw [eqD] at h; rw [eqDs_of h]
    | _ => simp [eqD] at h
  | .lst a, b, h => by
    cases b with
    | lst b => rw [eqD] at h; rw [eqDs_of h]
    | _ => simp [eqD] at h
  | .dct a, b, h => by
    cases b with
    | dct b => rw [eqD] at h; rw [eqDk_of h]
    | _ => simp [eqD] at h
  | .ins c a, b, h => by
    cases b with
    | ins d b =>
      rw [eqD] at h
      rcases Bool.and_eq_true_iff.mp h with ⟨h1, h2⟩
      rw [of_decide_eq_true h1, eqDf_of h2]
    | _ => simp [eqD] at h
theorem eqDs_of : ∀ {a b : List D}, eqDs a b = true → a = b
  | [], b, h => by
    cases b with
    | nil => rfl
    | cons _ _ => simp [eqDs] at h
  | a :: r, b, h => by
    cases b with
    | nil => simp [eqDs] at h
    | cons b s =>
      rw [eqDs] at h
      rcases Bool.and_eq_true_iff.mp h with ⟨h1, h2⟩
      rw [eqD_of h1, eqDs_of h2]
theorem eqDk_of : ∀ {a b : List (Key × D)}, eqDk a b = true → a = b
  | [], b, h => by
    cases b with
    | nil => rfl
    | cons _ _ => simp [eqDk] at h
  | (k, a) :: r, b, h => by
    cases b with
    | nil => simp [eqDk] at h
    | cons b s =>
      obtain ⟨l, b⟩ := b
      rw [eqDk] at h
      rcases Bool.and_eq_true_iff.mp h with ⟨h1, h2⟩
      rcases Bool.and_eq_true_iff.mp h2 with ⟨h2, h3⟩
      rw [of_decide_eq_true h1, eqD_of h2, eqDk_of h3]
theorem eqDf_of : ∀ {a b : List (Str × D)}, eqDf a b = true → a = b
  | [], b, h => by
    cases b with
    | nil => rfl
    | cons _ _ => simp [eqDf] at h
  | (k, a) :: r, b, h => by
    cases b with
    | nil => simp [eqDf] at h
    | cons b s =>
      obtain ⟨l, b⟩ := b
      rw [eqDf] at h
      rcases Bool.and_eq_true_iff.mp h with ⟨h1, h2⟩
      rcases Bool.and_eq_true_iff.mp h2 with ⟨h2, h3⟩
      rw [of_decide_eq_true h1, eqD_of h2, eqDf_of h3]
end
def eqO : SO → SO → Bool
  | .lst a, .lst b => eqDs a b
  | .dct a, .dct b => eqDk a b
  | .ins c a, .ins d b => decide (c = d) && eqDf a b
  | _, _ => false
theorem eqO_self (a : SO) : eqO a a = true := by cases a <;> simp [eqO, eqDs_self, eqDk_self, eqDf_self]
theorem eqO_of {a b : SO} (h : eqO a b = true) : a = b := by
  cases a <;> cases b <;> simp only [eqO] at h <;> first | cases h; done | skip
  · rw [eqDs_of h]
  · rw [eqDk_of h]
  · rcases Bool.and_eq_true_iff.mp h with ⟨h1, h2⟩
    rw [of_decide_eq_true h1, eqDf_of h2]
def eqSt : Store → Store → Bool
  | [], b => match b with | [] => true | _ => false
  | a :: r, b => match b with | b :: s => eqO a b && eqSt r s | _ => false
@[simp] theorem eqSt_self : ∀ a : Store, eqSt a a = true
  | [] => rfl
  | a :: r => by simp [eqSt, eqO_self a, eqSt_self r]
theorem eqSt_of : ∀ {a b : Store}, eqSt a b = true → a = b
  | [], b, h => by
    cases b with
    | nil => rfl
    | cons _ _ => cases h
  | a :: r, b, h => by
    cases b with
    | nil => cases h
    | cons b s =>
      rcases Bool.and_eq_true_iff.mp (show (eqO a b && eqSt r s) = true from h) with ⟨h1, h2⟩
      rw [eqO_of h1, eqSt_of h2]
def eqW : Wv → Wv → Bool
  | .fz a, .fz b => eqD a b
  | .ow a, .ow b => eqO a b
  | .xc, .xc => true
  | _, _ => false
theorem eqW_self (a : Wv) : eqW a a = true := by cases a <;> simp [eqW, eqD_self, eqO_self]
theorem eqW_of {a b : Wv} (h : eqW a b = true) : a = b := by
  cases a <;> cases b <;> simp only [eqW] at h <;> first | cases h; done | skip
  · rw [eqD_of h]
  · rw [eqO_of h]
  · rfl
/-! ### which cells a value names: those below n alone -/
mutual
def lowD (n : Nat) : D → Bool
  | .tup xs => lowDs n xs
  | .lst xs => lowDs n xs
  | .dct xs => lowDk n xs
  | .ins _ xs => lowDf n xs
  | .ref k => decide (k < n)
  | _ => true
def lowDs (n : Nat) : List D → Bool
  | [] => true
  | a :: r => lowD n a && lowDs n r
def lowDk (n : Nat) : List (Key × D) → Bool
  | [] => true
  | (_, a) :: r => lowD n a && lowDk n r
def lowDf (n : Nat) : List (Str × D) → Bool
  | [] => true
  | (_, a) :: r => lowD n a && lowDf n r
end
def lowO (n : Nat) : SO → Bool
  | .lst xs => lowDs n xs
  | .dct xs => lowDk n xs
  | .ins _ xs => lowDf n xs
def lowW (n : Nat) : Wv → Bool
  | .fz d => lowD n d
  | .ow so => lowO n so
  | .xc => true
section
variable {T : Tx} {Wx : WX} {X : Cx} {e : Expr} {g g0 g1 g2 g' : Gh} {H H0 H1 H2 H' : Hp} {c : Chk} {S S1 S2 : Store} {ds ds2 : Env} {σ σ2 : SV} {st : Stmt} {a : Addr} {pos : Pos} {tg : Expr}
mutual
theorem Rep.low : ∀ {d : D} {v : V}, Rep T g H d v → lowD g.io.length d = true
  | _, _, .non => rfl
  | _, _, .bl b => rfl
  | _, _, .int i => rfl
  | _, _, .str x => rfl
  | _, _, .tup _ _ r => by rw [lowD]; exact Reps.low r
  | _, _, .lst _ _ r => by rw [lowD]; exact Reps.low r
  | _, _, .scr _ => rfl
  | _, _, .dct _ _ r => by rw [lowD]; exact RepK.low r
  | _, _, .ins _ _ r => by rw [lowD]; exact RepF.low r
  | _, _, .ref h => by rw [lowD]; exact decide_eq_true (List.getElem?_eq_some_iff.mp h).1
theorem Reps.low : ∀ {ds : List D} {us : List V}, Reps T g H ds us → lowDs g.io.length ds = true
  | _, _, .nil => rfl
  | _, _, .cons h r => by rw [lowDs, Rep.low h, Reps.low r]; rfl
theorem RepK.low : ∀ {ds : List (Key × D)} {us : List (Key × V)}, RepK T g H ds us → lowDk g.io.length ds = true
  | _, _, .nil => rfl
  | _, _, .cons h r => by rw [lowDk, Rep.low h, RepK.low r]; rfl
theorem RepF.low : ∀ {ds : List (Str × D)} {us : List (Str × V)}, RepF T g H ds us → lowDf g.io.length ds = true
  | _, _, .nil => rfl
  | _, _, .cons h r => by rw [lowDf, Rep.low h, RepF.low r]; rfl
end
theorem RepO.low {so : SO} {ho : HO} (r : RepO T g H so ho) : lowO g.io.length so = true := by
  cases r with
  | lst r => exact r.low
  | dct r => exact r.low
  | ins r => exact r.low
/-- the cells from n on no more known -/
abbrev Gh.pop (g : Gh) (n : Nat) : Gh := ⟨g.io.take n, g.L⟩
mutual
theorem Rep.pop {n : Nat} : ∀ {d : D} {v : V}, Rep T g H d v → lowD n d = true → Rep T (g.pop n) H d v
  | _, _, .non, _ => .non
  | _, _, .bl b, _ => .bl b
  | _, _, .int i, _ => .int i
  | _, _, .str x, _ => .str x
  | _, _, .tup h k r, q => .tup h k (Reps.pop r (by rw [lowD] at q; exact q))
  | _, _, .lst h k r, q => .lst h k (Reps.pop r (by rw [lowD] at q; exact q))
  | _, _, .scr h, _ => .scr h
  | _, _, .dct h k r, q => .dct h k (RepK.pop r (by rw [lowD] at q; exact q))
  | _, _, .ins h k r, q => .ins h k (RepF.pop r (by rw [lowD] at q; exact q))
  | _, _, .ref h, q => .ref (by
    rw [lowD] at q
    show (g.io.take n)[_]? = _
    rw [List.getElem?_take, if_pos (of_decide_eq_true q)]
    exact h)
theorem Reps.pop {n : Nat} : ∀ {ds : List D} {us : List V}, Reps T g H ds us → lowDs n ds = true → Reps T (g.pop n) H ds us
  | _, _, .nil, _ => .nil
  | _, _, .cons h r, q => by
    rw [lowDs, Bool.and_eq_true] at q
    exact .cons (Rep.pop h q.1) (Reps.pop r q.2)
theorem RepK.pop {n : Nat} : ∀ {ds : List (Key × D)} {us : List (Key × V)}, RepK T g H ds us → lowDk n ds = true → RepK T (g.pop n) H ds us
  | _, _, .nil, _ => .nil
  | _, _, .cons h r, q => by
    rw [lowDk, Bool.and_eq_true] at q
    exact .cons (Rep.pop h q.1) (RepK.pop r q.2)
theorem RepF.pop {n : Nat} : ∀ {ds : List (Str × D)} {us : List (Str × V)}, RepF T g H ds us → lowDf n ds = true → RepF T (g.pop n) H ds us
  | _, _, .nil, _ => .nil
  | _, _, .cons h r, q => by
    rw [lowDf, Bool.and_eq_true] at q
    exact .cons (Rep.pop h q.1) (RepF.pop r q.2)
end
theorem RepO.pop {n : Nat} {so : SO} {ho : HO} (r : RepO T g H so ho) (q : lowO n so = true) : RepO T (g.pop n) H so ho := by
  cases r with
  | lst r => exact .lst (r.pop q)
  | dct r => exact .dct (r.pop q)
  | ins r => exact .ins (r.pop q)
theorem Own.pop {n : Nat} {so : SO} (o : Own T H0 g H so a) (q : lowO n so = true) : Own T H0 (g.pop n) H so a := by
  obtain ⟨ho, h1, h2⟩ := o.obj
  exact ⟨o.new, o.liv, fun z => o.nio (List.mem_of_mem_take z), ho, h1, h2.pop q⟩
theorem Ext.pop {n : Nat} (x : Ext g0 H0 g H) (hn : g0.io.length ≤ n) : Ext g0 H0 (g.pop n) H := by
  refine ⟨?_, x.trk, x.liv, fun b o h k => ⟨(x.kp b o h k).1, fun z => (x.kp b o h k).2 (List.mem_of_mem_take z)⟩⟩
  obtain ⟨t, e⟩ := x.pre
  refine ⟨t.take (n - g0.io.length), ?_⟩
  show g.io.take n = _
  rw [e, List.take_append, List.take_of_length_le hn]
theorem RelS.pop (rs : RelS T g (S ++ S1) H) (hl : ∀ so ∈ S, lowO S.length so = true) : RelS T (g.pop S.length) S H := by
  have l : S.length ≤ g.io.length := by rw [rs.len, List.length_append]; omega
  refine ⟨by show (g.io.take _).length = _; rw [List.length_take]; omega, rs.nd.sublist (List.take_sublist _ _), fun b hb => rs.liv b (List.mem_of_mem_take hb), fun n o b h1 h2 => ?_⟩
  have hn : n < S.length := (List.getElem?_eq_some_iff.mp h1).1
  have h2' : g.io[n]? = some b := by
    have z : (g.io.take S.length)[n]? = some b := h2
    rw [List.getElem?_take, if_pos hn] at z
    exact z
  obtain ⟨ho, h3, p⟩ := rs.obj n o b (by rw [List.getElem?_append_left hn]; exact h1) h2'
  exact ⟨ho, h3, p.pop (hl o (List.mem_of_getElem? h1))⟩
/-- a slot's own thing, into the store -/
theorem FR.share {i : Nat} {so : SO} (fr : FR T g0 H0 c g H S ds σ) (h : ds[i]? = some (some (.ow so))) (ha : σ[i]? = some (some (.ref a))) :
    FR T g0 H0 ⟨c.fz, g.io ++ [a]⟩ ⟨g.io ++ [a], g.L⟩ H (S ++ [so]) (ds.set i (some (.fz (.ref S.length)))) σ := by
  obtain ⟨a', ha', o⟩ := fr.env.ow i so h
  rw [ha] at ha'
  cases ha'
  obtain ⟨ho, hH, p⟩ := o.obj
  have hi : i < ds.length := (List.getElem?_eq_some_iff.mp h).1
  have fx : Fix g H ⟨g.io ++ [a], g.L⟩ H := ⟨⟨[a], rfl⟩, fun b u hb n => ⟨hb, n⟩⟩
  have gl : g.io.length = S.length := fr.st.len
  refine ⟨⟨?_, fr.ext.trk, fr.ext.liv, fun b u hb n => ⟨(fr.ext.kp b u hb n).1, fun z => ?_⟩⟩, ⟨by simp [gl], ?_, fun b hb => ?_, fun n so' b h1 h2 => ?_⟩,
    ⟨by simpa using fr.env.len, fun j d hj => ?_, fun j so' hj => ?_, fun j k so1 so2 b ne h1 h2 h3 h4 => ?_, fun j hj => ?_⟩, fr.fz, ⟨[], by simp⟩, fr.ln⟩
  · obtain ⟨t, e⟩ := fr.ext.pre
    exact ⟨t ++ [a], by show g.io ++ [a] = _; rw [e, List.append_assoc]⟩
  · rcases List.mem_append.mp z with z | z
    · exact (fr.ext.kp b u hb n).2 z
    · rw [List.mem_singleton.mp z, o.new] at hb
      cases hb
  · show (g.io ++ [a]).Nodup
    rw [List.nodup_append]
    exact ⟨fr.st.nd, by simp, fun x hx y hy e => o.nio (by rw [List.mem_singleton.mp hy] at e; rw [← e]; exact hx)⟩
  · rcases List.mem_append.mp hb with hb | hb
    · exact fr.st.liv b hb
    · rw [List.mem_singleton.mp hb]
      exact o.liv
  · by_cases hn : n < S.length
    · rw [List.getElem?_append_left hn] at h1
      have h2' : g.io[n]? = some b := by
        have z : (g.io ++ [a])[n]? = some b := h2
        rw [List.getElem?_append_left (by omega)] at z
        exact z
      obtain ⟨ho', h3, p'⟩ := fr.st.obj n so' b h1 h2'
      exact ⟨ho', h3, p'.fix fx⟩
    · rw [List.getElem?_append_right (by omega)] at h1
      have z : (g.io ++ [a])[n]? = some b := h2
      rw [List.getElem?_append_right (by omega)] at z
      have e : n - S.length = 0 := by
        cases q : n - S.length with
        | zero => rfl
        | succ m => rw [q] at h1; cases h1
      rw [e] at h1
      rw [gl, e] at z
      cases h1
      cases z
      exact ⟨ho, hH, p.fix fx⟩
  · by_cases e : i = j
    · subst e
      rw [List.getElem?_set_self hi] at hj
      cases hj
      refine ⟨_, ha, .ref ?_⟩
      show (g.io ++ [a])[S.length]? = some a
      rw [← gl, List.getElem?_append_right (Nat.le_refl _), Nat.sub_self]
      rfl
    · rw [List.getElem?_set_ne e] at hj
      obtain ⟨v, hv, rv⟩ := fr.env.fz j d hj
      exact ⟨v, hv, rv.fix fx⟩
  · by_cases e : i = j
    · subst e
      rw [List.getElem?_set_self hi] at hj
      cases hj
    · rw [List.getElem?_set_ne e] at hj
      obtain ⟨b, hb, ob⟩ := fr.env.ow j so' hj
      have nb : b ≠ a := fun z => fr.env.ne i j so so' a e h hj ha (z ▸ hb)
      obtain ⟨ho', h3, p'⟩ := ob.obj
      refine ⟨b, hb, ob.new, ob.liv, fun z => ?_, ho', h3, p'.fix fx⟩
      rcases List.mem_append.mp z with z | z
      · exact ob.nio z
      · exact nb (List.mem_singleton.mp z)
  · have f : ∀ {m : Nat} {s : SO}, (ds.set i (some (Wv.fz (.ref S.length))))[m]? = some (some (.ow s)) → ds[m]? = some (some (.ow s)) := fun {m s} q => by
      by_cases e : i = m
      · subst e
        rw [List.getElem?_set_self hi] at q
        cases q
      · rw [List.getElem?_set_ne e] at q
        exact q
    exact fr.env.ne j k so1 so2 b ne (f h1) (f h2) h3 h4
  · by_cases e : i = j
    · subst e
      rw [List.getElem?_set_self hi] at hj
      cases hj
    · rw [List.getElem?_set_ne e] at hj
      exact fr.env.xc j hj
/-! ### the statement under which it is the store's -/
def keep1 : Option Wv → Option Wv → Bool
  | _, none => true
  | some a, some b => eqW a b
  | none, some _ => false
def low1 (n : Nat) : Option Wv → Bool
  | none => true
  | some w => lowW n w
theorem keep1_self (a : Option Wv) : keep1 a a = true := by
  cases a with
  | none => rfl
  | some w => exact eqW_self w
theorem keep1_none (a : Option Wv) : keep1 a none = true := by cases a <;> rfl
theorem keep1_of {a : Option Wv} {w : Wv} (h : keep1 a (some w) = true) : a = some w := by
  cases a with
  | none => cases h
  | some b => rw [eqW_of h]
/-- slots that the statement may set name no new cell, the others are as they were -/
def chkE (outs : List Nat) (i n : Nat) : Nat → Env → Env → Bool
  | _, [], [] => true
  | k, x :: ds, y :: ds2 => (if k = i then true else if outs.contains k then low1 n y else keep1 x y) && chkE outs i n (k + 1) ds ds2
  | _, _, _ => false
theorem chkE_at {outs : List Nat} {i n : Nat} : ∀ {k : Nat} {ds ds2 : Env}, chkE outs i n k ds ds2 = true → ∀ (j : Nat) (w : Wv), k + j ≠ i → ds2[j]? = some (some w) → lowW n w = true ∨ ds[j]? = some (some w)
  | _, [], [], _, j, w, _, hj => by cases hj
  | k, x :: ds, y :: ds2, h, j, w, ne, hj => by
    rcases Bool.and_eq_true_iff.mp (show ((if k = i then true else if outs.contains k then low1 n y else keep1 x y) && chkE outs i n (k + 1) ds ds2) = true from h) with ⟨h1, h2⟩
    cases j with
    | zero =>
      have ey : y = some w := Option.some.inj hj
      subst ey
      rw [if_neg (by omega)] at h1
      split at h1
      · exact .inl h1
      · exact .inr (by rw [keep1_of h1]; rfl)
    | succ j => exact chkE_at h2 j w (by omega) hj
  | _, [], _ :: _, h, _, _, _, _ => by cases h
  | _, _ :: _, [], h, _, _, _, _ => by cases h
def atRef (ds2 : Env) (i n : Nat) : Bool := match ds2[i]? with
  | some (some w) => eqW w (.fz (.ref n))
  | _ => false
theorem atRef_of {ds2 : Env} {i n : Nat} (h : atRef ds2 i n = true) : ds2[i]? = some (some (.fz (.ref n))) := by
  unfold atRef at h
  split at h
  · rename_i w hw
    rw [hw, eqW_of h]
  · cases h
def tmpE (outs : List Nat) (i : Nat) (ds : Env) (S : Store) : RS → RS
  | .nx ds2 S2 => match S2[S.length]? with
    | some so' => if eqSt S2 (S ++ [so']) && (lowO S.length so' && (chkE outs i S.length 0 ds ds2 && atRef ds2 i S.length)) then .nx (ds2.set i (some (.ow so'))) S else .bad
    | none => .bad
  | .rt w S2 => match S2[S.length]? with
    | some so' => if eqSt S2 (S ++ [so']) && lowW S.length w then .rt w S else .bad
    | none => .bad
  | _ => .bad
def cTmp (outs : List Nat) (i : Nat) (a : CS) : CS := fun ds S => match ds[i]? with
  | some (some (.ow so)) => tmpE outs i ds S (a (ds.set i (some (.fz (.ref S.length)))) (S ++ [so]))
  | _ => .bad
theorem js_tmp {outs : List Nat} {i : Nat} {b : CS} (h : JS T Wx X st b) : JS T Wx X st (cTmp outs i b) := PS.imp h fun D' σ H ⟨g0, H0, c, g, S, ds, fr, p⟩ => by
  unfold cTmp at p
  split at p
  · rename_i so hso
    obtain ⟨a, ha, o⟩ := fr.env.ow i so hso
    have fr1 := fr.share hso ha
    refine ⟨g0, H0, _, _, _, _, fr1, ?_⟩
    have g0l : g0.io.length ≤ S.length := by
      obtain ⟨t, e⟩ := fr.ext.pre
      have := congrArg List.length e
      rw [List.length_append, fr.st.len] at this
      omega
    have gl : g.io.length = S.length := fr.st.len
    have lowS : ∀ so' ∈ S, lowO S.length so' = true := fun so' hm => by
      obtain ⟨k, hk⟩ := List.mem_iff_getElem?.mp hm
      have hkl : k < g.io.length := by rw [gl]; exact (List.getElem?_eq_some_iff.mp hk).1
      obtain ⟨ho, _, p'⟩ := fr.st.obj k so' g.io[k] hk (List.getElem?_eq_getElem hkl)
      rw [← gl]
      exact p'.low
    generalize b (ds.set i (some (.fz (.ref S.length)))) (S ++ [so]) = z at p
    cases z with
    | bk ds' S' => exact p.elim
    | ct ds' S' => exact p.elim
    | ex x ds' S' => exact p.elim
    | bad => exact p.elim
    | rt w S2 =>
      unfold tmpE at p
      dsimp only at p
      split at p
      · rename_i so' hs'
        split at p
        · rename_i hz
          rcases Bool.and_eq_true_iff.mp hz with ⟨z1, z2⟩
          have e2 := eqSt_of z1
          subst e2
          intro g2 H2 v x2 rs2 rw2
          refine p (g2.pop S.length) H2 v (x2.pop g0l) (rs2.pop lowS) ?_
          cases w with
          | fz d => exact Rep.pop rw2 z2
          | xc => exact rw2
          | ow so2 =>
            obtain ⟨b, eb, ob⟩ := rw2
            exact ⟨b, eb, ob.pop z2⟩
        · exact p.elim
      · exact p.elim
    | nx ds2 S2 =>
      unfold tmpE at p
      dsimp only at p
      split at p
      · rename_i so' hs'
        split at p
        · rename_i hz
          rcases Bool.and_eq_true_iff.mp hz with ⟨z1, z2⟩
          rcases Bool.and_eq_true_iff.mp z2 with ⟨z2, z3⟩
          rcases Bool.and_eq_true_iff.mp z3 with ⟨z3, z4⟩
          have e2 := eqSt_of z1
          subst e2
          have hi2 := atRef_of z4
          intro g2 H2 σ2 fr2
          have io2 : g2.io = g.io ++ [a] := by
            obtain ⟨t, e⟩ := fr2.io
            have e : g2.io = (g.io ++ [a]) ++ t := e
            have l := fr2.st.len
            rw [e] at l
            simp only [List.length_append, List.length_singleton] at l
            have : t = [] := List.length_eq_zero_iff.mp (by omega)
            rw [e, this, List.append_nil]
          have tk : g2.io.take S.length = g.io := by rw [io2, ← gl, List.take_left]
          have hi : i < ds2.length := (List.getElem?_eq_some_iff.mp hi2).1
          obtain ⟨v2, hv2, rv2⟩ := fr2.env.fz i _ hi2
          have hv2 : σ2[i]? = some (some (.ref a)) := by
            cases rv2 with
            | @ref _ b hb =>
              have z : g2.io[S.length]? = some a := by rw [io2, ← gl, List.getElem?_append_right (Nat.le_refl _), Nat.sub_self]; rfl
              rw [z] at hb
              cases hb
              exact hv2
          have low : ∀ (j : Nat) (w : Wv), j ≠ i → ds2[j]? = some (some w) → lowW S.length w = true := fun j w ne hj => by
            rcases chkE_at z3 j w (by omega) hj with y | q1
            · exact y
            · cases w with
              | fz d =>
                obtain ⟨v, _, rv⟩ := fr.env.fz j d q1
                rw [← gl]
                exact rv.low
              | ow so1 =>
                obtain ⟨b, _, ob⟩ := fr.env.ow j so1 q1
                obtain ⟨ho, _, p'⟩ := ob.obj
                rw [← gl]
                exact p'.low
              | xc => rfl
          obtain ⟨ho2, h3, p3⟩ := fr2.st.obj S.length so' a hs' (by rw [io2, ← gl, List.getElem?_append_right (Nat.le_refl _), Nat.sub_self]; rfl)
          refine p (g2.pop S.length) H2 σ2 ⟨fr2.ext.pop g0l, fr2.st.pop lowS, ⟨by simpa using fr2.env.len, fun j d hj => ?_, fun j so1 hj => ?_, fun j k so1 so2 b ne h1 h2 h4 h5 => ?_, fun j hj => ?_⟩, fr2.fz, ?_, fr2.ln⟩
          · by_cases e : i = j
            · subst e
              rw [List.getElem?_set_self hi] at hj
              cases hj
            · rw [List.getElem?_set_ne e] at hj
              obtain ⟨v, hv, rv⟩ := fr2.env.fz j d hj
              exact ⟨v, hv, rv.pop (low j _ (Ne.symm e) hj)⟩
          · by_cases e : i = j
            · subst e
              rw [List.getElem?_set_self hi] at hj
              cases hj
              refine ⟨a, hv2, o.new, fr2.st.liv a (by rw [io2]; simp), fun z => ?_, ho2, h3, p3.pop z2⟩
              have z : a ∈ g2.io.take S.length := z
              rw [tk] at z
              exact o.nio z
            · rw [List.getElem?_set_ne e] at hj
              obtain ⟨b, hb, ob⟩ := fr2.env.ow j so1 hj
              exact ⟨b, hb, ob.pop (low j _ (Ne.symm e) hj)⟩
          · have f : ∀ {m : Nat} {s : SO}, (ds2.set i (some (Wv.ow so')))[m]? = some (some (.ow s)) → i ≠ m → ds2[m]? = some (some (.ow s)) := fun {m s} q e => by
              rw [List.getElem?_set_ne e] at q
              exact q
            have far : ∀ {m : Nat} {s : SO}, ds2[m]? = some (some (.ow s)) → σ2[m]? ≠ some (some (.ref a)) := fun {m s} q z => by
              obtain ⟨b', hb, ob⟩ := fr2.env.ow m s q
              rw [z] at hb
              cases hb
              exact ob.nio (by rw [io2]; simp)
            by_cases ej : i = j
            · subst ej
              rw [hv2] at h4
              cases h4
              exact far (f h2 ne) h5
            · by_cases ek : i = k
              · subst ek
                rw [hv2] at h5
                cases h5
                exact far (f h1 ej) h4
              · exact fr2.env.ne j k so1 so2 b ne (f h1 ej) (f h2 ek) h4 h5
          · by_cases e : i = j
            · subst e
              rw [List.getElem?_set_self hi] at hj
              cases hj
            · rw [List.getElem?_set_ne e] at hj
              exact fr2.env.xc j hj
          · obtain ⟨t, e⟩ := fr.io
            exact ⟨t, by show g2.io.take _ = _; rw [tk, e]⟩
        · exact p.elim
      · exact p.elim
  · exact p.elim
/-! ### for over a list of the store -/
def refL (d : D) (S : Store) : Option (Nat × List D) := match d with
  | .ref n => match S[n]? with
    | some (.lst xs) => some (n, xs)
    | _ => none
  | _ => none
def sameL (n : Nat) (xs : List D) (S : Store) : Bool := match S[n]? with
  | some (.lst ys) => eqDs xs ys
  | _ => false
theorem sameL_of {n : Nat} {xs : List D} (h : sameL n xs S = true) : S[n]? = some (.lst xs) := by
  unfold sameL at h
  split at h
  · rename_i ys hy
    rw [hy, eqDs_of h]
  · cases h
def grd (ck : Store → Bool) (b : CS) : CS := fun ds S => match b ds S with
  | .nx ds2 S2 => if ck S2 then .nx ds2 S2 else .bad
  | .ct ds2 S2 => if ck S2 then .ct ds2 S2 else .bad
  | r => r
def cForS (f : Env → M D) (t : Tgt) (b : CS) : CS := fun ds S => liftR (f ds S) ds fun d S => match refL d S with
  | some (n, xs) => forRun t (grd (sameL n xs) b) xs ds S
  | none => .bad
/-- a list of the store as it is walked: for the iterator -/
def tI2 (T : Tx) (Wx : WX) (f : Env → M D) : TI := fun σ H Rr => ∃ g0 H0 c g S ds, FR T g0 H0 c g H S ds σ ∧ (match f ds S with
  | .ok d S1 => match refL d S1 with
    | some (n, xs) => ∀ g1 H1 a, Ext g H g1 H1 → RelS T g1 S1 H1 → g1.io[n]? = some a → Rr (Itl T.K a) H1
    | none => False
  | .ex x S' => ∀ g' H' cls dx, Ext g H g' H' → RelS T g' S' H' → RepX T g' H' x cls dx → Wx cls dx σ H'
  | .bad => False)
theorem ji_ref {f : Env → M D} (lv : Lv T Wx X) (h : JD T Wx X e f) : PI X tg e (tI2 T Wx f) := PI.imp (pi_list h) fun σ H Rr ⟨g0, H0, c, g, S, ds, fr, p⟩ => by
  have hK := lv.hK
  refine ⟨g0, H0, c, g, S, ds, fr, ?_⟩
  cases q : f ds S with
  | bad => rw [q] at p; exact p
  | ex x S1 => rw [q] at p; exact p
  | ok d S1 =>
    rw [q] at p
    dsimp only at p
    unfold refL at p
    intro g1 H1 v e1 rs rv
    split at p
    · rename_i n xs hr
      split at hr
      · rename_i m
        split at hr
        · rename_i ys hy
          cases hr
          cases rv with
          | @ref _ a hio =>
            obtain ⟨ho, h1, h2⟩ := rs.obj n _ a hy hio
            cases h2 with
            | lst r =>
              refine ⟨a, rfl, ⟨_, by rw [hK]; exact SqL.of h1⟩, ?_⟩
              rw [hK]
              exact p g1 H1 a e1 rs hio
        · cases hr
      · cases hr
    · exact p.elim
theorem js_forS {f : Env → M D} {t : Tgt} {b : CS} {iter : Expr} {body : List Stmt} (lv : Lv T Wx X) (hc : X.calm = true) (hp : PassesOwn (model X.prog X.w) X.A X.env X.xe) (hi : JD T Wx X iter f) (hg : JG T X tg t) (hb : JSs T Wx X body b)
    (hs : ∀ x, foldedSetIterable iter X.env x = pure x := by intro _; rfl) : JS T Wx X (.For tg iter body [] pos) (cForS f t b) :=
  PS.imp (ps_for hp hc (ji_ref lv hi) hg hb hs) fun D' σ H ⟨g0, H0, c, g, S, ds, fr, p⟩ => by
    refine ⟨g0, H0, c, g, S, ds, fr, ?_⟩
    unfold cForS at p
    cases q : f ds S with
    | ex x S1 =>
      rw [q] at p
      exact fun g1 H1 cls dx e1 rs rx => p g1 H1 σ cls dx (fr.on e1 rs) rx
    | bad =>
      rw [q] at p
      exact p
    | ok d S1 =>
      rw [q] at p
      dsimp only [liftR] at p ⊢
      cases hr : refL d S1 with
      | none => rw [hr] at p; exact p
      | some nx =>
      obtain ⟨n, items⟩ := nx
      rw [hr] at p
      dsimp only at p ⊢
      have hn : S1[n]? = some (.lst items) := by
        unfold refL at hr
        split at hr
        · split at hr
          · rename_i hy
            cases hr
            exact hy
          · cases hr
        · cases hr
      intro g1 H1 a e1 rs1 hio
      have fr1 := (fr.on e1 rs1).chk (c' := ⟨c.fz, g1.io⟩) (fr.on e1 rs1).fz ⟨[], by simp⟩
      have back : ∀ {g' : Gh} {H' : Hp} {S' : Store} {ds' : Env} {σ' : SV}, FR T g0 H0 ⟨c.fz, g1.io⟩ g' H' S' ds' σ' → FR T g0 H0 c g' H' S' ds' σ' := fun {g' H' S' ds' σ'} f => f.chk f.fz (by
        obtain ⟨t1, h1⟩ := f.io
        obtain ⟨t2, h2⟩ := (fr.on e1 rs1).io
        exact ⟨t2 ++ t1, by rw [h1, h2, List.append_assoc]⟩)
      have at' : ∀ {g' : Gh} {H' : Hp} {S' : Store} {ds' : Env} {σ' : SV}, FR T g0 H0 ⟨c.fz, g1.io⟩ g' H' S' ds' σ' → S'[n]? = some (.lst items) → ∃ vs, H' a = some (.lst vs) ∧ Reps T g' H' items vs := fun {g' H' S' ds' σ'} f hn' => by
        obtain ⟨t1, h1⟩ := f.io
        have hl : n < g1.io.length := (List.getElem?_eq_some_iff.mp hio).1
        obtain ⟨ho, h2, h3⟩ := f.st.obj n _ a hn' (by rw [h1]; exact (List.getElem?_append_left hl).trans hio)
        cases h3 with
        | lst r => exact ⟨_, h2, r⟩
      refine ⟨fun i m σ' H' => m = items.length - i ∧ i ≤ items.length ∧ ∃ g' S' ds', FR T g0 H0 ⟨c.fz, g1.io⟩ g' H' S' ds' σ' ∧ S'[n]? = some (.lst items) ∧ PostS T Wx g0 H0 c D' (forRun t (grd (sameL n items) b) (items.drop i) ds' S'), ⟨items.length, by simp, Nat.zero_le _, g1, S1, ds, fr1, hn, by simpa using p⟩, ?_⟩
      rintro i m σ' H' ⟨rfl, hi', g', S', ds', fr', hn', p'⟩
      obtain ⟨vs, hvs, rvs⟩ := at' fr' hn'
      by_cases hlt : i < items.length
      · obtain ⟨v, hv, rv⟩ := rvs.get (List.getElem?_eq_getElem hlt)
        refine .inr ⟨⟨vs, v, SqL.of hvs, hv⟩, fun σ2 H2 => ∃ g2 S2 ds2, FR T g0 H0 ⟨c.fz, g1.io⟩ g2 H2 S2 ds2 σ2 ∧ S2[n]? = some (.lst items) ∧ PostS T Wx g0 H0 c D' (forRun t (grd (sameL n items) b) (items.drop (i + 1)) ds2 S2), fun σ2 H2 ⟨g2, S2, ds2, fr2, hn2, p2⟩ => ⟨items.length - (i + 1), by omega, rfl, hlt, g2, S2, ds2, fr2, hn2, p2⟩, fun x H2 hy => ?_⟩
        obtain ⟨rfl, q2⟩ := hy
        have e2 := q2 vs (SqL.of hvs)
        rw [hv] at e2
        cases e2
        have p2 := p'
        rw [List.drop_eq_getElem_cons hlt] at p2
        unfold forRun at p2
        split at p2
        · exact p2.elim
        · rename_i ds1 ha
          refine ⟨g0, H0, _, g', S', ds', .fz items[i], ds1, fr', rv, rv, ha, fun σ3 fr3 => ⟨g0, H0, _, g', S', ds1, fr3, ?_⟩⟩
          unfold grd at p2
          cases q3 : b ds1 S' with
          | nx ds3 S3 =>
            rw [q3] at p2
            dsimp only at p2
            by_cases hz : sameL n items S3 = true
            · rw [if_pos hz] at p2
              exact fun g3 H3 σ4 fr4 => ⟨g3, S3, ds3, fr4, sameL_of hz, p2⟩
            · rw [if_neg hz] at p2
              exact p2.elim
          | ct ds3 S3 =>
            rw [q3] at p2
            dsimp only at p2
            by_cases hz : sameL n items S3 = true
            · rw [if_pos hz] at p2
              exact fun g3 H3 σ4 fr4 => ⟨g3, S3, ds3, fr4, sameL_of hz, p2⟩
            · rw [if_neg hz] at p2
              exact p2.elim
          | bk ds3 S3 =>
            rw [q3] at p2
            exact fun g3 H3 σ4 fr4 => p2 g3 H3 σ4 (back fr4)
          | rt w S3 =>
            rw [q3] at p2
            exact p2
          | ex x' ds3 S3 =>
            rw [q3] at p2
            exact fun g3 H3 σ4 cls dx fr4 rx => p2 g3 H3 σ4 cls dx (back fr4) rx
          | bad =>
            rw [q3] at p2
            exact p2
      · have ei : i = items.length := Nat.le_antisymm hi' (Nat.le_of_not_lt hlt)
        subst ei
        refine .inl ⟨⟨vs, SqL.of hvs, by rw [rvs.length]; exact Nat.le_refl _⟩, ?_⟩
        rw [List.drop_length] at p'
        exact p' g' H' σ' (back fr')
/-! ### a new thing that is the store's from the start -/
def opShr : Wv → M Wv := fun w S => match w with
  | .ow so => .ok (.fz (.ref S.length)) (S ++ [so])
  | w => .ok w S
theorem je_shr {f : CE} (h : JE T Wx X e f) : JE T Wx X e (cUn opShr f) := PE.imp h fun σ H Q ⟨g0, H0, c, g, S, ds, fr, p⟩ => by
  refine ⟨g0, H0, c, g, S, ds, fr, ?_⟩
  unfold cUn at p
  cases q : f ds S with
  | ex x S1 => rw [q] at p; exact p
  | bad => rw [q] at p; exact p
  | ok w S1 =>
    rw [q] at p
    dsimp only [bindR] at p
    intro g' H' v ex rs rw1
    cases w with
    | fz d => exact p g' H' v ex rs rw1
    | xc => exact rw1.elim
    | ow so =>
      obtain ⟨a, ea, o⟩ := rw1
      subst ea
      obtain ⟨ho, hH, pr⟩ := o.obj
      have gl : g'.io.length = S1.length := rs.len
      have fx : Fix g' H' ⟨g'.io ++ [a], g'.L⟩ H' := ⟨⟨[a], rfl⟩, fun b u hb n => ⟨hb, n⟩⟩
      refine p ⟨g'.io ++ [a], g'.L⟩ H' _ ⟨?_, ex.trk, ex.liv, fun b u hb n => ⟨(ex.kp b u hb n).1, fun z => ?_⟩⟩ ⟨by simp [gl], ?_, fun b hb => ?_, fun n so' b h1 h2 => ?_⟩ (.ref ?_)
      · obtain ⟨t, e⟩ := ex.pre
        exact ⟨t ++ [a], by show g'.io ++ [a] = _; rw [e, List.append_assoc]⟩
      · rcases List.mem_append.mp z with z | z
        · exact (ex.kp b u hb n).2 z
        · rw [List.mem_singleton.mp z, o.new] at hb
          cases hb
      · show (g'.io ++ [a]).Nodup
        rw [List.nodup_append]
        exact ⟨rs.nd, by simp, fun x hx y hy e => o.nio (by rw [List.mem_singleton.mp hy] at e; rw [← e]; exact hx)⟩
      · rcases List.mem_append.mp hb with hb | hb
        · exact rs.liv b hb
        · rw [List.mem_singleton.mp hb]
          exact o.liv
      · by_cases hn : n < S1.length
        · rw [List.getElem?_append_left hn] at h1
          have h2' : g'.io[n]? = some b := by
            have z : (g'.io ++ [a])[n]? = some b := h2
            rw [List.getElem?_append_left (by omega)] at z
            exact z
          obtain ⟨ho', h3, p'⟩ := rs.obj n so' b h1 h2'
          exact ⟨ho', h3, p'.fix fx⟩
        · rw [List.getElem?_append_right (by omega)] at h1
          have z : (g'.io ++ [a])[n]? = some b := h2
          rw [List.getElem?_append_right (by omega)] at z
          have e : n - S1.length = 0 := by
            cases q : n - S1.length with
            | zero => rfl
            | succ m => rw [q] at h1; cases h1
          rw [e] at h1
          rw [gl, e] at z
          cases h1
          cases z
          exact ⟨ho, hH, pr.fix fx⟩
      · show (g'.io ++ [a])[S1.length]? = some a
        rw [← gl, List.getElem?_append_right (Nat.le_refl _), Nat.sub_self]
        rfl
end
end Mir
set_option Elab.async false
set_option linter.all false
set_option maxRecDepth 100000
/-! Dc: code without slots, and how a mirror does it. -/
namespace Mir
open PySem PySem.Spec PyProof.Rows L2

/-! ### slots forgotten -/
def killE : List Nat → Env → Env
  | [], ds => ds
  | i :: is, ds => killE is (ds.set i none)
def killR (is : List Nat) : RS → RS
  | .nx ds S => .nx (killE is ds) S
  | r => r
def cKill (is : List Nat) (a : CS) : CS := fun ds S => killR is (a ds S)
section
variable {T : Tx} {Wx : WX} {X : Cx} {g g0 : Gh} {H H0 : Hp} {c : Chk} {S : Store} {ds : Env} {σ : SV} {st : Stmt}
theorem FR.kill1 (i : Nat) (fr : FR T g0 H0 c g H S ds σ) : FR T g0 H0 c g H S (ds.set i none) σ := by
  have look : ∀ {j : Nat} {w : Wv}, (ds.set i none)[j]? = some (some w) → ds[j]? = some (some w) := fun {j w} h => by
    rw [List.getElem?_set] at h
    split at h
    · split at h
      · cases h
      · cases h
    · exact h
  exact ⟨fr.ext, fr.st, ⟨by simpa using fr.env.len, fun j d h => fr.env.fz j d (look h), fun j so h => fr.env.ow j so (look h), fun j k so so' a ne h1 h2 => fr.env.ne j k so so' a ne (look h1) (look h2), fun j h => fr.env.xc j (look h)⟩, fr.fz, fr.io, fr.ln⟩
theorem FR.kill : ∀ (is : List Nat) {ds : Env}, FR T g0 H0 c g H S ds σ → FR T g0 H0 c g H S (killE is ds) σ
  | [], _, fr => fr
  | i :: is, _, fr => FR.kill is (fr.kill1 i)
theorem js_kill (is : List Nat) {a : CS} (h : JS T Wx X st a) : JS T Wx X st (cKill is a) := PS.imp h fun D σ H ⟨g0, H0, c, g, S, ds, fr, p⟩ => by
  refine ⟨g0, H0, c, g, S, ds, fr, ?_⟩
  unfold cKill at p
  cases q : a ds S with
  | nx ds' S' => rw [q] at p; exact fun g' H' σ' fr' => p g' H' σ' (fr'.kill is)
  | bk ds' S' => rw [q] at p; exact p
  | ct ds' S' => rw [q] at p; exact p
  | rt w S' => rw [q] at p; exact p
  | ex x ds' S' => rw [q] at p; exact p
  | bad => rw [q] at p; exact p
/-- x = y, y dead behind: what is y's own is x's own from here on -/
def cMove (i j : Nat) : CS := fun ds S => if i < ds.length then (match ds[j]? with
  | some (some (.fz d)) => .nx ((ds.set j none).set i (some (.fz d))) S
  | some (some (.ow so)) => .nx ((ds.set j none).set i (some (.ow so))) S
  | _ => .bad) else .bad
theorem js_move {i j : Nat} {x y : Str} {pos' p' : Pos} {pos : Pos} (hN : X.N.Nodup) (hi : X.N[i]? = some x) (hx : Loc X.env.scope x) (hj : X.N[j]? = some y) (hs : swapsWith (.Name y p') (some (.Name x pos')) pos.line X.env = pure false := by rfl) (hf : X.fn x = true ∨ X.env.scope.names.lookup x = some .local := by first | exact .inl rfl | exact .inr rfl | assumption)
    (hv : Vis X.env.scope y := by first | exact Or.inl rfl | exact Or.inr (Or.inl rfl) | exact Or.inr (Or.inr rfl)) (hd : (y == ("__debug__" : Str)) = false := by decide) (hcd : (y == ("__classdict__" : Str)) = false := by decide) :
    JS T Wx X (.Assign [.Name x pos'] (.Name y p') pos) (cMove i j) := PS.imp (ps_set hN hi hx (pe_var hj hv hd hcd) hs hf) fun D σ H ⟨g0, H0, c, g, S, ds, fr, p⟩ => by
  unfold cMove at p
  split at p
  · rename_i hl
    have hl' : i < (ds.set j none).length := by rw [List.length_set]; exact hl
    split at p
    · rename_i d h
      obtain ⟨v, hv, rv⟩ := fr.env.fz j d h
      exact ⟨v, hv, p g H _ ((fr.kill1 j).set (w := .fz d) rv hl')⟩
    · rename_i so h
      obtain ⟨ad, hv, o⟩ := fr.env.ow j so h
      refine ⟨_, hv, p g H _ ((fr.kill1 j).set (w := .ow so) ⟨ad, rfl, o, fun k so' hk z => ?_⟩ hl')⟩
      by_cases e : j = k
      · subst e
        rw [List.getElem?_set] at hk
        split at hk
        · split at hk <;> cases hk
        · rename_i q
          exact q rfl
      · rw [List.getElem?_set_ne e] at hk
        exact fr.env.ne j k so so' ad e h hk hv z
    · exact p.elim
  · exact p.elim
theorem jss_kill (is : List Nat) {ss : List Stmt} {a : CS} (h : JSs T Wx X ss a) : JSs T Wx X ss (cKill is a) := PSs.imp h fun D σ H ⟨g0, H0, c, g, S, ds, fr, p⟩ => by
  refine ⟨g0, H0, c, g, S, ds, fr, ?_⟩
  unfold cKill at p
  cases q : a ds S with
  | nx ds' S' => rw [q] at p; exact fun g' H' σ' fr' => p g' H' σ' (fr'.kill is)
  | bk ds' S' => rw [q] at p; exact p
  | ct ds' S' => rw [q] at p; exact p
  | rt w S' => rw [q] at p; exact p
  | ex x ds' S' => rw [q] at p; exact p
  | bad => rw [q] at p; exact p
end

/-! ### code without slots -/
inductive Out (σ : Type) where | nx (s : σ) | rt (w : Wv)
def Wv.fzn : Wv → Wv
  | .ow so => .fz (Wv.ow so).frz
  | w => w
section
variable {α β σ τ : Type}
def pur (a : α) : M α := fun S => .ok a S
def bnd (m : M α) (k : α → M β) : M β := fun S => bindR (m S) k
def onO (k : σ → Store → R (Out τ)) : Out σ → Store → R (Out τ)
  | .nx s, S => k s S
  | .rt w, S => .ok (.rt w) S
def onT (k : σ → Store → R Wv) : Out σ → Store → R Wv
  | .nx s, S => k s S
  | .rt w, S => .ok w S
def bnO (m : M (Out σ)) (k : σ → M (Out τ)) : M (Out τ) := fun S => bindR (m S) (onO k)
def bnT (m : M (Out σ)) (k : σ → M Wv) : M Wv := fun S => bindR (m S) (onT k)
def ift (t : M Bool) (a b : M α) : M α := fun S => bindR (t S) fun c S => if c then a S else b S
def forD (body : D → σ → M σ) : List D → σ → M σ
  | [], s => pur s
  | d :: r, s => bnd (body d s) (forD body r)
def forO (body : D → σ → M (Out σ)) : List D → σ → M (Out σ)
  | [], s => pur (.nx s)
  | d :: r, s => bnO (body d s) (forO body r)
def whD (t : σ → M Bool) (body : σ → M σ) : Nat → σ → M σ
  | 0, _ => fun _ => .bad
  | n + 1, s => ift (t s) (bnd (body s) (whD t body n)) (pur s)
def whO (t : σ → M Bool) (body : σ → M (Out σ)) : Nat → σ → M (Out σ)
  | 0, _ => fun _ => .bad
  | n + 1, s => ift (t s) (bnO (body s) (whO t body n)) (pur (.nx s))
def rd (w : Wv) : M Wv := cBor 0 [some w]
def rdD (w : Wv) : M D := cVar 0 [some w]
def dUp (m : M D) : M Wv := fun S => bindR (m S) fun d S => .ok (.fz d) S
def dFz (m : M Wv) : M D := fun S => bindR (m S) fun w S => .ok w.frz S
def dCons (a : M D) (r : M (List D)) : M (List D) := fun S => bindR (a S) fun d S => bindR (r S) fun r S => .ok (d :: r) S
def dConsB (a : M Wv) (r : M (List Wv)) : M (List Wv) := fun S => bindR (a S) fun d S => bindR (r S) fun r S => .ok (d :: r) S
def dTup (m : M (List D)) : M D := fun S => bindR (m S) fun r S => if szOk r.length then .ok (.tup r) S else .bad
def dLst (m : M (List D)) : M Wv := fun S => bindR (m S) fun r S => if szOk r.length then .ok (.ow (.lst r)) S else .bad
def dBin (k : Wv → Wv → M α) (a b : M Wv) : M α := fun S => bindR (a S) fun w1 S => bindR (b S) fun w2 S => k w1 w2 S
def dUn (k : Wv → M α) (a : M Wv) : M α := fun S => bindR (a S) fun w S => k w S
def dBl (p : M Bool) : M Wv := fun S => bindR (p S) fun b S => .ok (.fz (.bl b)) S
def dChain (k k' : Wv → Wv → M Bool) (a b c : M Wv) : M Bool := fun S => bindR (a S) fun w1 S => bindR (b S) fun w2 S => bindR (k w1 w2 S) fun z S => if z then bindR (c S) fun w3 S => k' w2 w3 S else .ok false S
def dAnd (p q : M Bool) : M Bool := fun S => bindR (p S) fun b S => if b then q S else .ok false S
def dOr (p q : M Bool) : M Bool := fun S => bindR (p S) fun b S => if b then .ok true S else q S
def dNot (p : M Bool) : M Bool := fun S => bindR (p S) fun b S => .ok (!b) S
def dTst (a : M Wv) : M Bool := cTst (fun _ => a) []
def dAndV (a b : M Wv) : M Wv := cAndV (fun _ => a) (fun _ => b) []
def dOrV (a b : M Wv) : M Wv := cOrV (fun _ => a) (fun _ => b) []
def dNotV (a : M Wv) : M Wv := cNotV (fun _ => a) []
def dPart (a : M Wv) : M (Option Int) := cPart (fun _ => a) []
def dSl (a : M Wv) (l h : M (Option Int)) : M Wv := fun S => bindR (a S) fun w S => bindR (l S) fun lo S => bindR (h S) fun hi S => opSl w lo hi S
def dCall (m : Fn) (a : M (List D)) : M Wv := fun S => bindR (a S) fun args S => m args S
def dItems (a : M D) : M (List D) := cItems (fun _ => a) []
def dFld (f : Str) (cs : List Nat) (a : M Wv) : M D := fun S => bindR (a S) fun w S => fldO f cs S (insW S w)
def dMeth (m : Str) (disp : Nat → Option Fn) (o : M D) (fs : M (List D)) : M Wv := cMeth m disp (fun _ => o) (fun _ => fs) []
def dMk (c : Nat) (m : FnI) (fs : M (List D)) : M Wv := fun S => bindR (fs S) fun args S => mkO c (m args [] S)
def dIsO (tst : Nat → Option Bool) (a : M Wv) : M Wv := fun S => bindR (a S) fun w S => isO tst S (insW S w)
/-- the values of a comprehension -/
def lcStep (t : M Bool) (e : M D) : M (Option D) := fun S => bindR (noEx (t S)) fun b S => if b then bindR (noEx (e S)) (fun y S => .ok (some y) S) else .ok none S
def lcS (f : D → M (Option D)) : List D → List D → M Wv
  | [], acc => fun S => .ok (.ow (.lst acc)) S
  | d :: r, acc => fun S => bindR (f d S) fun o S => match o with
    | some y => if szOk (acc.length + 1) then lcS f r (acc ++ [y]) S else .bad
    | none => lcS f r acc S
/-- a slot's method call -/
def tyW (ty : String) (w : Wv) (S : Store) : Bool := match w with
  | .ow so => soTy so == some ty
  | .fz (.ref n) => match S[n]? with
    | some so => soTy so == some ty
    | none => false
  | _ => false
def mutW (m : Mu) (w : Wv) (args : List D) : M (Wv × D) := fun S => match w with
  | .ow so => match m so args with
    | some (so', d) => .ok (.ow so', d) S
    | none => .bad
  | .fz (.ref n) => match S[n]? with
    | some so => match m so args with
      | some (so', d) => .ok (.fz (.ref n), d) (S.set n so')
      | none => .bad
    | none => .bad
  | _ => .bad
def dMut (ty : String) (m : Mu) (w : Wv) (fs : M (List D)) : M Wv := fun S => if tyW ty w S then bindR (fs S) fun args S => bindR (mutW m w args S) fun p S => .ok p.1 S else .bad
def dAug (k : Wv → Wv → M Wv) (w : Wv) (a : M Wv) : M Wv := fun S => match w with
  | .xc => .bad
  | w => bindR (a S) fun w2 S => k w w2 S
def dMutR (ty : String) (m : Mu) (w : Wv) (fs : M (List D)) : M (Wv × D) := fun S => if tyW ty w S then bindR (fs S) fun args S => mutW m w args S else .bad
def dPut (w : Wv) (fv fk : M D) : M Wv := fun S => bindR (fv S) fun v S => if tyW "dict" w S then bindR (fk S) fun k S => bindR (mutW mPut w [k, v] S) fun p S => .ok p.1 S else .bad
def dMk0 (k : Nat) : M Wv := cMk0 k []
def dGet1 (a b : M Wv) : M Wv := cGet1 (fun _ => a) (fun _ => b) []
def dGet2 (a b : M Wv) (c : M D) : M Wv := cGet2 (fun _ => a) (fun _ => b) (fun _ => c) []
def rzN (c : Nat) (f : Str) (w : Wv) (S : Store) : R α := match w with
  | .fz (.int i) => .ex (c, some (f, i)) S
  | _ => .bad
def dRaiseN (c : Nat) (f : Str) (a : M Wv) : M α := fun S => bindR (a S) (rzN c f)
def gdB (ck : Store → Bool) (m : M σ) : M σ := fun S => match m S with
  | .ok s S2 => if ck S2 then .ok s S2 else .bad
  | r => r
def gdO (ck : Store → Bool) (m : M (Out σ)) : M (Out σ) := fun S => match m S with
  | .ok (.nx s) S2 => if ck S2 then .ok (.nx s) S2 else .bad
  | r => r
def dForS (m : M D) (k : (Store → Bool) → List D → M σ) : M σ := fun S => bindR (m S) fun d S => match refL d S with
  | some (n, xs) => k (sameL n xs) xs S
  | none => .bad
def dTmp (w : Wv) (low : Nat → σ → Bool) (k : Wv → M σ) : M (σ × Wv) := fun S => match w with
  | .ow so => match k (.fz (.ref S.length)) (S ++ [so]) with
    | .ok s S2 => match S2[S.length]? with
      | some so' => if eqSt S2 (S ++ [so']) && (lowO S.length so' && low S.length s) then .ok (s, .ow so') S else .bad
      | none => .bad
    | _ => .bad
  | _ => .bad
def dTmpO (w : Wv) (low : Nat → σ → Bool) (k : Wv → M (Out σ)) : M (Out (σ × Wv)) := fun S => match w with
  | .ow so => match k (.fz (.ref S.length)) (S ++ [so]) with
    | .ok (.nx s) S2 => match S2[S.length]? with
      | some so' => if eqSt S2 (S ++ [so']) && (lowO S.length so' && low S.length s) then .ok (.nx (s, .ow so')) S else .bad
      | none => .bad
    | .ok (.rt u) S2 => match S2[S.length]? with
      | some so' => if eqSt S2 (S ++ [so']) && lowW S.length u then .ok (.rt u) S else .bad
      | none => .bad
    | _ => .bad
  | _ => .bad
def dLend (w : Wv) (ok : α → Bool) (d : Wv → M α) : M α := fun S => match w with
  | .ow (.lst xs) => lendR ok (d (.fz (.lst xs)) S)
  | _ => .bad
/-- what is raised -/
def dRaise (c : Nat) : M α := fun S => .ex (c, none) S
def dTry (tst : Nat → Option Bool) (E : Env) (m : M α) (h : Xn → M α) : M α := fun S => match m S with
  | .ex x S => match tst x.1 with
    | some true => if noXc E then noEx (h x S) else .bad
    | some false => .ex x S
    | none => .bad
  | r => r
def dXis (tst : Nat → Option Bool) (y : Xn) : M Wv := cXis 0 tst y [some .xc]
def dXf (f : Str) (cs : List Nat) (y : Xn) : M Wv := cXf 0 f cs y [some .xc]
end
def un1 {β : Type} (w : Wv) (k : D → M β) : M β := fun S => match itemsOf S w with
  | some [x0] => k x0 S
  | _ => .bad
def un2 {β : Type} (w : Wv) (k : D → D → M β) : M β := fun S => match itemsOf S w with
  | some [x0, x1] => k x0 x1 S
  | _ => .bad
def un3 {β : Type} (w : Wv) (k : D → D → D → M β) : M β := fun S => match itemsOf S w with
  | some [x0, x1, x2] => k x0 x1 x2 S
  | _ => .bad
def un4 {β : Type} (w : Wv) (k : D → D → D → D → M β) : M β := fun S => match itemsOf S w with
  | some [x0, x1, x2, x3] => k x0 x1 x2 x3 S
  | _ => .bad
def un5 {β : Type} (w : Wv) (k : D → D → D → D → D → M β) : M β := fun S => match itemsOf S w with
  | some [x0, x1, x2, x3, x4] => k x0 x1 x2 x3 x4 S
  | _ => .bad
def un6 {β : Type} (w : Wv) (k : D → D → D → D → D → D → M β) : M β := fun S => match itemsOf S w with
  | some [x0, x1, x2, x3, x4, x5] => k x0 x1 x2 x3 x4 x5 S
  | _ => .bad
def un7 {β : Type} (w : Wv) (k : D → D → D → D → D → D → D → M β) : M β := fun S => match itemsOf S w with
  | some [x0, x1, x2, x3, x4, x5, x6] => k x0 x1 x2 x3 x4 x5 x6 S
  | _ => .bad
def un8 {β : Type} (w : Wv) (k : D → D → D → D → D → D → D → D → M β) : M β := fun S => match itemsOf S w with
  | some [x0, x1, x2, x3, x4, x5, x6, x7] => k x0 x1 x2 x3 x4 x5 x6 x7 S
  | _ => .bad

/-! ### how a mirror does it -/
def nrm : RS → RS
  | .ex x _ S => .ex x [] S
  | r => r
def inX {σ : Type} (E : σ → Env) : R σ → RS
  | .ok s S => .nx (E s) S
  | .ex x S => .ex x [] S
  | .bad => .bad
def inU {σ : Type} (E : σ → Env) : R (Out σ) → RS
  | .ok (.nx s) S => .nx (E s) S
  | .ok (.rt w) S => .rt w S
  | .ex x S => .ex x [] S
  | .bad => .bad
/-- from E, c does d and goes on with E'; BO: or tells; Tl: to the end of a def; BX: with what is raised out of E -/
def Bl {σ : Type} (c : CS) (E : Env) (E' : σ → Env) (d : M σ) : Prop := ∀ S, nrm (c E S) = inX E' (d S)
def BO {σ : Type} (c : CS) (E : Env) (E' : σ → Env) (d : M (Out σ)) : Prop := ∀ S, nrm (c E S) = inU E' (d S)
def Tl (c : CS) (E : Env) (d : M Wv) : Prop := ∀ S, outF (c E S) = d S
def BX {σ : Type} (c : CS) (E : Env) (E' : σ → Env) (d : M σ) : Prop := ∀ S, c E S = match d S with
  | .ok s S => .nx (E' s) S
  | .ex x S => .ex x E S
  | .bad => .bad
section
variable {α β σ τ ρ : Type} {a b : CS} {w : Wv} {E E0 : Env} {E1 : σ → Env} {E2 : τ → Env} {i : Nat} {t : Env → M Bool} {f f1 : CE}
theorem BX.bl {d : M σ} (h : BX a E E1 d) : Bl a E E1 d := fun S => by
  rw [h S]
  cases d S <;> rfl
theorem BX.im {d : M σ} {E1' : σ → Env} (h : BX a E E1 d) (e : ∀ s, E1 s = E1' s) : BX a E E1' d := fun S => by
  rw [h S]
  cases d S with
  | ok s S => exact congrArg (RS.nx · S) (e s)
  | ex x S => rfl
  | bad => rfl
theorem Bl.bo {d : M σ} (h : Bl a E E1 d) : BO a E E1 (bnd d fun s => pur (.nx s)) := fun S => by
  rw [h S]
  unfold bnd
  cases d S <;> rfl
theorem bl_seq {d : M σ} {k : σ → M τ} (h : Bl a E E1 d) (r : ∀ s, Bl b (E1 s) E2 (k s)) : Bl (cSeq a b) E E2 (bnd d k) := fun S => by
  have h := h S
  unfold cSeq bnd
  cases q : a E S with
  | nx ds S' =>
    rw [q] at h
    cases q2 : d S with
    | ok s S2 =>
      rw [q2] at h
      cases h
      exact r s _
    | ex x S2 => rw [q2] at h; cases h
    | bad => rw [q2] at h; cases h
  | ex x ds S' =>
    rw [q] at h
    cases q2 : d S with
    | ok s S2 => rw [q2] at h; cases h
    | ex x S2 => rw [q2] at h; exact h
    | bad => rw [q2] at h; cases h
  | bad =>
    rw [q] at h
    cases q2 : d S with
    | ok s S2 => rw [q2] at h; cases h
    | ex x S2 => rw [q2] at h; cases h
    | bad => rfl
  | rt w S' => rw [q] at h; cases q2 : d S <;> (rw [q2] at h; cases h)
  | bk w S' => rw [q] at h; cases q2 : d S <;> (rw [q2] at h; cases h)
  | ct w S' => rw [q] at h; cases q2 : d S <;> (rw [q2] at h; cases h)
theorem bo_seq {d : M (Out σ)} {k : σ → M (Out τ)} (h : BO a E E1 d) (r : ∀ s, BO b (E1 s) E2 (k s)) : BO (cSeq a b) E E2 (bnO d k) := fun S => by
  have h := h S
  unfold cSeq bnO
  cases q : a E S with
  | nx ds S' =>
    rw [q] at h
    cases q2 : d S with
    | ok s S2 =>
      rw [q2] at h
      cases s with
      | nx s =>
        cases h
        exact r s _
      | rt w => cases h
    | ex x S2 => rw [q2] at h; cases h
    | bad => rw [q2] at h; cases h
  | ex x ds S' =>
    rw [q] at h
    cases q2 : d S with
    | ok s S2 => rw [q2] at h; cases s <;> cases h
    | ex x S2 => rw [q2] at h; exact h
    | bad => rw [q2] at h; cases h
  | bad =>
    rw [q] at h
    cases q2 : d S with
    | ok s S2 => rw [q2] at h; cases s <;> cases h
    | ex x S2 => rw [q2] at h; cases h
    | bad => rfl
  | rt w S' =>
    rw [q] at h
    cases q2 : d S with
    | ok s S2 =>
      rw [q2] at h
      cases s with
      | nx s => cases h
      | rt w => exact h
    | ex x S2 => rw [q2] at h; cases h
    | bad => rw [q2] at h; cases h
  | bk w S' => rw [q] at h; cases q2 : d S with
    | ok s S2 => rw [q2] at h; cases s <;> cases h
    | ex x S2 => rw [q2] at h; cases h
    | bad => rw [q2] at h; cases h
  | ct w S' => rw [q] at h; cases q2 : d S with
    | ok s S2 => rw [q2] at h; cases s <;> cases h
    | ex x S2 => rw [q2] at h; cases h
    | bad => rw [q2] at h; cases h
theorem tl_seq {d : M (Out σ)} {k : σ → M Wv} (h : BO a E E1 d) (r : ∀ s, Tl b (E1 s) (k s)) : Tl (cSeq a b) E (bnT d k) := fun S => by
  have h := h S
  unfold cSeq bnT
  cases q : a E S with
  | nx ds S' =>
    rw [q] at h
    cases q2 : d S with
    | ok s S2 =>
      rw [q2] at h
      cases s with
      | nx s =>
        cases h
        exact r s _
      | rt w => cases h
    | ex x S2 => rw [q2] at h; cases h
    | bad => rw [q2] at h; cases h
  | ex x ds S' =>
    rw [q] at h
    cases q2 : d S with
    | ok s S2 => rw [q2] at h; cases s <;> cases h
    | ex x S2 => rw [q2] at h; cases h; rfl
    | bad => rw [q2] at h; cases h
  | bad =>
    rw [q] at h
    cases q2 : d S with
    | ok s S2 => rw [q2] at h; cases s <;> cases h
    | ex x S2 => rw [q2] at h; cases h
    | bad => rfl
  | rt w S' =>
    rw [q] at h
    cases q2 : d S with
    | ok s S2 =>
      rw [q2] at h
      cases s with
      | nx s => cases h
      | rt w => cases h; rfl
    | ex x S2 => rw [q2] at h; cases h
    | bad => rw [q2] at h; cases h
  | bk w S' => rw [q] at h; cases q2 : d S with
    | ok s S2 => rw [q2] at h; cases s <;> cases h
    | ex x S2 => rw [q2] at h; cases h
    | bad => rw [q2] at h; cases h
  | ct w S' => rw [q] at h; cases q2 : d S with
    | ok s S2 => rw [q2] at h; cases s <;> cases h
    | ex x S2 => rw [q2] at h; cases h
    | bad => rw [q2] at h; cases h
theorem onO_pur {d : M σ} {k : σ → M (Out τ)} (S : Store) : bnO (bnd d fun s => pur (.nx s)) k S = bnd d k S := by
  unfold bnO bnd
  cases d S <;> rfl
theorem onT_pur {d : M σ} {k : σ → M Wv} (S : Store) : bnT (bnd d fun s => pur (.nx s)) k S = bnd d k S := by
  unfold bnT bnd
  cases d S <;> rfl
theorem bo_seq1 {d : M σ} {k : σ → M (Out τ)} (h : Bl a E E1 d) (r : ∀ s, BO b (E1 s) E2 (k s)) : BO (cSeq a b) E E2 (bnd d k) := fun S => by
  rw [← onO_pur S]
  exact bo_seq h.bo r S
theorem tl_seq1 {d : M σ} {k : σ → M Wv} (h : Bl a E E1 d) (r : ∀ s, Tl b (E1 s) (k s)) : Tl (cSeq a b) E (bnd d k) := fun S => by
  rw [← onT_pur S]
  exact tl_seq h.bo r S
/-- a block's last statement -/
theorem bl_last {d : M σ} {k : σ → τ} (h : Bl a E E1 d) (e : ∀ s, E1 s = E2 (k s)) : Bl a E E2 (bnd d fun s => pur (k s)) := fun S => by
  rw [h S]
  unfold bnd
  cases d S with
  | ok s S => exact congrArg (RS.nx · S) (e s)
  | ex x S => rfl
  | bad => rfl
theorem bo_last1 {d : M σ} {k : σ → τ} (h : Bl a E E1 d) (e : ∀ s, E1 s = E2 (k s)) : BO a E E2 (bnd d fun s => pur (.nx (k s))) := fun S => by
  rw [h S]
  unfold bnd
  cases d S with
  | ok s S => exact congrArg (RS.nx · S) (e s)
  | ex x S => rfl
  | bad => rfl
theorem bo_last {d : M (Out σ)} {k : σ → τ} (h : BO a E E1 d) (e : ∀ s, E1 s = E2 (k s)) : BO a E E2 (bnO d fun s => pur (.nx (k s))) := fun S => by
  rw [h S]
  unfold bnO
  cases d S with
  | ok s S =>
    cases s with
    | nx s => exact congrArg (RS.nx · S) (e s)
    | rt w => rfl
  | ex x S => rfl
  | bad => rfl
theorem tl_last {d : M (Out σ)} (h : BO a E E1 d) : Tl a E (bnT d fun _ => pur (.fz .non)) := fun S => by
  have h := h S
  unfold bnT
  cases q : a E S with
  | nx ds S' =>
    rw [q] at h
    cases q2 : d S with
    | ok s S2 =>
      rw [q2] at h
      cases s with
      | nx s => cases h; rfl
      | rt w => cases h
    | ex x S2 => rw [q2] at h; cases h
    | bad => rw [q2] at h; cases h
  | ex x ds S' =>
    rw [q] at h
    cases q2 : d S with
    | ok s S2 => rw [q2] at h; cases s <;> cases h
    | ex x S2 => rw [q2] at h; cases h; rfl
    | bad => rw [q2] at h; cases h
  | bad =>
    rw [q] at h
    cases q2 : d S with
    | ok s S2 => rw [q2] at h; cases s <;> cases h
    | ex x S2 => rw [q2] at h; cases h
    | bad => rfl
  | rt w S' =>
    rw [q] at h
    cases q2 : d S with
    | ok s S2 =>
      rw [q2] at h
      cases s with
      | nx s => cases h
      | rt w => cases h; rfl
    | ex x S2 => rw [q2] at h; cases h
    | bad => rw [q2] at h; cases h
  | bk w S' => rw [q] at h; cases q2 : d S with
    | ok s S2 => rw [q2] at h; cases s <;> cases h
    | ex x S2 => rw [q2] at h; cases h
    | bad => rw [q2] at h; cases h
  | ct w S' => rw [q] at h; cases q2 : d S with
    | ok s S2 => rw [q2] at h; cases s <;> cases h
    | ex x S2 => rw [q2] at h; cases h
    | bad => rw [q2] at h; cases h
theorem tl_last1 {d : M σ} (h : Bl a E E1 d) : Tl a E (bnd d fun _ => pur (.fz .non)) := fun S => by
  rw [← onT_pur S]
  exact tl_last h.bo S
theorem bl_skip {s : τ} (e : E = E2 s) : Bl cSkip E E2 (pur s) := fun S => congrArg (RS.nx · S) e
theorem bo_skip {s : τ} (e : E = E2 s) : BO cSkip E E2 (pur (.nx s)) := fun S => congrArg (RS.nx · S) e
/-- leaves -/
theorem bx_set {d : M Wv} {E1 : Wv → Env} (hi : i < E.length) (hf : f E = d) (e : ∀ w, E.set i (some w) = E1 w) : BX (cSet i f) E E1 d := fun S => by
  show liftR (f E S) E (fun w S => setE i w E S) = _
  rw [hf]
  cases d S with
  | ok w S =>
    show setE i w E S = _
    unfold setE
    rw [if_pos hi, e]
  | ex x S => rfl
  | bad => rfl
theorem bx_move {j : Nat} {w : Wv} {E1 : Wv → Env} (hi : i < E.length) (hw : E[j]? = some (some w)) (e : ∀ w, (E.set j none).set i (some w) = E1 w) : BX (cMove i j) E E1 (rd w) := fun S => by
  show (if i < E.length then (match E[j]? with
    | some (some (.fz d)) => RS.nx ((E.set j none).set i (some (.fz d))) S
    | some (some (.ow so)) => RS.nx ((E.set j none).set i (some (.ow so))) S
    | _ => .bad) else .bad) = _
  rw [if_pos hi, hw]
  cases w with
  | fz d => exact congrArg (fun z => RS.nx z S) (e (.fz d))
  | ow so => exact congrArg (fun z => RS.nx z S) (e (.ow so))
  | xc => rfl
theorem bx_drop {d : M Wv} (hf : f E = d) : BX (cDrop f) E (fun _ : Unit => E) (bnd d fun _ => pur ()) := fun S => by
  show liftR (f E S) E (fun w S => .nx E S) = _
  rw [hf]
  unfold bnd
  cases d S <;> rfl
theorem bl_set {d : M Wv} {E1 : Wv → Env} (hi : i < E.length) (hf : f E = d) (e : ∀ w, E.set i (some w) = E1 w) : Bl (cSet i f) E E1 d := (bx_set hi hf e).bl
theorem bl_move {j : Nat} {w : Wv} {E1 : Wv → Env} (hi : i < E.length) (hw : E[j]? = some (some w)) (e : ∀ w, (E.set j none).set i (some w) = E1 w) : Bl (cMove i j) E E1 (rd w) := (bx_move hi hw e).bl
theorem bl_drop {d : M Wv} (hf : f E = d) : Bl (cDrop f) E (fun _ : Unit => E) (bnd d fun _ => pur ()) := (bx_drop hf).bl
theorem set_self {l : List α} {i : Nat} {x : α} (h : l[i]? = some x) : l.set i x = l := by
  apply List.ext_getElem?
  intro j
  rw [List.getElem?_set]
  split
  · rename_i e
    subst e
    split
    · exact h.symm
    · rename_i hn
      rw [List.getElem?_eq_none (by omega)] at h
      cases h
  · rfl
theorem bl_aug {d : M Wv} {k : Wv → Wv → M Wv} {w : Wv} {E1 : Wv → Env} (hw : E[i]? = some (some w)) (hf : f E = d) (e : ∀ w, E.set i (some w) = E1 w) : Bl (cAug i k f) E E1 (dAug k w d) := fun S => by
  have hi : i < E.length := (List.getElem?_eq_some_iff.mp hw).1
  rw [s_aug, hw, hf]
  cases w with
  | xc => rfl
  | fz x =>
    show nrm (liftR (bindR (d S) fun w2 S => k (.fz x) w2 S) E fun w S => setE i w E S) = inX E1 (bindR (d S) fun w2 S => k (.fz x) w2 S)
    cases bindR (d S) fun w2 S => k (.fz x) w2 S with
    | ok w S => show nrm (setE i w E S) = _; unfold setE; rw [if_pos hi, e]; rfl
    | ex x S => rfl
    | bad => rfl
  | ow x =>
    show nrm (liftR (bindR (d S) fun w2 S => k (.ow x) w2 S) E fun w S => setE i w E S) = inX E1 (bindR (d S) fun w2 S => k (.ow x) w2 S)
    cases bindR (d S) fun w2 S => k (.ow x) w2 S with
    | ok w S => show nrm (setE i w E S) = _; unfold setE; rw [if_pos hi, e]; rfl
    | ex x S => rfl
    | bad => rfl
theorem bl_mut {d : M (List D)} {ty : String} {m : Mu} {w : Wv} {fs : Env → M (List D)} {E1 : Wv → Env} (hw : E[i]? = some (some w)) (hf : fs E = d) (e : ∀ w, E.set i (some w) = E1 w) : Bl (cMut i ty m fs) E E1 (dMut ty m w d) := fun S => by
  have hi : i < E.length := (List.getElem?_eq_some_iff.mp hw).1
  have ty' : slTy i ty E S = tyW ty w S := by
    unfold slTy tyW
    rw [hw]
    cases w with
    | fz x => cases x <;> rfl
    | ow so => rfl
    | xc => rfl
  unfold cMut dMut
  rw [ty', hf]
  cases tyW ty w S with
  | false => rfl
  | true =>
    show nrm (liftR (d S) E fun args S => mutE i m args E S fun _ ds S => .nx ds S) = inX E1 (bindR (d S) fun args S => bindR (mutW m w args S) fun p S => .ok p.1 S)
    cases d S with
    | ex x S => rfl
    | bad => rfl
    | ok args S =>
      show nrm (mutE i m args E S fun _ ds S => .nx ds S) = inX E1 (bindR (mutW m w args S) fun p S => .ok p.1 S)
      unfold mutE mutW
      rw [hw]
      cases w with
      | xc => rfl
      | ow so =>
        dsimp only
        cases m so args with
        | none => rfl
        | some p => exact congrArg (RS.nx · S) (e _)
      | fz x =>
        cases x with
        | ref n =>
          dsimp only
          cases S[n]? with
          | none => rfl
          | some so =>
            dsimp only
            cases m so args with
            | none => rfl
            | some p =>
              refine congrArg (RS.nx · _) ?_
              rw [← e, set_self hw]
        | _ => rfl
theorem ty_eq (hw : E[i]? = some (some w)) (ty : String) (S : Store) : slTy i ty E S = tyW ty w S := by
  unfold slTy tyW
  rw [hw]
  cases w with
  | fz x => cases x <;> rfl
  | ow so => rfl
  | xc => rfl
theorem mut_eq (hw : E[i]? = some (some w)) (m : Mu) (args : List D) (k : D → Env → Store → RS) (S : Store) : mutE i m args E S k = match mutW m w args S with
  | .ok p S => k p.2 (E.set i (some p.1)) S
  | _ => .bad := by
  unfold mutE mutW
  rw [hw]
  cases w with
  | xc => rfl
  | ow so =>
    dsimp only
    cases m so args with
    | none => rfl
    | some p => rfl
  | fz x =>
    cases x with
    | ref n =>
      dsimp only
      cases S[n]? with
      | none => rfl
      | some so =>
        dsimp only
        cases m so args with
        | none => rfl
        | some p =>
          show k p.2 E _ = k p.2 (E.set i _) _
          rw [set_self hw]
    | _ => rfl
theorem mutW_nex {m : Mu} {w : Wv} {args : List D} {S : Store} {x : Xn} {S' : Store} : mutW m w args S ≠ .ex x S' := by
  unfold mutW
  cases w with
  | xc => exact fun h => nomatch h
  | ow so =>
    dsimp only
    cases m so args with
    | none => exact fun h => nomatch h
    | some p => exact fun h => nomatch h
  | fz x =>
    cases x with
    | ref n =>
      dsimp only
      cases S[n]? with
      | none => exact fun h => nomatch h
      | some so =>
        dsimp only
        cases m so args with
        | none => exact fun h => nomatch h
        | some p => exact fun h => nomatch h
    | _ => exact fun h => nomatch h
theorem bl_mutA {j : Nat} {d : M (List D)} {ty : String} {m : Mu} {w : Wv} {fs : Env → M (List D)} {E1 : Wv × D → Env} (hw : E[i]? = some (some w)) (hj : j < E.length) (hf : fs E = d) (e : ∀ w d, (E.set i (some w)).set j (some (.fz d)) = E1 (w, d)) : Bl (cMutA (.nm j) i ty m fs) E E1 (dMutR ty m w d) := fun S => by
  unfold cMutA dMutR
  rw [ty_eq hw, hf]
  cases tyW ty w S with
  | false => rfl
  | true =>
    show nrm (liftR (d S) E fun args S => mutE i m args E S (asgK (.nm j))) = inX E1 (bindR (d S) fun args S => mutW m w args S)
    cases d S with
    | ex x S => rfl
    | bad => rfl
    | ok args S =>
      show nrm (mutE i m args E S (asgK (.nm j))) = inX E1 (mutW m w args S)
      rw [mut_eq hw]
      cases q : mutW m w args S with
      | ex x S => exact absurd q mutW_nex
      | bad => rfl
      | ok p S =>
        show nrm (asgK (.nm j) p.2 (E.set i (some p.1)) S) = .nx (E1 p) S
        unfold asgK
        rw [s_asgN, if_pos (by simpa using hj), e]
        rfl
theorem bl_put {dv dk : M D} {w : Wv} {fv fk : Env → M D} {E1 : Wv → Env} (hw : E[i]? = some (some w)) (hv : fv E = dv) (hk : fk E = dk) (e : ∀ w, E.set i (some w) = E1 w) : Bl (cPut i fv fk) E E1 (dPut w dv dk) := fun S => by
  unfold cPut dPut
  rw [hv, hk]
  cases dv S with
  | ex x S => rfl
  | bad => rfl
  | ok v S =>
    show nrm (if slTy i "dict" E S = true then liftR (dk S) E (fun k S => mutE i mPut [k, v] E S fun _ ds S => .nx ds S) else .bad) = inX E1 (if tyW "dict" w S = true then bindR (dk S) (fun k S => bindR (mutW mPut w [k, v] S) fun p S => .ok p.1 S) else .bad)
    rw [ty_eq hw]
    cases tyW "dict" w S with
    | false => rfl
    | true =>
      show nrm (liftR (dk S) E (fun k S => mutE i mPut [k, v] E S fun _ ds S => .nx ds S)) = inX E1 (bindR (dk S) (fun k S => bindR (mutW mPut w [k, v] S) fun p S => .ok p.1 S))
      cases dk S with
      | ex x S => rfl
      | bad => rfl
      | ok k S =>
        show nrm (mutE i mPut [k, v] E S fun _ ds S => .nx ds S) = inX E1 (bindR (mutW mPut w [k, v] S) fun p S => .ok p.1 S)
        rw [mut_eq hw]
        cases q : mutW mPut w [k, v] S with
        | ex x S => exact absurd q mutW_nex
        | bad => rfl
        | ok p S => exact congrArg (RS.nx · S) (e _)
theorem frz_set {w : Wv} (hw : E[i]? = some (some w)) : frzE i E = E.set i (some w.fzn) := by
  rw [s_frzE, hw]
  cases w with
  | fz d => exact (set_self hw).symm
  | xc => exact (set_self hw).symm
  | ow so => rfl
theorem bl_frz {d : M σ} (w : Wv) (hw : E[i]? = some (some w)) (e : E.set i (some w.fzn) = E0) (h : Bl a E0 E1 d) : Bl (cFrz i a) E E1 d := fun S => by
  show nrm (a (frzE i E) S) = _
  rw [frz_set hw, e]
  exact h S
theorem bo_frz {d : M (Out σ)} (w : Wv) (hw : E[i]? = some (some w)) (e : E.set i (some w.fzn) = E0) (h : BO a E0 E1 d) : BO (cFrz i a) E E1 d := fun S => by
  show nrm (a (frzE i E) S) = _
  rw [frz_set hw, e]
  exact h S
theorem tl_frz {d : M Wv} (w : Wv) (hw : E[i]? = some (some w)) (e : E.set i (some w.fzn) = E0) (h : Tl a E0 d) : Tl (cFrz i a) E d := fun S => by
  show outF (a (frzE i E) S) = _
  rw [frz_set hw, e]
  exact h S
theorem bx_frz {d : M σ} (w : Wv) (hw : E[i]? = some (some w)) (e : E.set i (some w.fzn) = E0) (h : Bl a E0 E1 d) : Bl (cFrz i a) E E1 d := bl_frz w hw e h
theorem bl_kill {is : List Nat} {d : M σ} {E3 : σ → Env} (h : Bl a E E1 d) (e : ∀ s, killE is (E1 s) = E3 s) : Bl (cKill is a) E E3 d := fun S => by
  have h := h S
  unfold cKill
  cases q : a E S with
  | nx ds S' =>
    rw [q] at h
    cases q2 : d S with
    | ok s S2 => rw [q2] at h; cases h; exact congrArg (RS.nx · _) (e s)
    | ex x S2 => rw [q2] at h; cases h
    | bad => rw [q2] at h; cases h
  | ex x ds S' => rw [q] at h; cases q2 : d S with
    | ok s S2 => rw [q2] at h; cases h
    | ex x S2 => rw [q2] at h; exact h
    | bad => rw [q2] at h; cases h
  | bad => rw [q] at h; cases q2 : d S with
    | ok s S2 => rw [q2] at h; cases h
    | ex x S2 => rw [q2] at h; cases h
    | bad => rfl
  | rt w S' => rw [q] at h; cases q2 : d S <;> (rw [q2] at h; cases h)
  | bk w S' => rw [q] at h; cases q2 : d S <;> (rw [q2] at h; cases h)
  | ct w S' => rw [q] at h; cases q2 : d S <;> (rw [q2] at h; cases h)
theorem bo_kill {is : List Nat} {d : M (Out σ)} {E3 : σ → Env} (h : BO a E E1 d) (e : ∀ s, killE is (E1 s) = E3 s) : BO (cKill is a) E E3 d := fun S => by
  have h := h S
  unfold cKill
  cases q : a E S with
  | nx ds S' =>
    rw [q] at h
    cases q2 : d S with
    | ok s S2 =>
      rw [q2] at h
      cases s with
      | nx s => cases h; exact congrArg (RS.nx · _) (e s)
      | rt w => cases h
    | ex x S2 => rw [q2] at h; cases h
    | bad => rw [q2] at h; cases h
  | ex x ds S' => rw [q] at h; cases q2 : d S with
    | ok s S2 => rw [q2] at h; cases s <;> cases h
    | ex x S2 => rw [q2] at h; exact h
    | bad => rw [q2] at h; cases h
  | bad => rw [q] at h; cases q2 : d S with
    | ok s S2 => rw [q2] at h; cases s <;> cases h
    | ex x S2 => rw [q2] at h; cases h
    | bad => rfl
  | rt w S' => rw [q] at h; cases q2 : d S with
    | ok s S2 =>
      rw [q2] at h
      cases s with
      | nx s => cases h
      | rt w => exact h
    | ex x S2 => rw [q2] at h; cases h
    | bad => rw [q2] at h; cases h
  | bk w S' => rw [q] at h; cases q2 : d S with
    | ok s S2 => rw [q2] at h; cases s <;> cases h
    | ex x S2 => rw [q2] at h; cases h
    | bad => rw [q2] at h; cases h
  | ct w S' => rw [q] at h; cases q2 : d S with
    | ok s S2 => rw [q2] at h; cases s <;> cases h
    | ex x S2 => rw [q2] at h; cases h
    | bad => rw [q2] at h; cases h
theorem tl_kill {is : List Nat} {d : M Wv} (h : Tl a E d) : Tl (cKill is a) E d := fun S => by
  rw [← h S]
  unfold cKill
  cases a E S <;> rfl
theorem tl_ret {d : M Wv} (hf : f E = d) : Tl (cRet f) E d := fun S => by
  show outF (liftR (f E S) E fun w S => .rt w S) = _
  rw [hf]
  cases d S <;> rfl
theorem bo_ret {d : M Wv} (hf : f E = d) : BO (cRet f) E E1 (bnd d fun w => pur (.rt w)) := fun S => by
  show nrm (liftR (f E S) E fun w S => .rt w S) = _
  rw [hf]
  unfold bnd
  cases d S <;> rfl
theorem tl_retV {w : Wv} (hw : E[i]? = some (some w)) : Tl (cRetV i) E (rd w) := fun S => by
  unfold cRetV
  rw [hw]
  cases w <;> rfl
theorem bo_retV {w : Wv} (hw : E[i]? = some (some w)) : BO (cRetV i) E E1 (bnd (rd w) fun w => pur (.rt w)) := fun S => by
  unfold cRetV
  rw [hw]
  cases w <;> rfl
theorem tl_retN : Tl cRetN E (pur (.fz .non)) := fun _ => rfl
theorem bo_retN : BO cRetN E E1 (pur (.rt (.fz .non))) := fun _ => rfl
theorem tl_raise {k : Nat} : Tl (cRaise k) E (dRaise k) := fun _ => rfl
theorem bo_raise {k : Nat} : BO (cRaise k) E E1 (dRaise k) := fun _ => rfl
theorem bl_raise {k : Nat} : Bl (cRaise k) E E1 (dRaise k) := fun _ => rfl
theorem rzn_eq {k : Nat} {f : Str} {fe : CE} {S : Store} : cRaiseN k f fe E S = match fe E S with
  | .ok w S => (match w with
    | .fz (.int i) => .ex (k, some (f, i)) E S
    | _ => .bad)
  | .ex x S => .ex x E S
  | .bad => .bad := by
  unfold cRaiseN
  cases fe E S <;> rfl
theorem tl_raiseN {k : Nat} {f : Str} {fe : CE} {d : M Wv} (hf : fe E = d) : Tl (cRaiseN k f fe) E (dRaiseN k f d) := fun S => by
  rw [rzn_eq, hf]
  unfold dRaiseN
  cases d S with
  | ex x S => rfl
  | bad => rfl
  | ok w S =>
    show outF (match w with
      | .fz (.int i) => .ex (k, some (f, i)) E S
      | _ => .bad) = rzN k f w S
    unfold rzN
    split <;> rfl
theorem bl_raiseN {k : Nat} {f : Str} {fe : CE} {d : M Wv} (hf : fe E = d) : Bl (cRaiseN k f fe) E E1 (dRaiseN k f d) := fun S => by
  rw [rzn_eq, hf]
  unfold dRaiseN
  cases d S with
  | ex x S => rfl
  | bad => rfl
  | ok w S =>
    show nrm (match w with
      | .fz (.int i) => .ex (k, some (f, i)) E S
      | _ => .bad) = inX E1 (rzN k f w S)
    unfold rzN
    split <;> rfl
theorem bo_raiseN {k : Nat} {f : Str} {fe : CE} {d : M Wv} (hf : fe E = d) : BO (cRaiseN k f fe) E E1 (dRaiseN k f d) := fun S => by
  rw [rzn_eq, hf]
  unfold dRaiseN
  cases d S with
  | ex x S => rfl
  | bad => rfl
  | ok w S =>
    show nrm (match w with
      | .fz (.int i) => .ex (k, some (f, i)) E S
      | _ => .bad) = inU E1 (rzN k f w S)
    unfold rzN
    split <;> rfl
theorem tl_skip : Tl cSkip E (pur (.fz .non)) := fun _ => rfl
/-- if -/
theorem bl_if {c : M Bool} {d d' : M σ} (ht : t E = c) (ha : Bl a E E1 d) (hb : Bl b E E1 d') : Bl (cIfS t a b) E E1 (ift c d d') := fun S => by
  show nrm (liftR (t E S) E fun k S => if k then a E S else b E S) = _
  rw [ht]
  unfold ift
  cases c S with
  | ok k S =>
    cases k with
    | true => exact ha S
    | false => exact hb S
  | ex x S => rfl
  | bad => rfl
theorem bo_if {c : M Bool} {d d' : M (Out σ)} (ht : t E = c) (ha : BO a E E1 d) (hb : BO b E E1 d') : BO (cIfS t a b) E E1 (ift c d d') := fun S => by
  show nrm (liftR (t E S) E fun k S => if k then a E S else b E S) = _
  rw [ht]
  unfold ift
  cases c S with
  | ok k S =>
    cases k with
    | true => exact ha S
    | false => exact hb S
  | ex x S => rfl
  | bad => rfl
theorem tl_if {c : M Bool} {d d' : M Wv} (ht : t E = c) (ha : Tl a E d) (hb : Tl b E d') : Tl (cIfS t a b) E (ift c d d') := fun S => by
  show outF (liftR (t E S) E fun k S => if k then a E S else b E S) = _
  rw [ht]
  unfold ift
  cases c S with
  | ok k S =>
    cases k with
    | true => exact ha S
    | false => exact hb S
  | ex x S => rfl
  | bad => rfl
/-- targets -/
def StepB (t : Tgt) (body : CS) (Es : σ → Env) (bd : D → σ → M σ) : Prop := ∀ d s S, (match asgT t (.fz d) S (Es s) with
  | none => RS.bad
  | some ds => nrm (body ds S)) = inX Es (bd d s S)
def StepO (t : Tgt) (body : CS) (Es : σ → Env) (bd : D → σ → M (Out σ)) : Prop := ∀ d s S, (match asgT t (.fz d) S (Es s) with
  | none => RS.bad
  | some ds => nrm (body ds S)) = inU Es (bd d s S)
theorem forB {t : Tgt} {Es : σ → Env} {bd : D → σ → M σ} (h : StepB t a Es bd) : ∀ (items : List D) (s : σ) (S : Store), nrm (forRun t a items (Es s) S) = inX Es (forD bd items s S)
  | [], s, S => rfl
  | d :: r, s, S => by
    have h' := h d s S
    unfold forRun forD bnd
    cases q : asgT t (.fz d) S (Es s) with
    | none =>
      rw [q] at h'
      cases q2 : bd d s S with
      | ok s' S2 => rw [q2] at h'; cases h'
      | ex x S2 => rw [q2] at h'; cases h'
      | bad => rfl
    | some ds1 =>
      rw [q] at h'
      dsimp only at h' ⊢
      cases q3 : a ds1 S with
      | nx ds2 S2 =>
        rw [q3] at h'
        cases q2 : bd d s S with
        | ok s' S3 =>
          rw [q2] at h'
          cases h'
          exact forB h r s' _
        | ex x S3 => rw [q2] at h'; cases h'
        | bad => rw [q2] at h'; cases h'
      | ex x ds2 S2 => rw [q3] at h'; cases q2 : bd d s S with
        | ok s S2 => rw [q2] at h'; cases h'
        | ex x S2 => rw [q2] at h'; exact h'
        | bad => rw [q2] at h'; cases h'
      | bad => rw [q3] at h'; cases q2 : bd d s S with
        | ok s S2 => rw [q2] at h'; cases h'
        | ex x S2 => rw [q2] at h'; cases h'
        | bad => rfl
      | rt w S' => rw [q3] at h'; cases q2 : bd d s S <;> (rw [q2] at h'; cases h')
      | bk w S' => rw [q3] at h'; cases q2 : bd d s S <;> (rw [q2] at h'; cases h')
      | ct w S' => rw [q3] at h'; cases q2 : bd d s S <;> (rw [q2] at h'; cases h')
theorem forBO {t : Tgt} {Es : σ → Env} {bd : D → σ → M (Out σ)} (h : StepO t a Es bd) : ∀ (items : List D) (s : σ) (S : Store), nrm (forRun t a items (Es s) S) = inU Es (forO bd items s S)
  | [], s, S => rfl
  | d :: r, s, S => by
    have h' := h d s S
    unfold forRun forO bnO
    cases q : asgT t (.fz d) S (Es s) with
    | none =>
      rw [q] at h'
      cases q2 : bd d s S with
      | ok s' S2 => rw [q2] at h'; cases s' <;> cases h'
      | ex x S2 => rw [q2] at h'; cases h'
      | bad => rfl
    | some ds1 =>
      rw [q] at h'
      dsimp only at h' ⊢
      cases q3 : a ds1 S with
      | nx ds2 S2 =>
        rw [q3] at h'
        cases q2 : bd d s S with
        | ok s' S3 =>
          rw [q2] at h'
          cases s' with
          | nx s' =>
            cases h'
            exact forBO h r s' _
          | rt w => cases h'
        | ex x S3 => rw [q2] at h'; cases h'
        | bad => rw [q2] at h'; cases h'
      | ex x ds2 S2 => rw [q3] at h'; cases q2 : bd d s S with
        | ok s S2 => rw [q2] at h'; cases s <;> cases h'
        | ex x S2 => rw [q2] at h'; exact h'
        | bad => rw [q2] at h'; cases h'
      | bad => rw [q3] at h'; cases q2 : bd d s S with
        | ok s S2 => rw [q2] at h'; cases s <;> cases h'
        | ex x S2 => rw [q2] at h'; cases h'
        | bad => rfl
      | rt w S' => rw [q3] at h'; cases q2 : bd d s S with
        | ok s S2 =>
          rw [q2] at h'
          cases s with
          | nx s => cases h'
          | rt w => exact h'
        | ex x S2 => rw [q2] at h'; cases h'
        | bad => rw [q2] at h'; cases h'
      | bk w S' => rw [q3] at h'; cases q2 : bd d s S with
        | ok s S2 => rw [q2] at h'; cases s <;> cases h'
        | ex x S2 => rw [q2] at h'; cases h'
        | bad => rw [q2] at h'; cases h'
      | ct w S' => rw [q3] at h'; cases q2 : bd d s S with
        | ok s S2 => rw [q2] at h'; cases s <;> cases h'
        | ex x S2 => rw [q2] at h'; cases h'
        | bad => rw [q2] at h'; cases h'
theorem bl_for {t : Tgt} {Es : σ → Env} {bd : D → σ → M σ} {fi : Env → M (List D)} {di : M (List D)} (s0 : σ) (hE : E = Es s0) (hi : fi E = di) (h : StepB t a Es bd) : Bl (cFor fi t a) E Es (bnd di fun items => forD bd items s0) := fun S => by
  show nrm (liftR (fi E S) E fun items S => forRun t a items E S) = _
  rw [hi]
  unfold bnd
  cases di S with
  | ok items S =>
    show nrm (forRun t a items E S) = _
    rw [hE]
    exact forB h items s0 S
  | ex x S => rfl
  | bad => rfl
theorem bo_for {t : Tgt} {Es : σ → Env} {bd : D → σ → M (Out σ)} {fi : Env → M (List D)} {di : M (List D)} (s0 : σ) (hE : E = Es s0) (hi : fi E = di) (h : StepO t a Es bd) : BO (cFor fi t a) E Es (bnd di fun items => forO bd items s0) := fun S => by
  show nrm (liftR (fi E S) E fun items S => forRun t a items E S) = _
  rw [hi]
  unfold bnd
  cases di S with
  | ok items S =>
    show nrm (forRun t a items E S) = _
    rw [hE]
    exact forBO h items s0 S
  | ex x S => rfl
  | bad => rfl
theorem StepB.grd {t : Tgt} {Es : σ → Env} {bd : D → σ → M σ} (ck : Store → Bool) (h : StepB t a Es bd) : StepB t (Mir.grd ck a) Es (fun d s => gdB ck (bd d s)) := fun d s S => by
  have q := h d s S
  show (match asgT t (.fz d) S (Es s) with
    | none => RS.bad
    | some ds => nrm (Mir.grd ck a ds S)) = inX Es (gdB ck (bd d s) S)
  unfold Mir.grd gdB
  cases q0 : asgT t (.fz d) S (Es s) with
  | none =>
    rw [q0] at q
    dsimp only at q ⊢
    cases q2 : bd d s S with
    | ok s' S2 => rw [q2] at q; cases q
    | ex x S2 => rw [q2] at q; cases q
    | bad => rfl
  | some ds =>
    rw [q0] at q
    dsimp only at q ⊢
    cases q1 : a ds S with
    | nx d2 S2 =>
      rw [q1] at q
      cases q2 : bd d s S with
      | ok s' S3 =>
        rw [q2] at q
        cases q
        dsimp only
        split <;> rfl
      | ex x S3 => rw [q2] at q; cases q
      | bad => rw [q2] at q; cases q
    | ct d2 S2 =>
      rw [q1] at q
      cases q2 : bd d s S <;> (rw [q2] at q; cases q)
    | bk d2 S2 =>
      rw [q1] at q
      cases q2 : bd d s S <;> (rw [q2] at q; cases q)
    | rt w S2 =>
      rw [q1] at q
      cases q2 : bd d s S <;> (rw [q2] at q; cases q)
    | ex x d2 S2 =>
      rw [q1] at q
      cases q2 : bd d s S with
      | ok s' S3 => rw [q2] at q; cases q
      | ex x S3 => rw [q2] at q; exact q
      | bad => rw [q2] at q; cases q
    | bad =>
      rw [q1] at q
      cases q2 : bd d s S with
      | ok s' S3 => rw [q2] at q; cases q
      | ex x S3 => rw [q2] at q; cases q
      | bad => rfl
theorem StepO.grd {t : Tgt} {Es : σ → Env} {bd : D → σ → M (Out σ)} (ck : Store → Bool) (h : StepO t a Es bd) : StepO t (Mir.grd ck a) Es (fun d s => gdO ck (bd d s)) := fun d s S => by
  have q := h d s S
  show (match asgT t (.fz d) S (Es s) with
    | none => RS.bad
    | some ds => nrm (Mir.grd ck a ds S)) = inU Es (gdO ck (bd d s) S)
  unfold Mir.grd gdO
  cases q0 : asgT t (.fz d) S (Es s) with
  | none =>
    rw [q0] at q
    dsimp only at q ⊢
    cases q2 : bd d s S with
    | ok s' S2 => rw [q2] at q; cases s' <;> cases q
    | ex x S2 => rw [q2] at q; cases q
    | bad => rfl
  | some ds =>
    rw [q0] at q
    dsimp only at q ⊢
    cases q1 : a ds S with
    | nx d2 S2 =>
      rw [q1] at q
      cases q2 : bd d s S with
      | ok s' S3 =>
        rw [q2] at q
        cases s' with
        | nx s' =>
          cases q
          dsimp only
          split <;> rfl
        | rt w => cases q
      | ex x S3 => rw [q2] at q; cases q
      | bad => rw [q2] at q; cases q
    | ct d2 S2 =>
      rw [q1] at q
      cases q2 : bd d s S with
      | ok s' S3 => rw [q2] at q; cases s' <;> cases q
      | ex x S3 => rw [q2] at q; cases q
      | bad => rw [q2] at q; cases q
    | bk d2 S2 =>
      rw [q1] at q
      cases q2 : bd d s S with
      | ok s' S3 => rw [q2] at q; cases s' <;> cases q
      | ex x S3 => rw [q2] at q; cases q
      | bad => rw [q2] at q; cases q
    | rt w S2 =>
      rw [q1] at q
      cases q2 : bd d s S with
      | ok s' S3 =>
        rw [q2] at q
        cases s' with
        | nx s' => cases q
        | rt w2 => cases q; rfl
      | ex x S3 => rw [q2] at q; cases q
      | bad => rw [q2] at q; cases q
    | ex x d2 S2 =>
      rw [q1] at q
      cases q2 : bd d s S with
      | ok s' S3 => rw [q2] at q; cases s' <;> cases q
      | ex x S3 => rw [q2] at q; exact q
      | bad => rw [q2] at q; cases q
    | bad =>
      rw [q1] at q
      cases q2 : bd d s S with
      | ok s' S3 => rw [q2] at q; cases s' <;> cases q
      | ex x S3 => rw [q2] at q; cases q
      | bad => rfl
theorem bl_forS {t : Tgt} {Es : σ → Env} {bd : D → σ → M σ} {f : Env → M D} {m : M D} (s0 : σ) (hE : E = Es s0) (hi : f E = m) (h : StepB t a Es bd) : Bl (cForS f t a) E Es (dForS m fun ck items => forD (fun d s => gdB ck (bd d s)) items s0) := fun S => by
  show nrm (liftR (f E S) E fun d S => match refL d S with
    | some (n, xs) => forRun t (Mir.grd (sameL n xs) a) xs E S
    | none => .bad) = _
  rw [hi]
  unfold dForS
  cases m S with
  | ok d S =>
    dsimp only [liftR, bindR]
    cases refL d S with
    | none => rfl
    | some q =>
      obtain ⟨n, xs⟩ := q
      dsimp only
      rw [hE]
      exact forB (h.grd _) xs s0 S
  | ex x S => rfl
  | bad => rfl
theorem bo_forS {t : Tgt} {Es : σ → Env} {bd : D → σ → M (Out σ)} {f : Env → M D} {m : M D} (s0 : σ) (hE : E = Es s0) (hi : f E = m) (h : StepO t a Es bd) : BO (cForS f t a) E Es (dForS m fun ck items => forO (fun d s => gdO ck (bd d s)) items s0) := fun S => by
  show nrm (liftR (f E S) E fun d S => match refL d S with
    | some (n, xs) => forRun t (Mir.grd (sameL n xs) a) xs E S
    | none => .bad) = _
  rw [hi]
  unfold dForS
  cases m S with
  | ok d S =>
    dsimp only [liftR, bindR]
    cases refL d S with
    | none => rfl
    | some q =>
      obtain ⟨n, xs⟩ := q
      dsimp only
      rw [hE]
      exact forBO (h.grd _) xs s0 S
  | ex x S => rfl
  | bad => rfl
theorem atRef_self {E : Env} {i n : Nat} (h : E[i]? = some (some (.fz (.ref n)))) : atRef E i n = true := by
  unfold atRef
  rw [h]
  exact eqW_self _
theorem bl_tmp {outs : List Nat} {d : Wv → M σ} {E0 : Wv → Env} {E1 : Wv → σ → Env} {E2 : σ × Wv → Env} {low : Nat → σ → Bool} (w : Wv) (hw : E[i]? = some (some w)) (he : ∀ v, E.set i (some v) = E0 v) (h : ∀ v, Bl a (E0 v) (E1 v) (d v))
    (hc : ∀ v n s, chkE outs i n 0 E (E1 v s) = low n s) (ha : ∀ v s, (E1 v s)[i]? = some (some v)) (h2 : ∀ v s w', (E1 v s).set i (some w') = E2 (s, w')) : Bl (cTmp outs i a) E E2 (dTmp w low d) := fun S => by
  unfold cTmp dTmp
  rw [hw]
  cases w with
  | xc => rfl
  | fz x => rfl
  | ow so =>
    dsimp only
    rw [he]
    have q := h (.fz (.ref S.length)) (S ++ [so])
    cases q1 : a (E0 (.fz (.ref S.length))) (S ++ [so]) with
    | nx ds2 S2 =>
      rw [q1] at q
      cases q2 : d (.fz (.ref S.length)) (S ++ [so]) with
      | ok s S3 =>
        rw [q2] at q
        cases q
        unfold tmpE
        dsimp only
        cases S2[S.length]? with
        | none => rfl
        | some so' =>
          dsimp only
          rw [hc, atRef_self (ha _ _), h2, Bool.and_true]
          split <;> rfl
      | ex x S3 => rw [q2] at q; cases q
      | bad => rw [q2] at q; cases q
    | ct d2 S2 =>
      rw [q1] at q
      cases q2 : d (.fz (.ref S.length)) (S ++ [so]) <;> (rw [q2] at q; cases q)
    | bk d2 S2 =>
      rw [q1] at q
      cases q2 : d (.fz (.ref S.length)) (S ++ [so]) <;> (rw [q2] at q; cases q)
    | rt u S2 =>
      rw [q1] at q
      cases q2 : d (.fz (.ref S.length)) (S ++ [so]) <;> (rw [q2] at q; cases q)
    | ex x d2 S2 =>
      rw [q1] at q
      cases q2 : d (.fz (.ref S.length)) (S ++ [so]) with
      | ok s S3 => rw [q2] at q; cases q
      | ex x S3 => rfl
      | bad => rw [q2] at q; cases q
    | bad =>
      rw [q1] at q
      cases q2 : d (.fz (.ref S.length)) (S ++ [so]) with
      | ok s S3 => rw [q2] at q; cases q
      | ex x S3 => rw [q2] at q; cases q
      | bad => rfl
theorem bo_tmp {outs : List Nat} {d : Wv → M (Out σ)} {E0 : Wv → Env} {E1 : Wv → σ → Env} {E2 : σ × Wv → Env} {low : Nat → σ → Bool} (w : Wv) (hw : E[i]? = some (some w)) (he : ∀ v, E.set i (some v) = E0 v) (h : ∀ v, BO a (E0 v) (E1 v) (d v))
    (hc : ∀ v n s, chkE outs i n 0 E (E1 v s) = low n s) (ha : ∀ v s, (E1 v s)[i]? = some (some v)) (h2 : ∀ v s w', (E1 v s).set i (some w') = E2 (s, w')) : BO (cTmp outs i a) E E2 (dTmpO w low d) := fun S => by
  unfold cTmp dTmpO
  rw [hw]
  cases w with
  | xc => rfl
  | fz x => rfl
  | ow so =>
    dsimp only
    rw [he]
    have q := h (.fz (.ref S.length)) (S ++ [so])
    cases q1 : a (E0 (.fz (.ref S.length))) (S ++ [so]) with
    | nx ds2 S2 =>
      rw [q1] at q
      cases q2 : d (.fz (.ref S.length)) (S ++ [so]) with
      | ok s S3 =>
        rw [q2] at q
        cases s with
        | rt u => cases q
        | nx s =>
          cases q
          unfold tmpE
          dsimp only
          cases S2[S.length]? with
          | none => rfl
          | some so' =>
            dsimp only
            rw [hc, atRef_self (ha _ _), h2, Bool.and_true]
            split <;> rfl
      | ex x S3 => rw [q2] at q; cases q
      | bad => rw [q2] at q; cases q
    | ct d2 S2 =>
      rw [q1] at q
      cases q2 : d (.fz (.ref S.length)) (S ++ [so]) with
      | ok s' S3 => rw [q2] at q; cases s' <;> cases q
      | ex x S3 => rw [q2] at q; cases q
      | bad => rw [q2] at q; cases q
    | bk d2 S2 =>
      rw [q1] at q
      cases q2 : d (.fz (.ref S.length)) (S ++ [so]) with
      | ok s' S3 => rw [q2] at q; cases s' <;> cases q
      | ex x S3 => rw [q2] at q; cases q
      | bad => rw [q2] at q; cases q
    | rt u S2 =>
      rw [q1] at q
      cases q2 : d (.fz (.ref S.length)) (S ++ [so]) with
      | ok s' S3 =>
        rw [q2] at q
        cases s' with
        | nx s' => cases q
        | rt w2 =>
          cases q
          unfold tmpE
          dsimp only
          cases S2[S.length]? with
          | none => rfl
          | some so' =>
            dsimp only
            split <;> rfl
      | ex x S3 => rw [q2] at q; cases q
      | bad => rw [q2] at q; cases q
    | ex x d2 S2 =>
      rw [q1] at q
      cases q2 : d (.fz (.ref S.length)) (S ++ [so]) with
      | ok s' S3 => rw [q2] at q; cases s' <;> cases q
      | ex x S3 => rfl
      | bad => rw [q2] at q; cases q
    | bad =>
      rw [q1] at q
      cases q2 : d (.fz (.ref S.length)) (S ++ [so]) with
      | ok s' S3 => rw [q2] at q; cases s' <;> cases q
      | ex x S3 => rw [q2] at q; cases q
      | bad => rfl
theorem sb_nm {Es : σ → Env} {E3 : D → σ → Env} {bd : D → σ → M σ} (hi : ∀ s, i < (Es s).length) (e : ∀ d s, (Es s).set i (some (.fz d)) = E3 d s) (h : ∀ d s, Bl a (E3 d s) Es (bd d s)) : StepB (.nm i) a Es bd := fun d s S => by
  rw [s_asgN, if_pos (hi s), e]
  exact h d s S
theorem so_nm {Es : σ → Env} {E3 : D → σ → Env} {bd : D → σ → M (Out σ)} (hi : ∀ s, i < (Es s).length) (e : ∀ d s, (Es s).set i (some (.fz d)) = E3 d s) (h : ∀ d s, BO a (E3 d s) Es (bd d s)) : StepO (.nm i) a Es bd := fun d s S => by
  rw [s_asgN, if_pos (hi s), e]
  exact h d s S
/-- while -/
theorem whB {fu : Nat} {Es : σ → Env} {tt : σ → M Bool} {bd : σ → M σ} (ht : ∀ s, t (Es s) = tt s) (h : ∀ s, Bl a (Es s) Es (bd s)) : ∀ (n : Nat) (s : σ) (S : Store), nrm (whRun t a n (Es s) S) = inX Es (whD tt bd n s S)
  | 0, s, S => rfl
  | n + 1, s, S => by
    show nrm (liftR (t (Es s) S) (Es s) _) = inX Es (ift (tt s) (bnd (bd s) (whD tt bd n)) (pur s) S)
    rw [ht]
    unfold ift
    cases tt s S with
    | ex x S => rfl
    | bad => rfl
    | ok k S =>
      cases k with
      | false => rfl
      | true =>
        have h' := h s S
        show nrm (match a (Es s) S with
          | .nx ds2 S2 => whRun t a n ds2 S2
          | .ct ds2 S2 => whRun t a n ds2 S2
          | .bk ds2 S2 => .nx ds2 S2
          | .rt w S2 => .rt w S2
          | .ex x ds2 S2 => .ex x ds2 S2
          | .bad => .bad) = inX Es (bindR (bd s S) (whD tt bd n))
        cases q3 : a (Es s) S with
        | nx ds2 S2 =>
          rw [q3] at h'
          cases q2 : bd s S with
          | ok s' S3 =>
            rw [q2] at h'
            cases h'
            exact whB (fu := fu) ht h n s' _
          | ex x S3 => rw [q2] at h'; cases h'
          | bad => rw [q2] at h'; cases h'
        | ex x ds2 S2 => rw [q3] at h'; cases q2 : bd s S with
          | ok s S2 => rw [q2] at h'; cases h'
          | ex x S2 => rw [q2] at h'; exact h'
          | bad => rw [q2] at h'; cases h'
        | bad => rw [q3] at h'; cases q2 : bd s S with
          | ok s S2 => rw [q2] at h'; cases h'
          | ex x S2 => rw [q2] at h'; cases h'
          | bad => rfl
        | rt w S' => rw [q3] at h'; cases q2 : bd s S <;> (rw [q2] at h'; cases h')
        | bk w S' => rw [q3] at h'; cases q2 : bd s S <;> (rw [q2] at h'; cases h')
        | ct w S' => rw [q3] at h'; cases q2 : bd s S <;> (rw [q2] at h'; cases h')
theorem bl_while {fu : Nat} {Es : σ → Env} {tt : σ → M Bool} {bd : σ → M σ} (s0 : σ) (hE : E = Es s0) (ht : ∀ s, t (Es s) = tt s) (h : ∀ s, Bl a (Es s) Es (bd s)) : Bl (cWhile (fun _ => fu) t a) E Es (whD tt bd fu s0) := fun S => by
  show nrm (whRun t a fu E S) = _
  rw [hE]
  exact whB (fu := fu) ht h fu s0 S
theorem whBO {fu : Nat} {Es : σ → Env} {tt : σ → M Bool} {bd : σ → M (Out σ)} (ht : ∀ s, t (Es s) = tt s) (h : ∀ s, BO a (Es s) Es (bd s)) : ∀ (n : Nat) (s : σ) (S : Store), nrm (whRun t a n (Es s) S) = inU Es (whO tt bd n s S)
  | 0, s, S => rfl
  | n + 1, s, S => by
    show nrm (liftR (t (Es s) S) (Es s) _) = inU Es (ift (tt s) (bnO (bd s) (whO tt bd n)) (pur (.nx s)) S)
    rw [ht]
    unfold ift
    cases tt s S with
    | ex x S => rfl
    | bad => rfl
    | ok k S =>
      cases k with
      | false => rfl
      | true =>
        have h' := h s S
        show nrm (match a (Es s) S with
          | .nx ds2 S2 => whRun t a n ds2 S2
          | .ct ds2 S2 => whRun t a n ds2 S2
          | .bk ds2 S2 => .nx ds2 S2
          | .rt w S2 => .rt w S2
          | .ex x ds2 S2 => .ex x ds2 S2
          | .bad => .bad) = inU Es (bindR (bd s S) (onO (whO tt bd n)))
        cases q3 : a (Es s) S with
        | nx ds2 S2 =>
          rw [q3] at h'
          cases q2 : bd s S with
          | ok s' S3 =>
            rw [q2] at h'
            cases s' with
            | nx s' =>
              cases h'
              exact whBO (fu := fu) ht h n s' _
            | rt w => cases h'
          | ex x S3 => rw [q2] at h'; cases h'
          | bad => rw [q2] at h'; cases h'
        | ex x ds2 S2 => rw [q3] at h'; cases q2 : bd s S with
          | ok s S2 => rw [q2] at h'; cases s <;> cases h'
          | ex x S2 => rw [q2] at h'; exact h'
          | bad => rw [q2] at h'; cases h'
        | bad => rw [q3] at h'; cases q2 : bd s S with
          | ok s S2 => rw [q2] at h'; cases s <;> cases h'
          | ex x S2 => rw [q2] at h'; cases h'
          | bad => rfl
        | rt w S' => rw [q3] at h'; cases q2 : bd s S with
          | ok s S2 =>
            rw [q2] at h'
            cases s with
            | nx s => cases h'
            | rt w => exact h'
          | ex x S2 => rw [q2] at h'; cases h'
          | bad => rw [q2] at h'; cases h'
        | bk w S' => rw [q3] at h'; cases q2 : bd s S with
          | ok s S2 => rw [q2] at h'; cases s <;> cases h'
          | ex x S2 => rw [q2] at h'; cases h'
          | bad => rw [q2] at h'; cases h'
        | ct w S' => rw [q3] at h'; cases q2 : bd s S with
          | ok s S2 => rw [q2] at h'; cases s <;> cases h'
          | ex x S2 => rw [q2] at h'; cases h'
          | bad => rw [q2] at h'; cases h'
theorem bo_while {fu : Nat} {Es : σ → Env} {tt : σ → M Bool} {bd : σ → M (Out σ)} (s0 : σ) (hE : E = Es s0) (ht : ∀ s, t (Es s) = tt s) (h : ∀ s, BO a (Es s) Es (bd s)) : BO (cWhile (fun _ => fu) t a) E Es (whO tt bd fu s0) := fun S => by
  show nrm (whRun t a fu E S) = _
  rw [hE]
  exact whBO (fu := fu) ht h fu s0 S
theorem asg1 {S : Store} {w : Wv} {i0 : Nat} {β : Type} (E : Env) (hi0 : i0 < E.length) (g : Option Env → β) (k : D → β) (z : β) (hk : ∀ x0, g (some (E.set i0 (some (.fz x0)))) = k x0) (hz : g none = z) : g (asgT (.tp [i0]) w S E) = match itemsOf S w with
  | some [x0] => k x0
  | _ => z := by
  show g (setO [i0] (itemsOf S w) E) = _
  cases itemsOf S w with
  | none => exact hz
  | some l =>
    show g (setAll [i0] l E) = _
    match l with
    | [] =>
      exact hz
    | x0 :: l =>
      match l with
      | [] =>
        rw [setAll, if_pos (by simpa using hi0)]
        exact hk x0
      | _ :: _ =>
        rw [setAll, if_pos (by simpa using hi0)]
        exact hz
theorem asg2 {S : Store} {w : Wv} {i0 i1 : Nat} {β : Type} (E : Env) (hi0 : i0 < E.length) (hi1 : i1 < E.length) (g : Option Env → β) (k : D → D → β) (z : β) (hk : ∀ x0 x1, g (some ((E.set i0 (some (.fz x0))).set i1 (some (.fz x1)))) = k x0 x1) (hz : g none = z) : g (asgT (.tp [i0, i1]) w S E) = match itemsOf S w with
  | some [x0, x1] => k x0 x1
  | _ => z := by
  show g (setO [i0, i1] (itemsOf S w) E) = _
  cases itemsOf S w with
  | none => exact hz
  | some l =>
    show g (setAll [i0, i1] l E) = _
    match l with
    | [] =>
      exact hz
    | x0 :: l =>
      match l with
      | [] =>
        rw [setAll, if_pos (by simpa using hi0)]
        exact hz
      | x1 :: l =>
        match l with
        | [] =>
          rw [setAll, if_pos (by simpa using hi0), setAll, if_pos (by simpa using hi1)]
          exact hk x0 x1
        | _ :: _ =>
          rw [setAll, if_pos (by simpa using hi0), setAll, if_pos (by simpa using hi1)]
          exact hz
theorem asg3 {S : Store} {w : Wv} {i0 i1 i2 : Nat} {β : Type} (E : Env) (hi0 : i0 < E.length) (hi1 : i1 < E.length) (hi2 : i2 < E.length) (g : Option Env → β) (k : D → D → D → β) (z : β) (hk : ∀ x0 x1 x2, g (some (((E.set i0 (some (.fz x0))).set i1 (some (.fz x1))).set i2 (some (.fz x2)))) = k x0 x1 x2) (hz : g none = z) : g (asgT (.tp [i0, i1, i2]) w S E) = match itemsOf S w with
  | some [x0, x1, x2] => k x0 x1 x2
  | _ => z := by
  show g (setO [i0, i1, i2] (itemsOf S w) E) = _
  cases itemsOf S w with
  | none => exact hz
  | some l =>
    show g (setAll [i0, i1, i2] l E) = _
    match l with
    | [] =>
      exact hz
    | x0 :: l =>
      match l with
      | [] =>
        rw [setAll, if_pos (by simpa using hi0)]
        exact hz
      | x1 :: l =>
        match l with
        | [] =>
          rw [setAll, if_pos (by simpa using hi0), setAll, if_pos (by simpa using hi1)]
          exact hz
        | x2 :: l =>
          match l with
          | [] =>
            rw [setAll, if_pos (by simpa using hi0), setAll, if_pos (by simpa using hi1), setAll, if_pos (by simpa using hi2)]
            exact hk x0 x1 x2
          | _ :: _ =>
            rw [setAll, if_pos (by simpa using hi0), setAll, if_pos (by simpa using hi1), setAll, if_pos (by simpa using hi2)]
            exact hz
theorem asg4 {S : Store} {w : Wv} {i0 i1 i2 i3 : Nat} {β : Type} (E : Env) (hi0 : i0 < E.length) (hi1 : i1 < E.length) (hi2 : i2 < E.length) (hi3 : i3 < E.length) (g : Option Env → β) (k : D → D → D → D → β) (z : β) (hk : ∀ x0 x1 x2 x3, g (some ((((E.set i0 (some (.fz x0))).set i1 (some (.fz x1))).set i2 (some (.fz x2))).set i3 (some (.fz x3)))) = k x0 x1 x2 x3) (hz : g none = z) : g (asgT (.tp [i0, i1, i2, i3]) w S E) = match itemsOf S w with
  | some [x0, x1, x2, x3] => k x0 x1 x2 x3
  | _ => z := by
  show g (setO [i0, i1, i2, i3] (itemsOf S w) E) = _
  cases itemsOf S w with
  | none => exact hz
  | some l =>
    show g (setAll [i0, i1, i2, i3] l E) = _
    match l with
    | [] =>
      exact hz
    | x0 :: l =>
      match l with
      | [] =>
        rw [setAll, if_pos (by simpa using hi0)]
        exact hz
      | x1 :: l =>
        match l with
        | [] =>
          rw [setAll, if_pos (by simpa using hi0), setAll, if_pos (by simpa using hi1)]
          exact hz
        | x2 :: l =>
          match l with
          | [] =>
            rw [setAll, if_pos (by simpa using hi0), setAll, if_pos (by simpa using hi1), setAll, if_pos (by simpa using hi2)]
            exact hz
          | x3 :: l =>
            match l with
            | [] =>
              rw [setAll, if_pos (by simpa using hi0), setAll, if_pos (by simpa using hi1), setAll, if_pos (by simpa using hi2), setAll, if_pos (by simpa using hi3)]
              exact hk x0 x1 x2 x3
            | _ :: _ =>
              rw [setAll, if_pos (by simpa using hi0), setAll, if_pos (by simpa using hi1), setAll, if_pos (by simpa using hi2), setAll, if_pos (by simpa using hi3)]
              exact hz
theorem asg5 {S : Store} {w : Wv} {i0 i1 i2 i3 i4 : Nat} {β : Type} (E : Env) (hi0 : i0 < E.length) (hi1 : i1 < E.length) (hi2 : i2 < E.length) (hi3 : i3 < E.length) (hi4 : i4 < E.length) (g : Option Env → β) (k : D → D → D → D → D → β) (z : β) (hk : ∀ x0 x1 x2 x3 x4, g (some (((((E.set i0 (some (.fz x0))).set i1 (some (.fz x1))).set i2 (some (.fz x2))).set i3 (some (.fz x3))).set i4 (some (.fz x4)))) = k x0 x1 x2 x3 x4) (hz : g none = z) : g (asgT (.tp [i0, i1, i2, i3, i4]) w S E) = match itemsOf S w with
  | some [x0, x1, x2, x3, x4] => k x0 x1 x2 x3 x4
  | _ => z := by
  show g (setO [i0, i1, i2, i3, i4] (itemsOf S w) E) = _
  cases itemsOf S w with
  | none => exact hz
  | some l =>
    show g (setAll [i0, i1, i2, i3, i4] l E) = _
    match l with
    | [] =>
      exact hz
    | x0 :: l =>
      match l with
      | [] =>
        rw [setAll, if_pos (by simpa using hi0)]
        exact hz
      | x1 :: l =>
        match l with
        | [] =>
          rw [setAll, if_pos (by simpa using hi0), setAll, if_pos (by simpa using hi1)]
          exact hz
        | x2 :: l =>
          match l with
          | [] =>
            rw [setAll, if_pos (by simpa using hi0), setAll, if_pos (by simpa using hi1), setAll, if_pos (by simpa using hi2)]
            exact hz
          | x3 :: l =>
            match l with
            | [] =>
              rw [setAll, if_pos (by simpa using hi0), setAll, if_pos (by simpa using hi1), setAll, if_pos (by simpa using hi2), setAll, if_pos (by simpa using hi3)]
              exact hz
            | x4 :: l =>
              match l with
              | [] =>
                rw [setAll, if_pos (by simpa using hi0), setAll, if_pos (by simpa using hi1), setAll, if_pos (by simpa using hi2), setAll, if_pos (by simpa using hi3), setAll, if_pos (by simpa using hi4)]
                exact hk x0 x1 x2 x3 x4
              | _ :: _ =>
                rw [setAll, if_pos (by simpa using hi0), setAll, if_pos (by simpa using hi1), setAll, if_pos (by simpa using hi2), setAll, if_pos (by simpa using hi3), setAll, if_pos (by simpa using hi4)]
                exact hz
theorem asg6 {S : Store} {w : Wv} {i0 i1 i2 i3 i4 i5 : Nat} {β : Type} (E : Env) (hi0 : i0 < E.length) (hi1 : i1 < E.length) (hi2 : i2 < E.length) (hi3 : i3 < E.length) (hi4 : i4 < E.length) (hi5 : i5 < E.length) (g : Option Env → β) (k : D → D → D → D → D → D → β) (z : β) (hk : ∀ x0 x1 x2 x3 x4 x5, g (some ((((((E.set i0 (some (.fz x0))).set i1 (some (.fz x1))).set i2 (some (.fz x2))).set i3 (some (.fz x3))).set i4 (some (.fz x4))).set i5 (some (.fz x5)))) = k x0 x1 x2 x3 x4 x5) (hz : g none = z) : g (asgT (.tp [i0, i1, i2, i3, i4, i5]) w S E) = match itemsOf S w with
  | some [x0, x1, x2, x3, x4, x5] => k x0 x1 x2 x3 x4 x5
  | _ => z := by
  show g (setO [i0, i1, i2, i3, i4, i5] (itemsOf S w) E) = _
  cases itemsOf S w with
  | none => exact hz
  | some l =>
    show g (setAll [i0, i1, i2, i3, i4, i5] l E) = _
    match l with
    | [] =>
      exact hz
    | x0 :: l =>
      match l with
      | [] =>
        rw [setAll, if_pos (by simpa using hi0)]
        exact hz
      | x1 :: l =>
        match l with
        | [] =>
          rw [setAll, if_pos (by simpa using hi0), setAll, if_pos (by simpa using hi1)]
          exact hz
        | x2 :: l =>
          match l with
          | [] =>
            rw [setAll, if_pos (by simpa using hi0), setAll, if_pos (by simpa using hi1), setAll, if_pos (by simpa using hi2)]
            exact hz
          | x3 :: l =>
            match l with
            | [] =>
              rw [setAll, if_pos (by simpa using hi0), setAll, if_pos (by simpa using hi1), setAll, if_pos (by simpa using hi2), setAll, if_pos (by simpa using hi3)]
              exact hz
            | x4 :: l =>
              match l with
              | [] =>
                rw [setAll, if_pos (by simpa using hi0), setAll, if_pos (by simpa using hi1), setAll, if_pos (by simpa using hi2), setAll, if_pos (by simpa using hi3), setAll, if_pos (by simpa using hi4)]
                exact hz
              | x5 :: l =>
                match l with
                | [] =>
                  rw [setAll, if_pos (by simpa using hi0), setAll, if_pos (by simpa using hi1), setAll, if_pos (by simpa using hi2), setAll, if_pos (by simpa using hi3), setAll, if_pos (by simpa using hi4), setAll, if_pos (by simpa using hi5)]
                  exact hk x0 x1 x2 x3 x4 x5
                | _ :: _ =>
                  rw [setAll, if_pos (by simpa using hi0), setAll, if_pos (by simpa using hi1), setAll, if_pos (by simpa using hi2), setAll, if_pos (by simpa using hi3), setAll, if_pos (by simpa using hi4), setAll, if_pos (by simpa using hi5)]
                  exact hz
theorem asg7 {S : Store} {w : Wv} {i0 i1 i2 i3 i4 i5 i6 : Nat} {β : Type} (E : Env) (hi0 : i0 < E.length) (hi1 : i1 < E.length) (hi2 : i2 < E.length) (hi3 : i3 < E.length) (hi4 : i4 < E.length) (hi5 : i5 < E.length) (hi6 : i6 < E.length) (g : Option Env → β) (k : D → D → D → D → D → D → D → β) (z : β) (hk : ∀ x0 x1 x2 x3 x4 x5 x6, g (some (((((((E.set i0 (some (.fz x0))).set i1 (some (.fz x1))).set i2 (some (.fz x2))).set i3 (some (.fz x3))).set i4 (some (.fz x4))).set i5 (some (.fz x5))).set i6 (some (.fz x6)))) = k x0 x1 x2 x3 x4 x5 x6) (hz : g none = z) : g (asgT (.tp [i0, i1, i2, i3, i4, i5, i6]) w S E) = match itemsOf S w with
  | some [x0, x1, x2, x3, x4, x5, x6] => k x0 x1 x2 x3 x4 x5 x6
  | _ => z := by
  show g (setO [i0, i1, i2, i3, i4, i5, i6] (itemsOf S w) E) = _
  cases itemsOf S w with
  | none => exact hz
  | some l =>
    show g (setAll [i0, i1, i2, i3, i4, i5, i6] l E) = _
    match l with
    | [] =>
      exact hz
    | x0 :: l =>
      match l with
      | [] =>
        rw [setAll, if_pos (by simpa using hi0)]
        exact hz
      | x1 :: l =>
        match l with
        | [] =>
          rw [setAll, if_pos (by simpa using hi0), setAll, if_pos (by simpa using hi1)]
          exact hz
        | x2 :: l =>
          match l with
          | [] =>
            rw [setAll, if_pos (by simpa using hi0), setAll, if_pos (by simpa using hi1), setAll, if_pos (by simpa using hi2)]
            exact hz
          | x3 :: l =>
            match l with
            | [] =>
              rw [setAll, if_pos (by simpa using hi0), setAll, if_pos (by simpa using hi1), setAll, if_pos (by simpa using hi2), setAll, if_pos (by simpa using hi3)]
              exact hz
            | x4 :: l =>
              match l with
              | [] =>
                rw [setAll, if_pos (by simpa using hi0), setAll, if_pos (by simpa using hi1), setAll, if_pos (by simpa using hi2), setAll, if_pos (by simpa using hi3), setAll, if_pos (by simpa using hi4)]
                exact hz
              | x5 :: l =>
                match l with
                | [] =>
                  rw [setAll, if_pos (by simpa using hi0), setAll, if_pos (by simpa using hi1), setAll, if_pos (by simpa using hi2), setAll, if_pos (by simpa using hi3), setAll, if_pos (by simpa using hi4), setAll, if_pos (by simpa using hi5)]
                  exact hz
                | x6 :: l =>
                  match l with
                  | [] =>
                    rw [setAll, if_pos (by simpa using hi0), setAll, if_pos (by simpa using hi1), setAll, if_pos (by simpa using hi2), setAll, if_pos (by simpa using hi3), setAll, if_pos (by simpa using hi4), setAll, if_pos (by simpa using hi5), setAll, if_pos (by simpa using hi6)]
                    exact hk x0 x1 x2 x3 x4 x5 x6
                  | _ :: _ =>
                    rw [setAll, if_pos (by simpa using hi0), setAll, if_pos (by simpa using hi1), setAll, if_pos (by simpa using hi2), setAll, if_pos (by simpa using hi3), setAll, if_pos (by simpa using hi4), setAll, if_pos (by simpa using hi5), setAll, if_pos (by simpa using hi6)]
                    exact hz
theorem asg8 {S : Store} {w : Wv} {i0 i1 i2 i3 i4 i5 i6 i7 : Nat} {β : Type} (E : Env) (hi0 : i0 < E.length) (hi1 : i1 < E.length) (hi2 : i2 < E.length) (hi3 : i3 < E.length) (hi4 : i4 < E.length) (hi5 : i5 < E.length) (hi6 : i6 < E.length) (hi7 : i7 < E.length) (g : Option Env → β) (k : D → D → D → D → D → D → D → D → β) (z : β) (hk : ∀ x0 x1 x2 x3 x4 x5 x6 x7, g (some ((((((((E.set i0 (some (.fz x0))).set i1 (some (.fz x1))).set i2 (some (.fz x2))).set i3 (some (.fz x3))).set i4 (some (.fz x4))).set i5 (some (.fz x5))).set i6 (some (.fz x6))).set i7 (some (.fz x7)))) = k x0 x1 x2 x3 x4 x5 x6 x7) (hz : g none = z) : g (asgT (.tp [i0, i1, i2, i3, i4, i5, i6, i7]) w S E) = match itemsOf S w with
  | some [x0, x1, x2, x3, x4, x5, x6, x7] => k x0 x1 x2 x3 x4 x5 x6 x7
  | _ => z := by
  show g (setO [i0, i1, i2, i3, i4, i5, i6, i7] (itemsOf S w) E) = _
  cases itemsOf S w with
  | none => exact hz
  | some l =>
    show g (setAll [i0, i1, i2, i3, i4, i5, i6, i7] l E) = _
    match l with
    | [] =>
      exact hz
    | x0 :: l =>
      match l with
      | [] =>
        rw [setAll, if_pos (by simpa using hi0)]
        exact hz
      | x1 :: l =>
        match l with
        | [] =>
          rw [setAll, if_pos (by simpa using hi0), setAll, if_pos (by simpa using hi1)]
          exact hz
        | x2 :: l =>
          match l with
          | [] =>
            rw [setAll, if_pos (by simpa using hi0), setAll, if_pos (by simpa using hi1), setAll, if_pos (by simpa using hi2)]
            exact hz
          | x3 :: l =>
            match l with
            | [] =>
              rw [setAll, if_pos (by simpa using hi0), setAll, if_pos (by simpa using hi1), setAll, if_pos (by simpa using hi2), setAll, if_pos (by simpa using hi3)]
              exact hz
            | x4 :: l =>
              match l with
              | [] =>
                rw [setAll, if_pos (by simpa using hi0), setAll, if_pos (by simpa using hi1), setAll, if_pos (by simpa using hi2), setAll, if_pos (by simpa using hi3), setAll, if_pos (by simpa using hi4)]
                exact hz
              | x5 :: l =>
                match l with
                | [] =>
                  rw [setAll, if_pos (by simpa using hi0), setAll, if_pos (by simpa using hi1), setAll, if_pos (by simpa using hi2), setAll, if_pos (by simpa using hi3), setAll, if_pos (by simpa using hi4), setAll, if_pos (by simpa using hi5)]
                  exact hz
                | x6 :: l =>
                  match l with
                  | [] =>
                    rw [setAll, if_pos (by simpa using hi0), setAll, if_pos (by simpa using hi1), setAll, if_pos (by simpa using hi2), setAll, if_pos (by simpa using hi3), setAll, if_pos (by simpa using hi4), setAll, if_pos (by simpa using hi5), setAll, if_pos (by simpa using hi6)]
                    exact hz
                  | x7 :: l =>
                    match l with
                    | [] =>
                      rw [setAll, if_pos (by simpa using hi0), setAll, if_pos (by simpa using hi1), setAll, if_pos (by simpa using hi2), setAll, if_pos (by simpa using hi3), setAll, if_pos (by simpa using hi4), setAll, if_pos (by simpa using hi5), setAll, if_pos (by simpa using hi6), setAll, if_pos (by simpa using hi7)]
                      exact hk x0 x1 x2 x3 x4 x5 x6 x7
                    | _ :: _ =>
                      rw [setAll, if_pos (by simpa using hi0), setAll, if_pos (by simpa using hi1), setAll, if_pos (by simpa using hi2), setAll, if_pos (by simpa using hi3), setAll, if_pos (by simpa using hi4), setAll, if_pos (by simpa using hi5), setAll, if_pos (by simpa using hi6), setAll, if_pos (by simpa using hi7)]
                      exact hz
theorem lend_eq {f : Env → M α} {ok : α → Bool} {d : Wv → M α} (w : Wv) (hw : E[i]? = some (some w)) (h : ∀ w', f (E.set i (some w')) = d w') : lendE i ok f E = dLend w ok d := by
  funext S
  unfold lendE dLend
  rw [hw]
  cases w with
  | xc => rfl
  | fz x => rfl
  | ow so =>
    cases so with
    | lst xs => dsimp only; rw [h]
    | dct _ => rfl
    | ins _ _ => rfl
theorem lc_run {own : List Nat} {t : Tgt} {ts : Env → M Bool} {el : Env → M D} {F : D → M (Option D)} (h : ∀ d S, (match asgT t (.fz d) S (wipeE E own) with
  | none => R.bad
  | some ds1 => lcStep (ts ds1) (el ds1) S) = F d S) : ∀ (items acc : List D) (S : Store), lcRun own t ts el E items acc S = lcS F items acc S
  | [], acc, S => rfl
  | d :: r, acc, S => by
    unfold lcRun lcS
    rw [← h d S]
    cases asgT t (.fz d) S (wipeE E own) with
    | none => rfl
    | some ds1 =>
      dsimp only
      unfold lcStep
      cases noEx (ts ds1 S) with
      | ex x S => rfl
      | bad => rfl
      | ok b S =>
        cases b with
        | false => exact lc_run h r acc S
        | true =>
          show bindR (noEx (el ds1 S)) _ = bindR (bindR (noEx (el ds1 S)) _) _
          cases noEx (el ds1 S) with
          | ex x S => rfl
          | bad => rfl
          | ok y S =>
            show (if szOk (acc.length + 1) = true then _ else _) = (if szOk (acc.length + 1) = true then _ else _)
            split
            · exact lc_run h r (acc ++ [y]) S
            · rfl
theorem lc_nm {own : List Nat} {ts : Env → M Bool} {el : Env → M D} {fi : Env → M (List D)} {E3 : D → Env} {tD : D → M Bool} {eD : D → M D} {iD : M (List D)} (hl : i < (wipeE E own).length) (e : ∀ d, (wipeE E own).set i (some (.fz d)) = E3 d) (hi : fi E = iD) (ht : ∀ d, ts (E3 d) = tD d) (he : ∀ d, el (E3 d) = eD d) : cLc own (.nm i) ts el fi E = bnd iD fun items => lcS (fun d => lcStep (tD d) (eD d)) items [] := by
  funext S
  show bindR (fi E S) (fun items S => lcRun own (.nm i) ts el E items [] S) = bindR (iD S) _
  rw [hi]
  refine congrArg (bindR (iD S)) (funext fun items => funext fun S => ?_)
  refine lc_run (fun d S => ?_) items [] S
  rw [s_asgN, if_pos hl, e]
  dsimp only
  rw [ht, he]
theorem sb_tp1 {i0 : Nat} {Es : σ → Env} {E3 : D → σ → Env} {bd : D → σ → M σ} (hi : ∀ s, i0 < (Es s).length) (e : ∀ x0 s, ((Es s).set i0 (some (.fz x0))) = E3 x0 s) (h : ∀ x0 s, Bl a (E3 x0 s) Es (bd x0 s)) : StepB (.tp [i0]) a Es (fun d s => un1 (.fz d) fun x0 => bd x0 s) := fun d s S => by
  refine (asg1 (Es s) (hi s) (fun o => match o with | none => RS.bad | some ds => nrm (a ds S)) (fun x0 => inX Es (bd x0 s S)) RS.bad (fun x0 => by rw [e]; exact h x0 s S) rfl).trans ?_
  show _ = inX Es (un1 (.fz d) (fun x0 => bd x0 s) S)
  unfold un1
  split <;> rfl
theorem so_tp1 {i0 : Nat} {Es : σ → Env} {E3 : D → σ → Env} {bd : D → σ → M (Out σ)} (hi : ∀ s, i0 < (Es s).length) (e : ∀ x0 s, ((Es s).set i0 (some (.fz x0))) = E3 x0 s) (h : ∀ x0 s, BO a (E3 x0 s) Es (bd x0 s)) : StepO (.tp [i0]) a Es (fun d s => un1 (.fz d) fun x0 => bd x0 s) := fun d s S => by
  refine (asg1 (Es s) (hi s) (fun o => match o with | none => RS.bad | some ds => nrm (a ds S)) (fun x0 => inU Es (bd x0 s S)) RS.bad (fun x0 => by rw [e]; exact h x0 s S) rfl).trans ?_
  show _ = inU Es (un1 (.fz d) (fun x0 => bd x0 s) S)
  unfold un1
  split <;> rfl
theorem bl_asg1 {i0 : Nat} {d : M Wv} {E3 : (D) → Env} (hi0 : i0 < E.length) (hf : f E = d) (e : ∀ x0, (E.set i0 (some (.fz x0))) = E3 (x0)) : Bl (cAsg (.tp [i0]) f) E E3 (bnd d fun w => un1 w fun x0 => pur (x0)) := fun S => by
  show nrm (liftR (f E S) E fun w S => nxO (asgT (.tp [i0]) w S E) S) = _
  rw [hf]
  unfold bnd
  cases d S with
  | ex x S => rfl
  | bad => rfl
  | ok w S =>
    refine (asg1 E hi0 (fun o => nrm (nxO o S)) (fun x0 => RS.nx (E3 (x0)) S) RS.bad (fun x0 => by rw [e]; rfl) rfl).trans ?_
    show _ = inX E3 (un1 w (fun x0 => pur (x0)) S)
    unfold un1
    split <;> rfl
theorem lc_tp1 {own : List Nat} {i0 : Nat} {ts : Env → M Bool} {el : Env → M D} {fi : Env → M (List D)} {E3 : D → Env} {tD : D → M Bool} {eD : D → M D} {iD : M (List D)} (hi0 : i0 < (wipeE E own).length) (e : ∀ x0, ((wipeE E own).set i0 (some (.fz x0))) = E3 x0) (hi : fi E = iD) (ht : ∀ x0, ts (E3 x0) = tD x0) (he : ∀ x0, el (E3 x0) = eD x0) : cLc own (.tp [i0]) ts el fi E = bnd iD fun items => lcS (fun d => un1 (.fz d) fun x0 => lcStep (tD x0) (eD x0)) items [] := by
  funext S
  show bindR (fi E S) (fun items S => lcRun own (.tp [i0]) ts el E items [] S) = bindR (iD S) _
  rw [hi]
  refine congrArg (bindR (iD S)) (funext fun items => funext fun S => ?_)
  refine lc_run (fun d S => ?_) items [] S
  refine (asg1 (wipeE E own) hi0 (fun o => match o with | none => R.bad | some ds1 => lcStep (ts ds1) (el ds1) S) (fun x0 => lcStep (tD x0) (eD x0) S) R.bad (fun x0 => by rw [e]; dsimp only; rw [ht, he]) rfl).trans ?_
  unfold un1
  split <;> rfl
theorem sb_tp2 {i0 i1 : Nat} {Es : σ → Env} {E3 : D → D → σ → Env} {bd : D → D → σ → M σ} (hi : ∀ s, i0 < (Es s).length ∧ i1 < (Es s).length) (e : ∀ x0 x1 s, (((Es s).set i0 (some (.fz x0))).set i1 (some (.fz x1))) = E3 x0 x1 s) (h : ∀ x0 x1 s, Bl a (E3 x0 x1 s) Es (bd x0 x1 s)) : StepB (.tp [i0, i1]) a Es (fun d s => un2 (.fz d) fun x0 x1 => bd x0 x1 s) := fun d s S => by
  have ⟨hi0, hi1⟩ := hi s
  refine (asg2 (Es s) hi0 hi1 (fun o => match o with | none => RS.bad | some ds => nrm (a ds S)) (fun x0 x1 => inX Es (bd x0 x1 s S)) RS.bad (fun x0 x1 => by rw [e]; exact h x0 x1 s S) rfl).trans ?_
  show _ = inX Es (un2 (.fz d) (fun x0 x1 => bd x0 x1 s) S)
  unfold un2
  split <;> rfl
theorem so_tp2 {i0 i1 : Nat} {Es : σ → Env} {E3 : D → D → σ → Env} {bd : D → D → σ → M (Out σ)} (hi : ∀ s, i0 < (Es s).length ∧ i1 < (Es s).length) (e : ∀ x0 x1 s, (((Es s).set i0 (some (.fz x0))).set i1 (some (.fz x1))) = E3 x0 x1 s) (h : ∀ x0 x1 s, BO a (E3 x0 x1 s) Es (bd x0 x1 s)) : StepO (.tp [i0, i1]) a Es (fun d s => un2 (.fz d) fun x0 x1 => bd x0 x1 s) := fun d s S => by
  have ⟨hi0, hi1⟩ := hi s
  refine (asg2 (Es s) hi0 hi1 (fun o => match o with | none => RS.bad | some ds => nrm (a ds S)) (fun x0 x1 => inU Es (bd x0 x1 s S)) RS.bad (fun x0 x1 => by rw [e]; exact h x0 x1 s S) rfl).trans ?_
  show _ = inU Es (un2 (.fz d) (fun x0 x1 => bd x0 x1 s) S)
  unfold un2
  split <;> rfl
theorem bl_asg2 {i0 i1 : Nat} {d : M Wv} {E3 : (D × D) → Env} (hi0 : i0 < E.length) (hi1 : i1 < E.length) (hf : f E = d) (e : ∀ x0 x1, ((E.set i0 (some (.fz x0))).set i1 (some (.fz x1))) = E3 (x0, x1)) : Bl (cAsg (.tp [i0, i1]) f) E E3 (bnd d fun w => un2 w fun x0 x1 => pur (x0, x1)) := fun S => by
  show nrm (liftR (f E S) E fun w S => nxO (asgT (.tp [i0, i1]) w S E) S) = _
  rw [hf]
  unfold bnd
  cases d S with
  | ex x S => rfl
  | bad => rfl
  | ok w S =>
    refine (asg2 E hi0 hi1 (fun o => nrm (nxO o S)) (fun x0 x1 => RS.nx (E3 (x0, x1)) S) RS.bad (fun x0 x1 => by rw [e]; rfl) rfl).trans ?_
    show _ = inX E3 (un2 w (fun x0 x1 => pur (x0, x1)) S)
    unfold un2
    split <;> rfl
theorem lc_tp2 {own : List Nat} {i0 i1 : Nat} {ts : Env → M Bool} {el : Env → M D} {fi : Env → M (List D)} {E3 : D → D → Env} {tD : D → D → M Bool} {eD : D → D → M D} {iD : M (List D)} (hi0 : i0 < (wipeE E own).length) (hi1 : i1 < (wipeE E own).length) (e : ∀ x0 x1, (((wipeE E own).set i0 (some (.fz x0))).set i1 (some (.fz x1))) = E3 x0 x1) (hi : fi E = iD) (ht : ∀ x0 x1, ts (E3 x0 x1) = tD x0 x1) (he : ∀ x0 x1, el (E3 x0 x1) = eD x0 x1) : cLc own (.tp [i0, i1]) ts el fi E = bnd iD fun items => lcS (fun d => un2 (.fz d) fun x0 x1 => lcStep (tD x0 x1) (eD x0 x1)) items [] := by
  funext S
  show bindR (fi E S) (fun items S => lcRun own (.tp [i0, i1]) ts el E items [] S) = bindR (iD S) _
  rw [hi]
  refine congrArg (bindR (iD S)) (funext fun items => funext fun S => ?_)
  refine lc_run (fun d S => ?_) items [] S
  refine (asg2 (wipeE E own) hi0 hi1 (fun o => match o with | none => R.bad | some ds1 => lcStep (ts ds1) (el ds1) S) (fun x0 x1 => lcStep (tD x0 x1) (eD x0 x1) S) R.bad (fun x0 x1 => by rw [e]; dsimp only; rw [ht, he]) rfl).trans ?_
  unfold un2
  split <;> rfl
theorem sb_tp3 {i0 i1 i2 : Nat} {Es : σ → Env} {E3 : D → D → D → σ → Env} {bd : D → D → D → σ → M σ} (hi : ∀ s, i0 < (Es s).length ∧ i1 < (Es s).length ∧ i2 < (Es s).length) (e : ∀ x0 x1 x2 s, ((((Es s).set i0 (some (.fz x0))).set i1 (some (.fz x1))).set i2 (some (.fz x2))) = E3 x0 x1 x2 s) (h : ∀ x0 x1 x2 s, Bl a (E3 x0 x1 x2 s) Es (bd x0 x1 x2 s)) : StepB (.tp [i0, i1, i2]) a Es (fun d s => un3 (.fz d) fun x0 x1 x2 => bd x0 x1 x2 s) := fun d s S => by
  have ⟨hi0, hi1, hi2⟩ := hi s
  refine (asg3 (Es s) hi0 hi1 hi2 (fun o => match o with | none => RS.bad | some ds => nrm (a ds S)) (fun x0 x1 x2 => inX Es (bd x0 x1 x2 s S)) RS.bad (fun x0 x1 x2 => by rw [e]; exact h x0 x1 x2 s S) rfl).trans ?_
  show _ = inX Es (un3 (.fz d) (fun x0 x1 x2 => bd x0 x1 x2 s) S)
  unfold un3
  split <;> rfl
theorem so_tp3 {i0 i1 i2 : Nat} {Es : σ → Env} {E3 : D → D → D → σ → Env} {bd : D → D → D → σ → M (Out σ)} (hi : ∀ s, i0 < (Es s).length ∧ i1 < (Es s).length ∧ i2 < (Es s).length) (e : ∀ x0 x1 x2 s, ((((Es s).set i0 (some (.fz x0))).set i1 (some (.fz x1))).set i2 (some (.fz x2))) = E3 x0 x1 x2 s) (h : ∀ x0 x1 x2 s, BO a (E3 x0 x1 x2 s) Es (bd x0 x1 x2 s)) : StepO (.tp [i0, i1, i2]) a Es (fun d s => un3 (.fz d) fun x0 x1 x2 => bd x0 x1 x2 s) := fun d s S => by
  have ⟨hi0, hi1, hi2⟩ := hi s
  refine (asg3 (Es s) hi0 hi1 hi2 (fun o => match o with | none => RS.bad | some ds => nrm (a ds S)) (fun x0 x1 x2 => inU Es (bd x0 x1 x2 s S)) RS.bad (fun x0 x1 x2 => by rw [e]; exact h x0 x1 x2 s S) rfl).trans ?_
  show _ = inU Es (un3 (.fz d) (fun x0 x1 x2 => bd x0 x1 x2 s) S)
  unfold un3
  split <;> rfl
theorem bl_asg3 {i0 i1 i2 : Nat} {d : M Wv} {E3 : (D × D × D) → Env} (hi0 : i0 < E.length) (hi1 : i1 < E.length) (hi2 : i2 < E.length) (hf : f E = d) (e : ∀ x0 x1 x2, (((E.set i0 (some (.fz x0))).set i1 (some (.fz x1))).set i2 (some (.fz x2))) = E3 (x0, x1, x2)) : Bl (cAsg (.tp [i0, i1, i2]) f) E E3 (bnd d fun w => un3 w fun x0 x1 x2 => pur (x0, x1, x2)) := fun S => by
  show nrm (liftR (f E S) E fun w S => nxO (asgT (.tp [i0, i1, i2]) w S E) S) = _
  rw [hf]
  unfold bnd
  cases d S with
  | ex x S => rfl
  | bad => rfl
  | ok w S =>
    refine (asg3 E hi0 hi1 hi2 (fun o => nrm (nxO o S)) (fun x0 x1 x2 => RS.nx (E3 (x0, x1, x2)) S) RS.bad (fun x0 x1 x2 => by rw [e]; rfl) rfl).trans ?_
    show _ = inX E3 (un3 w (fun x0 x1 x2 => pur (x0, x1, x2)) S)
    unfold un3
    split <;> rfl
theorem lc_tp3 {own : List Nat} {i0 i1 i2 : Nat} {ts : Env → M Bool} {el : Env → M D} {fi : Env → M (List D)} {E3 : D → D → D → Env} {tD : D → D → D → M Bool} {eD : D → D → D → M D} {iD : M (List D)} (hi0 : i0 < (wipeE E own).length) (hi1 : i1 < (wipeE E own).length) (hi2 : i2 < (wipeE E own).length) (e : ∀ x0 x1 x2, ((((wipeE E own).set i0 (some (.fz x0))).set i1 (some (.fz x1))).set i2 (some (.fz x2))) = E3 x0 x1 x2) (hi : fi E = iD) (ht : ∀ x0 x1 x2, ts (E3 x0 x1 x2) = tD x0 x1 x2) (he : ∀ x0 x1 x2, el (E3 x0 x1 x2) = eD x0 x1 x2) : cLc own (.tp [i0, i1, i2]) ts el fi E = bnd iD fun items => lcS (fun d => un3 (.fz d) fun x0 x1 x2 => lcStep (tD x0 x1 x2) (eD x0 x1 x2)) items [] := by
  funext S
  show bindR (fi E S) (fun items S => lcRun own (.tp [i0, i1, i2]) ts el E items [] S) = bindR (iD S) _
  rw [hi]
  refine congrArg (bindR (iD S)) (funext fun items => funext fun S => ?_)
  refine lc_run (fun d S => ?_) items [] S
  refine (asg3 (wipeE E own) hi0 hi1 hi2 (fun o => match o with | none => R.bad | some ds1 => lcStep (ts ds1) (el ds1) S) (fun x0 x1 x2 => lcStep (tD x0 x1 x2) (eD x0 x1 x2) S) R.bad (fun x0 x1 x2 => by rw [e]; dsimp only; rw [ht, he]) rfl).trans ?_
  unfold un3
  split <;> rfl
theorem sb_tp4 {i0 i1 i2 i3 : Nat} {Es : σ → Env} {E3 : D → D → D → D → σ → Env} {bd : D → D → D → D → σ → M σ} (hi : ∀ s, i0 < (Es s).length ∧ i1 < (Es s).length ∧ i2 < (Es s).length ∧ i3 < (Es s).length) (e : ∀ x0 x1 x2 x3 s, (((((Es s).set i0 (some (.fz x0))).set i1 (some (.fz x1))).set i2 (some (.fz x2))).set i3 (some (.fz x3))) = E3 x0 x1 x2 x3 s) (h : ∀ x0 x1 x2 x3 s, Bl a (E3 x0 x1 x2 x3 s) Es (bd x0 x1 x2 x3 s)) : StepB (.tp [i0, i1, i2, i3]) a Es (fun d s => un4 (.fz d) fun x0 x1 x2 x3 => bd x0 x1 x2 x3 s) := fun d s S => by
  have ⟨hi0, hi1, hi2, hi3⟩ := hi s
  refine (asg4 (Es s) hi0 hi1 hi2 hi3 (fun o => match o with | none => RS.bad | some ds => nrm (a ds S)) (fun x0 x1 x2 x3 => inX Es (bd x0 x1 x2 x3 s S)) RS.bad (fun x0 x1 x2 x3 => by rw [e]; exact h x0 x1 x2 x3 s S) rfl).trans ?_
  show _ = inX Es (un4 (.fz d) (fun x0 x1 x2 x3 => bd x0 x1 x2 x3 s) S)
  unfold un4
  split <;> rfl
theorem so_tp4 {i0 i1 i2 i3 : Nat} {Es : σ → Env} {E3 : D → D → D → D → σ → Env} {bd : D → D → D → D → σ → M (Out σ)} (hi : ∀ s, i0 < (Es s).length ∧ i1 < (Es s).length ∧ i2 < (Es s).length ∧ i3 < (Es s).length) (e : ∀ x0 x1 x2 x3 s, (((((Es s).set i0 (some (.fz x0))).set i1 (some (.fz x1))).set i2 (some (.fz x2))).set i3 (some (.fz x3))) = E3 x0 x1 x2 x3 s) (h : ∀ x0 x1 x2 x3 s, BO a (E3 x0 x1 x2 x3 s) Es (bd x0 x1 x2 x3 s)) : StepO (.tp [i0, i1, i2, i3]) a Es (fun d s => un4 (.fz d) fun x0 x1 x2 x3 => bd x0 x1 x2 x3 s) := fun d s S => by
  have ⟨hi0, hi1, hi2, hi3⟩ := hi s
  refine (asg4 (Es s) hi0 hi1 hi2 hi3 (fun o => match o with | none => RS.bad | some ds => nrm (a ds S)) (fun x0 x1 x2 x3 => inU Es (bd x0 x1 x2 x3 s S)) RS.bad (fun x0 x1 x2 x3 => by rw [e]; exact h x0 x1 x2 x3 s S) rfl).trans ?_
  show _ = inU Es (un4 (.fz d) (fun x0 x1 x2 x3 => bd x0 x1 x2 x3 s) S)
  unfold un4
  split <;> rfl
theorem bl_asg4 {i0 i1 i2 i3 : Nat} {d : M Wv} {E3 : (D × D × D × D) → Env} (hi0 : i0 < E.length) (hi1 : i1 < E.length) (hi2 : i2 < E.length) (hi3 : i3 < E.length) (hf : f E = d) (e : ∀ x0 x1 x2 x3, ((((E.set i0 (some (.fz x0))).set i1 (some (.fz x1))).set i2 (some (.fz x2))).set i3 (some (.fz x3))) = E3 (x0, x1, x2, x3)) : Bl (cAsg (.tp [i0, i1, i2, i3]) f) E E3 (bnd d fun w => un4 w fun x0 x1 x2 x3 => pur (x0, x1, x2, x3)) := fun S => by
  show nrm (liftR (f E S) E fun w S => nxO (asgT (.tp [i0, i1, i2, i3]) w S E) S) = _
  rw [hf]
  unfold bnd
  cases d S with
  | ex x S => rfl
  | bad => rfl
  | ok w S =>
    refine (asg4 E hi0 hi1 hi2 hi3 (fun o => nrm (nxO o S)) (fun x0 x1 x2 x3 => RS.nx (E3 (x0, x1, x2, x3)) S) RS.bad (fun x0 x1 x2 x3 => by rw [e]; rfl) rfl).trans ?_
    show _ = inX E3 (un4 w (fun x0 x1 x2 x3 => pur (x0, x1, x2, x3)) S)
    unfold un4
    split <;> rfl
theorem lc_tp4 {own : List Nat} {i0 i1 i2 i3 : Nat} {ts : Env → M Bool} {el : Env → M D} {fi : Env → M (List D)} {E3 : D → D → D → D → Env} {tD : D → D → D → D → M Bool} {eD : D → D → D → D → M D} {iD : M (List D)} (hi0 : i0 < (wipeE E own).length) (hi1 : i1 < (wipeE E own).length) (hi2 : i2 < (wipeE E own).length) (hi3 : i3 < (wipeE E own).length) (e : ∀ x0 x1 x2 x3, (((((wipeE E own).set i0 (some (.fz x0))).set i1 (some (.fz x1))).set i2 (some (.fz x2))).set i3 (some (.fz x3))) = E3 x0 x1 x2 x3) (hi : fi E = iD) (ht : ∀ x0 x1 x2 x3, ts (E3 x0 x1 x2 x3) = tD x0 x1 x2 x3) (he : ∀ x0 x1 x2 x3, el (E3 x0 x1 x2 x3) = eD x0 x1 x2 x3) : cLc own (.tp [i0, i1, i2, i3]) ts el fi E = bnd iD fun items => lcS (fun d => un4 (.fz d) fun x0 x1 x2 x3 => lcStep (tD x0 x1 x2 x3) (eD x0 x1 x2 x3)) items [] := by
  funext S
  show bindR (fi E S) (fun items S => lcRun own (.tp [i0, i1, i2, i3]) ts el E items [] S) = bindR (iD S) _
  rw [hi]
  refine congrArg (bindR (iD S)) (funext fun items => funext fun S => ?_)
  refine lc_run (fun d S => ?_) items [] S
  refine (asg4 (wipeE E own) hi0 hi1 hi2 hi3 (fun o => match o with | none => R.bad | some ds1 => lcStep (ts ds1) (el ds1) S) (fun x0 x1 x2 x3 => lcStep (tD x0 x1 x2 x3) (eD x0 x1 x2 x3) S) R.bad (fun x0 x1 x2 x3 => by rw [e]; dsimp only; rw [ht, he]) rfl).trans ?_
  unfold un4
  split <;> rfl
theorem sb_tp5 {i0 i1 i2 i3 i4 : Nat} {Es : σ → Env} {E3 : D → D → D → D → D → σ → Env} {bd : D → D → D → D → D → σ → M σ} (hi : ∀ s, i0 < (Es s).length ∧ i1 < (Es s).length ∧ i2 < (Es s).length ∧ i3 < (Es s).length ∧ i4 < (Es s).length) (e : ∀ x0 x1 x2 x3 x4 s, ((((((Es s).set i0 (some (.fz x0))).set i1 (some (.fz x1))).set i2 (some (.fz x2))).set i3 (some (.fz x3))).set i4 (some (.fz x4))) = E3 x0 x1 x2 x3 x4 s) (h : ∀ x0 x1 x2 x3 x4 s, Bl a (E3 x0 x1 x2 x3 x4 s) Es (bd x0 x1 x2 x3 x4 s)) : StepB (.tp [i0, i1, i2, i3, i4]) a Es (fun d s => un5 (.fz d) fun x0 x1 x2 x3 x4 => bd x0 x1 x2 x3 x4 s) := fun d s S => by
  have ⟨hi0, hi1, hi2, hi3, hi4⟩ := hi s
  refine (asg5 (Es s) hi0 hi1 hi2 hi3 hi4 (fun o => match o with | none => RS.bad | some ds => nrm (a ds S)) (fun x0 x1 x2 x3 x4 => inX Es (bd x0 x1 x2 x3 x4 s S)) RS.bad (fun x0 x1 x2 x3 x4 => by rw [e]; exact h x0 x1 x2 x3 x4 s S) rfl).trans ?_
  show _ = inX Es (un5 (.fz d) (fun x0 x1 x2 x3 x4 => bd x0 x1 x2 x3 x4 s) S)
  unfold un5
  split <;> rfl
theorem so_tp5 {i0 i1 i2 i3 i4 : Nat} {Es : σ → Env} {E3 : D → D → D → D → D → σ → Env} {bd : D → D → D → D → D → σ → M (Out σ)} (hi : ∀ s, i0 < (Es s).length ∧ i1 < (Es s).length ∧ i2 < (Es s).length ∧ i3 < (Es s).length ∧ i4 < (Es s).length) (e : ∀ x0 x1 x2 x3 x4 s, ((((((Es s).set i0 (some (.fz x0))).set i1 (some (.fz x1))).set i2 (some (.fz x2))).set i3 (some (.fz x3))).set i4 (some (.fz x4))) = E3 x0 x1 x2 x3 x4 s) (h : ∀ x0 x1 x2 x3 x4 s, BO a (E3 x0 x1 x2 x3 x4 s) Es (bd x0 x1 x2 x3 x4 s)) : StepO (.tp [i0, i1, i2, i3, i4]) a Es (fun d s => un5 (.fz d) fun x0 x1 x2 x3 x4 => bd x0 x1 x2 x3 x4 s) := fun d s S => by
  have ⟨hi0, hi1, hi2, hi3, hi4⟩ := hi s
  refine (asg5 (Es s) hi0 hi1 hi2 hi3 hi4 (fun o => match o with | none => RS.bad | some ds => nrm (a ds S)) (fun x0 x1 x2 x3 x4 => inU Es (bd x0 x1 x2 x3 x4 s S)) RS.bad (fun x0 x1 x2 x3 x4 => by rw [e]; exact h x0 x1 x2 x3 x4 s S) rfl).trans ?_
  show _ = inU Es (un5 (.fz d) (fun x0 x1 x2 x3 x4 => bd x0 x1 x2 x3 x4 s) S)
  unfold un5
  split <;> rfl
theorem bl_asg5 {i0 i1 i2 i3 i4 : Nat} {d : M Wv} {E3 : (D × D × D × D × D) → Env} (hi0 : i0 < E.length) (hi1 : i1 < E.length) (hi2 : i2 < E.length) (hi3 : i3 < E.length) (hi4 : i4 < E.length) (hf : f E = d) (e : ∀ x0 x1 x2 x3 x4, (((((E.set i0 (some (.fz x0))).set i1 (some (.fz x1))).set i2 (some (.fz x2))).set i3 (some (.fz x3))).set i4 (some (.fz x4))) = E3 (x0, x1, x2, x3, x4)) : Bl (cAsg (.tp [i0, i1, i2, i3, i4]) f) E E3 (bnd d fun w => un5 w fun x0 x1 x2 x3 x4 => pur (x0, x1, x2, x3, x4)) := fun S => by
  show nrm (liftR (f E S) E fun w S => nxO (asgT (.tp [i0, i1, i2, i3, i4]) w S E) S) = _
  rw [hf]
  unfold bnd
  cases d S with
  | ex x S => rfl
  | bad => rfl
  | ok w S =>
    refine (asg5 E hi0 hi1 hi2 hi3 hi4 (fun o => nrm (nxO o S)) (fun x0 x1 x2 x3 x4 => RS.nx (E3 (x0, x1, x2, x3, x4)) S) RS.bad (fun x0 x1 x2 x3 x4 => by rw [e]; rfl) rfl).trans ?_
    show _ = inX E3 (un5 w (fun x0 x1 x2 x3 x4 => pur (x0, x1, x2, x3, x4)) S)
    unfold un5
    split <;> rfl
theorem lc_tp5 {own : List Nat} {i0 i1 i2 i3 i4 : Nat} {ts : Env → M Bool} {el : Env → M D} {fi : Env → M (List D)} {E3 : D → D → D → D → D → Env} {tD : D → D → D → D → D → M Bool} {eD : D → D → D → D → D → M D} {iD : M (List D)} (hi0 : i0 < (wipeE E own).length) (hi1 : i1 < (wipeE E own).length) (hi2 : i2 < (wipeE E own).length) (hi3 : i3 < (wipeE E own).length) (hi4 : i4 < (wipeE E own).length) (e : ∀ x0 x1 x2 x3 x4, ((((((wipeE E own).set i0 (some (.fz x0))).set i1 (some (.fz x1))).set i2 (some (.fz x2))).set i3 (some (.fz x3))).set i4 (some (.fz x4))) = E3 x0 x1 x2 x3 x4) (hi : fi E = iD) (ht : ∀ x0 x1 x2 x3 x4, ts (E3 x0 x1 x2 x3 x4) = tD x0 x1 x2 x3 x4) (he : ∀ x0 x1 x2 x3 x4, el (E3 x0 x1 x2 x3 x4) = eD x0 x1 x2 x3 x4) : cLc own (.tp [i0, i1, i2, i3, i4]) ts el fi E = bnd iD fun items => lcS (fun d => un5 (.fz d) fun x0 x1 x2 x3 x4 => lcStep (tD x0 x1 x2 x3 x4) (eD x0 x1 x2 x3 x4)) items [] := by
  funext S
  show bindR (fi E S) (fun items S => lcRun own (.tp [i0, i1, i2, i3, i4]) ts el E items [] S) = bindR (iD S) _
  rw [hi]
  refine congrArg (bindR (iD S)) (funext fun items => funext fun S => ?_)
  refine lc_run (fun d S => ?_) items [] S
  refine (asg5 (wipeE E own) hi0 hi1 hi2 hi3 hi4 (fun o => match o with | none => R.bad | some ds1 => lcStep (ts ds1) (el ds1) S) (fun x0 x1 x2 x3 x4 => lcStep (tD x0 x1 x2 x3 x4) (eD x0 x1 x2 x3 x4) S) R.bad (fun x0 x1 x2 x3 x4 => by rw [e]; dsimp only; rw [ht, he]) rfl).trans ?_
  unfold un5
  split <;> rfl
theorem sb_tp6 {i0 i1 i2 i3 i4 i5 : Nat} {Es : σ → Env} {E3 : D → D → D → D → D → D → σ → Env} {bd : D → D → D → D → D → D → σ → M σ} (hi : ∀ s, i0 < (Es s).length ∧ i1 < (Es s).length ∧ i2 < (Es s).length ∧ i3 < (Es s).length ∧ i4 < (Es s).length ∧ i5 < (Es s).length) (e : ∀ x0 x1 x2 x3 x4 x5 s, (((((((Es s).set i0 (some (.fz x0))).set i1 (some (.fz x1))).set i2 (some (.fz x2))).set i3 (some (.fz x3))).set i4 (some (.fz x4))).set i5 (some (.fz x5))) = E3 x0 x1 x2 x3 x4 x5 s) (h : ∀ x0 x1 x2 x3 x4 x5 s, Bl a (E3 x0 x1 x2 x3 x4 x5 s) Es (bd x0 x1 x2 x3 x4 x5 s)) : StepB (.tp [i0, i1, i2, i3, i4, i5]) a Es (fun d s => un6 (.fz d) fun x0 x1 x2 x3 x4 x5 => bd x0 x1 x2 x3 x4 x5 s) := fun d s S => by
  have ⟨hi0, hi1, hi2, hi3, hi4, hi5⟩ := hi s
  refine (asg6 (Es s) hi0 hi1 hi2 hi3 hi4 hi5 (fun o => match o with | none => RS.bad | some ds => nrm (a ds S)) (fun x0 x1 x2 x3 x4 x5 => inX Es (bd x0 x1 x2 x3 x4 x5 s S)) RS.bad (fun x0 x1 x2 x3 x4 x5 => by rw [e]; exact h x0 x1 x2 x3 x4 x5 s S) rfl).trans ?_
  show _ = inX Es (un6 (.fz d) (fun x0 x1 x2 x3 x4 x5 => bd x0 x1 x2 x3 x4 x5 s) S)
  unfold un6
  split <;> rfl
theorem so_tp6 {i0 i1 i2 i3 i4 i5 : Nat} {Es : σ → Env} {E3 : D → D → D → D → D → D → σ → Env} {bd : D → D → D → D → D → D → σ → M (Out σ)} (hi : ∀ s, i0 < (Es s).length ∧ i1 < (Es s).length ∧ i2 < (Es s).length ∧ i3 < (Es s).length ∧ i4 < (Es s).length ∧ i5 < (Es s).length) (e : ∀ x0 x1 x2 x3 x4 x5 s, (((((((Es s).set i0 (some (.fz x0))).set i1 (some (.fz x1))).set i2 (some (.fz x2))).set i3 (some (.fz x3))).set i4 (some (.fz x4))).set i5 (some (.fz x5))) = E3 x0 x1 x2 x3 x4 x5 s) (h : ∀ x0 x1 x2 x3 x4 x5 s, BO a (E3 x0 x1 x2 x3 x4 x5 s) Es (bd x0 x1 x2 x3 x4 x5 s)) : StepO (.tp [i0, i1, i2, i3, i4, i5]) a Es (fun d s => un6 (.fz d) fun x0 x1 x2 x3 x4 x5 => bd x0 x1 x2 x3 x4 x5 s) := fun d s S => by
  have ⟨hi0, hi1, hi2, hi3, hi4, hi5⟩ := hi s
  refine (asg6 (Es s) hi0 hi1 hi2 hi3 hi4 hi5 (fun o => match o with | none => RS.bad | some ds => nrm (a ds S)) (fun x0 x1 x2 x3 x4 x5 => inU Es (bd x0 x1 x2 x3 x4 x5 s S)) RS.bad (fun x0 x1 x2 x3 x4 x5 => by rw [e]; exact h x0 x1 x2 x3 x4 x5 s S) rfl).trans ?_
  show _ = inU Es (un6 (.fz d) (fun x0 x1 x2 x3 x4 x5 => bd x0 x1 x2 x3 x4 x5 s) S)
  unfold un6
  split <;> rfl
theorem bl_asg6 {i0 i1 i2 i3 i4 i5 : Nat} {d : M Wv} {E3 : (D × D × D × D × D × D) → Env} (hi0 : i0 < E.length) (hi1 : i1 < E.length) (hi2 : i2 < E.length) (hi3 : i3 < E.length) (hi4 : i4 < E.length) (hi5 : i5 < E.length) (hf : f E = d) (e : ∀ x0 x1 x2 x3 x4 x5, ((((((E.set i0 (some (.fz x0))).set i1 (some (.fz x1))).set i2 (some (.fz x2))).set i3 (some (.fz x3))).set i4 (some (.fz x4))).set i5 (some (.fz x5))) = E3 (x0, x1, x2, x3, x4, x5)) : Bl (cAsg (.tp [i0, i1, i2, i3, i4, i5]) f) E E3 (bnd d fun w => un6 w fun x0 x1 x2 x3 x4 x5 => pur (x0, x1, x2, x3, x4, x5)) := fun S => by
  show nrm (liftR (f E S) E fun w S => nxO (asgT (.tp [i0, i1, i2, i3, i4, i5]) w S E) S) = _
  rw [hf]
  unfold bnd
  cases d S with
  | ex x S => rfl
  | bad => rfl
  | ok w S =>
    refine (asg6 E hi0 hi1 hi2 hi3 hi4 hi5 (fun o => nrm (nxO o S)) (fun x0 x1 x2 x3 x4 x5 => RS.nx (E3 (x0, x1, x2, x3, x4, x5)) S) RS.bad (fun x0 x1 x2 x3 x4 x5 => by rw [e]; rfl) rfl).trans ?_
    show _ = inX E3 (un6 w (fun x0 x1 x2 x3 x4 x5 => pur (x0, x1, x2, x3, x4, x5)) S)
    unfold un6
    split <;> rfl
theorem lc_tp6 {own : List Nat} {i0 i1 i2 i3 i4 i5 : Nat} {ts : Env → M Bool} {el : Env → M D} {fi : Env → M (List D)} {E3 : D → D → D → D → D → D → Env} {tD : D → D → D → D → D → D → M Bool} {eD : D → D → D → D → D → D → M D} {iD : M (List D)} (hi0 : i0 < (wipeE E own).length) (hi1 : i1 < (wipeE E own).length) (hi2 : i2 < (wipeE E own).length) (hi3 : i3 < (wipeE E own).length) (hi4 : i4 < (wipeE E own).length) (hi5 : i5 < (wipeE E own).length) (e : ∀ x0 x1 x2 x3 x4 x5, (((((((wipeE E own).set i0 (some (.fz x0))).set i1 (some (.fz x1))).set i2 (some (.fz x2))).set i3 (some (.fz x3))).set i4 (some (.fz x4))).set i5 (some (.fz x5))) = E3 x0 x1 x2 x3 x4 x5) (hi : fi E = iD) (ht : ∀ x0 x1 x2 x3 x4 x5, ts (E3 x0 x1 x2 x3 x4 x5) = tD x0 x1 x2 x3 x4 x5) (he : ∀ x0 x1 x2 x3 x4 x5, el (E3 x0 x1 x2 x3 x4 x5) = eD x0 x1 x2 x3 x4 x5) : cLc own (.tp [i0, i1, i2, i3, i4, i5]) ts el fi E = bnd iD fun items => lcS (fun d => un6 (.fz d) fun x0 x1 x2 x3 x4 x5 => lcStep (tD x0 x1 x2 x3 x4 x5) (eD x0 x1 x2 x3 x4 x5)) items [] := by
  funext S
  show bindR (fi E S) (fun items S => lcRun own (.tp [i0, i1, i2, i3, i4, i5]) ts el E items [] S) = bindR (iD S) _
  rw [hi]
  refine congrArg (bindR (iD S)) (funext fun items => funext fun S => ?_)
  refine lc_run (fun d S => ?_) items [] S
  refine (asg6 (wipeE E own) hi0 hi1 hi2 hi3 hi4 hi5 (fun o => match o with | none => R.bad | some ds1 => lcStep (ts ds1) (el ds1) S) (fun x0 x1 x2 x3 x4 x5 => lcStep (tD x0 x1 x2 x3 x4 x5) (eD x0 x1 x2 x3 x4 x5) S) R.bad (fun x0 x1 x2 x3 x4 x5 => by rw [e]; dsimp only; rw [ht, he]) rfl).trans ?_
  unfold un6
  split <;> rfl
theorem sb_tp7 {i0 i1 i2 i3 i4 i5 i6 : Nat} {Es : σ → Env} {E3 : D → D → D → D → D → D → D → σ → Env} {bd : D → D → D → D → D → D → D → σ → M σ} (hi : ∀ s, i0 < (Es s).length ∧ i1 < (Es s).length ∧ i2 < (Es s).length ∧ i3 < (Es s).length ∧ i4 < (Es s).length ∧ i5 < (Es s).length ∧ i6 < (Es s).length) (e : ∀ x0 x1 x2 x3 x4 x5 x6 s, ((((((((Es s).set i0 (some (.fz x0))).set i1 (some (.fz x1))).set i2 (some (.fz x2))).set i3 (some (.fz x3))).set i4 (some (.fz x4))).set i5 (some (.fz x5))).set i6 (some (.fz x6))) = E3 x0 x1 x2 x3 x4 x5 x6 s) (h : ∀ x0 x1 x2 x3 x4 x5 x6 s, Bl a (E3 x0 x1 x2 x3 x4 x5 x6 s) Es (bd x0 x1 x2 x3 x4 x5 x6 s)) : StepB (.tp [i0, i1, i2, i3, i4, i5, i6]) a Es (fun d s => un7 (.fz d) fun x0 x1 x2 x3 x4 x5 x6 => bd x0 x1 x2 x3 x4 x5 x6 s) := fun d s S => by
  have ⟨hi0, hi1, hi2, hi3, hi4, hi5, hi6⟩ := hi s
  refine (asg7 (Es s) hi0 hi1 hi2 hi3 hi4 hi5 hi6 (fun o => match o with | none => RS.bad | some ds => nrm (a ds S)) (fun x0 x1 x2 x3 x4 x5 x6 => inX Es (bd x0 x1 x2 x3 x4 x5 x6 s S)) RS.bad (fun x0 x1 x2 x3 x4 x5 x6 => by rw [e]; exact h x0 x1 x2 x3 x4 x5 x6 s S) rfl).trans ?_
  show _ = inX Es (un7 (.fz d) (fun x0 x1 x2 x3 x4 x5 x6 => bd x0 x1 x2 x3 x4 x5 x6 s) S)
  unfold un7
  split <;> rfl
theorem so_tp7 {i0 i1 i2 i3 i4 i5 i6 : Nat} {Es : σ → Env} {E3 : D → D → D → D → D → D → D → σ → Env} {bd : D → D → D → D → D → D → D → σ → M (Out σ)} (hi : ∀ s, i0 < (Es s).length ∧ i1 < (Es s).length ∧ i2 < (Es s).length ∧ i3 < (Es s).length ∧ i4 < (Es s).length ∧ i5 < (Es s).length ∧ i6 < (Es s).length) (e : ∀ x0 x1 x2 x3 x4 x5 x6 s, ((((((((Es s).set i0 (some (.fz x0))).set i1 (some (.fz x1))).set i2 (some (.fz x2))).set i3 (some (.fz x3))).set i4 (some (.fz x4))).set i5 (some (.fz x5))).set i6 (some (.fz x6))) = E3 x0 x1 x2 x3 x4 x5 x6 s) (h : ∀ x0 x1 x2 x3 x4 x5 x6 s, BO a (E3 x0 x1 x2 x3 x4 x5 x6 s) Es (bd x0 x1 x2 x3 x4 x5 x6 s)) : StepO (.tp [i0, i1, i2, i3, i4, i5, i6]) a Es (fun d s => un7 (.fz d) fun x0 x1 x2 x3 x4 x5 x6 => bd x0 x1 x2 x3 x4 x5 x6 s) := fun d s S => by
  have ⟨hi0, hi1, hi2, hi3, hi4, hi5, hi6⟩ := hi s
  refine (asg7 (Es s) hi0 hi1 hi2 hi3 hi4 hi5 hi6 (fun o => match o with | none => RS.bad | some ds => nrm (a ds S)) (fun x0 x1 x2 x3 x4 x5 x6 => inU Es (bd x0 x1 x2 x3 x4 x5 x6 s S)) RS.bad (fun x0 x1 x2 x3 x4 x5 x6 => by rw [e]; exact h x0 x1 x2 x3 x4 x5 x6 s S) rfl).trans ?_
  show _ = inU Es (un7 (.fz d) (fun x0 x1 x2 x3 x4 x5 x6 => bd x0 x1 x2 x3 x4 x5 x6 s) S)
  unfold un7
  split <;> rfl
theorem bl_asg7 {i0 i1 i2 i3 i4 i5 i6 : Nat} {d : M Wv} {E3 : (D × D × D × D × D × D × D) → Env} (hi0 : i0 < E.length) (hi1 : i1 < E.length) (hi2 : i2 < E.length) (hi3 : i3 < E.length) (hi4 : i4 < E.length) (hi5 : i5 < E.length) (hi6 : i6 < E.length) (hf : f E = d) (e : ∀ x0 x1 x2 x3 x4 x5 x6, (((((((E.set i0 (some (.fz x0))).set i1 (some (.fz x1))).set i2 (some (.fz x2))).set i3 (some (.fz x3))).set i4 (some (.fz x4))).set i5 (some (.fz x5))).set i6 (some (.fz x6))) = E3 (x0, x1, x2, x3, x4, x5, x6)) : Bl (cAsg (.tp [i0, i1, i2, i3, i4, i5, i6]) f) E E3 (bnd d fun w => un7 w fun x0 x1 x2 x3 x4 x5 x6 => pur (x0, x1, x2, x3, x4, x5, x6)) := fun S => by
  show nrm (liftR (f E S) E fun w S => nxO (asgT (.tp [i0, i1, i2, i3, i4, i5, i6]) w S E) S) = _
  rw [hf]
  unfold bnd
  cases d S with
  | ex x S => rfl
  | bad => rfl
  | ok w S =>
    refine (asg7 E hi0 hi1 hi2 hi3 hi4 hi5 hi6 (fun o => nrm (nxO o S)) (fun x0 x1 x2 x3 x4 x5 x6 => RS.nx (E3 (x0, x1, x2, x3, x4, x5, x6)) S) RS.bad (fun x0 x1 x2 x3 x4 x5 x6 => by rw [e]; rfl) rfl).trans ?_
    show _ = inX E3 (un7 w (fun x0 x1 x2 x3 x4 x5 x6 => pur (x0, x1, x2, x3, x4, x5, x6)) S)
    unfold un7
    split <;> rfl
theorem lc_tp7 {own : List Nat} {i0 i1 i2 i3 i4 i5 i6 : Nat} {ts : Env → M Bool} {el : Env → M D} {fi : Env → M (List D)} {E3 : D → D → D → D → D → D → D → Env} {tD : D → D → D → D → D → D → D → M Bool} {eD : D → D → D → D → D → D → D → M D} {iD : M (List D)} (hi0 : i0 < (wipeE E own).length) (hi1 : i1 < (wipeE E own).length) (hi2 : i2 < (wipeE E own).length) (hi3 : i3 < (wipeE E own).length) (hi4 : i4 < (wipeE E own).length) (hi5 : i5 < (wipeE E own).length) (hi6 : i6 < (wipeE E own).length) (e : ∀ x0 x1 x2 x3 x4 x5 x6, ((((((((wipeE E own).set i0 (some (.fz x0))).set i1 (some (.fz x1))).set i2 (some (.fz x2))).set i3 (some (.fz x3))).set i4 (some (.fz x4))).set i5 (some (.fz x5))).set i6 (some (.fz x6))) = E3 x0 x1 x2 x3 x4 x5 x6) (hi : fi E = iD) (ht : ∀ x0 x1 x2 x3 x4 x5 x6, ts (E3 x0 x1 x2 x3 x4 x5 x6) = tD x0 x1 x2 x3 x4 x5 x6) (he : ∀ x0 x1 x2 x3 x4 x5 x6, el (E3 x0 x1 x2 x3 x4 x5 x6) = eD x0 x1 x2 x3 x4 x5 x6) : cLc own (.tp [i0, i1, i2, i3, i4, i5, i6]) ts el fi E = bnd iD fun items => lcS (fun d => un7 (.fz d) fun x0 x1 x2 x3 x4 x5 x6 => lcStep (tD x0 x1 x2 x3 x4 x5 x6) (eD x0 x1 x2 x3 x4 x5 x6)) items [] := by
  funext S
  show bindR (fi E S) (fun items S => lcRun own (.tp [i0, i1, i2, i3, i4, i5, i6]) ts el E items [] S) = bindR (iD S) _
  rw [hi]
  refine congrArg (bindR (iD S)) (funext fun items => funext fun S => ?_)
  refine lc_run (fun d S => ?_) items [] S
  refine (asg7 (wipeE E own) hi0 hi1 hi2 hi3 hi4 hi5 hi6 (fun o => match o with | none => R.bad | some ds1 => lcStep (ts ds1) (el ds1) S) (fun x0 x1 x2 x3 x4 x5 x6 => lcStep (tD x0 x1 x2 x3 x4 x5 x6) (eD x0 x1 x2 x3 x4 x5 x6) S) R.bad (fun x0 x1 x2 x3 x4 x5 x6 => by rw [e]; dsimp only; rw [ht, he]) rfl).trans ?_
  unfold un7
  split <;> rfl
theorem sb_tp8 {i0 i1 i2 i3 i4 i5 i6 i7 : Nat} {Es : σ → Env} {E3 : D → D → D → D → D → D → D → D → σ → Env} {bd : D → D → D → D → D → D → D → D → σ → M σ} (hi : ∀ s, i0 < (Es s).length ∧ i1 < (Es s).length ∧ i2 < (Es s).length ∧ i3 < (Es s).length ∧ i4 < (Es s).length ∧ i5 < (Es s).length ∧ i6 < (Es s).length ∧ i7 < (Es s).length) (e : ∀ x0 x1 x2 x3 x4 x5 x6 x7 s, (((((((((Es s).set i0 (some (.fz x0))).set i1 (some (.fz x1))).set i2 (some (.fz x2))).set i3 (some (.fz x3))).set i4 (some (.fz x4))).set i5 (some (.fz x5))).set i6 (some (.fz x6))).set i7 (some (.fz x7))) = E3 x0 x1 x2 x3 x4 x5 x6 x7 s) (h : ∀ x0 x1 x2 x3 x4 x5 x6 x7 s, Bl a (E3 x0 x1 x2 x3 x4 x5 x6 x7 s) Es (bd x0 x1 x2 x3 x4 x5 x6 x7 s)) : StepB (.tp [i0, i1, i2, i3, i4, i5, i6, i7]) a Es (fun d s => un8 (.fz d) fun x0 x1 x2 x3 x4 x5 x6 x7 => bd x0 x1 x2 x3 x4 x5 x6 x7 s) := fun d s S => by
  have ⟨hi0, hi1, hi2, hi3, hi4, hi5, hi6, hi7⟩ := hi s
  refine (asg8 (Es s) hi0 hi1 hi2 hi3 hi4 hi5 hi6 hi7 (fun o => match o with | none => RS.bad | some ds => nrm (a ds S)) (fun x0 x1 x2 x3 x4 x5 x6 x7 => inX Es (bd x0 x1 x2 x3 x4 x5 x6 x7 s S)) RS.bad (fun x0 x1 x2 x3 x4 x5 x6 x7 => by rw [e]; exact h x0 x1 x2 x3 x4 x5 x6 x7 s S) rfl).trans ?_
  show _ = inX Es (un8 (.fz d) (fun x0 x1 x2 x3 x4 x5 x6 x7 => bd x0 x1 x2 x3 x4 x5 x6 x7 s) S)
  unfold un8
  split <;> rfl
theorem so_tp8 {i0 i1 i2 i3 i4 i5 i6 i7 : Nat} {Es : σ → Env} {E3 : D → D → D → D → D → D → D → D → σ → Env} {bd : D → D → D → D → D → D → D → D → σ → M (Out σ)} (hi : ∀ s, i0 < (Es s).length ∧ i1 < (Es s).length ∧ i2 < (Es s).length ∧ i3 < (Es s).length ∧ i4 < (Es s).length ∧ i5 < (Es s).length ∧ i6 < (Es s).length ∧ i7 < (Es s).length) (e : ∀ x0 x1 x2 x3 x4 x5 x6 x7 s, (((((((((Es s).set i0 (some (.fz x0))).set i1 (some (.fz x1))).set i2 (some (.fz x2))).set i3 (some (.fz x3))).set i4 (some (.fz x4))).set i5 (some (.fz x5))).set i6 (some (.fz x6))).set i7 (some (.fz x7))) = E3 x0 x1 x2 x3 x4 x5 x6 x7 s) (h : ∀ x0 x1 x2 x3 x4 x5 x6 x7 s, BO a (E3 x0 x1 x2 x3 x4 x5 x6 x7 s) Es (bd x0 x1 x2 x3 x4 x5 x6 x7 s)) : StepO (.tp [i0, i1, i2, i3, i4, i5, i6, i7]) a Es (fun d s => un8 (.fz d) fun x0 x1 x2 x3 x4 x5 x6 x7 => bd x0 x1 x2 x3 x4 x5 x6 x7 s) := fun d s S => by
  have ⟨hi0, hi1, hi2, hi3, hi4, hi5, hi6, hi7⟩ := hi s
  refine (asg8 (Es s) hi0 hi1 hi2 hi3 hi4 hi5 hi6 hi7 (fun o => match o with | none => RS.bad | some ds => nrm (a ds S)) (fun x0 x1 x2 x3 x4 x5 x6 x7 => inU Es (bd x0 x1 x2 x3 x4 x5 x6 x7 s S)) RS.bad (fun x0 x1 x2 x3 x4 x5 x6 x7 => by rw [e]; exact h x0 x1 x2 x3 x4 x5 x6 x7 s S) rfl).trans ?_
  show _ = inU Es (un8 (.fz d) (fun x0 x1 x2 x3 x4 x5 x6 x7 => bd x0 x1 x2 x3 x4 x5 x6 x7 s) S)
  unfold un8
  split <;> rfl
theorem bl_asg8 {i0 i1 i2 i3 i4 i5 i6 i7 : Nat} {d : M Wv} {E3 : (D × D × D × D × D × D × D × D) → Env} (hi0 : i0 < E.length) (hi1 : i1 < E.length) (hi2 : i2 < E.length) (hi3 : i3 < E.length) (hi4 : i4 < E.length) (hi5 : i5 < E.length) (hi6 : i6 < E.length) (hi7 : i7 < E.length) (hf : f E = d) (e : ∀ x0 x1 x2 x3 x4 x5 x6 x7, ((((((((E.set i0 (some (.fz x0))).set i1 (some (.fz x1))).set i2 (some (.fz x2))).set i3 (some (.fz x3))).set i4 (some (.fz x4))).set i5 (some (.fz x5))).set i6 (some (.fz x6))).set i7 (some (.fz x7))) = E3 (x0, x1, x2, x3, x4, x5, x6, x7)) : Bl (cAsg (.tp [i0, i1, i2, i3, i4, i5, i6, i7]) f) E E3 (bnd d fun w => un8 w fun x0 x1 x2 x3 x4 x5 x6 x7 => pur (x0, x1, x2, x3, x4, x5, x6, x7)) := fun S => by
  show nrm (liftR (f E S) E fun w S => nxO (asgT (.tp [i0, i1, i2, i3, i4, i5, i6, i7]) w S E) S) = _
  rw [hf]
  unfold bnd
  cases d S with
  | ex x S => rfl
  | bad => rfl
  | ok w S =>
    refine (asg8 E hi0 hi1 hi2 hi3 hi4 hi5 hi6 hi7 (fun o => nrm (nxO o S)) (fun x0 x1 x2 x3 x4 x5 x6 x7 => RS.nx (E3 (x0, x1, x2, x3, x4, x5, x6, x7)) S) RS.bad (fun x0 x1 x2 x3 x4 x5 x6 x7 => by rw [e]; rfl) rfl).trans ?_
    show _ = inX E3 (un8 w (fun x0 x1 x2 x3 x4 x5 x6 x7 => pur (x0, x1, x2, x3, x4, x5, x6, x7)) S)
    unfold un8
    split <;> rfl
theorem lc_tp8 {own : List Nat} {i0 i1 i2 i3 i4 i5 i6 i7 : Nat} {ts : Env → M Bool} {el : Env → M D} {fi : Env → M (List D)} {E3 : D → D → D → D → D → D → D → D → Env} {tD : D → D → D → D → D → D → D → D → M Bool} {eD : D → D → D → D → D → D → D → D → M D} {iD : M (List D)} (hi0 : i0 < (wipeE E own).length) (hi1 : i1 < (wipeE E own).length) (hi2 : i2 < (wipeE E own).length) (hi3 : i3 < (wipeE E own).length) (hi4 : i4 < (wipeE E own).length) (hi5 : i5 < (wipeE E own).length) (hi6 : i6 < (wipeE E own).length) (hi7 : i7 < (wipeE E own).length) (e : ∀ x0 x1 x2 x3 x4 x5 x6 x7, (((((((((wipeE E own).set i0 (some (.fz x0))).set i1 (some (.fz x1))).set i2 (some (.fz x2))).set i3 (some (.fz x3))).set i4 (some (.fz x4))).set i5 (some (.fz x5))).set i6 (some (.fz x6))).set i7 (some (.fz x7))) = E3 x0 x1 x2 x3 x4 x5 x6 x7) (hi : fi E = iD) (ht : ∀ x0 x1 x2 x3 x4 x5 x6 x7, ts (E3 x0 x1 x2 x3 x4 x5 x6 x7) = tD x0 x1 x2 x3 x4 x5 x6 x7) (he : ∀ x0 x1 x2 x3 x4 x5 x6 x7, el (E3 x0 x1 x2 x3 x4 x5 x6 x7) = eD x0 x1 x2 x3 x4 x5 x6 x7) : cLc own (.tp [i0, i1, i2, i3, i4, i5, i6, i7]) ts el fi E = bnd iD fun items => lcS (fun d => un8 (.fz d) fun x0 x1 x2 x3 x4 x5 x6 x7 => lcStep (tD x0 x1 x2 x3 x4 x5 x6 x7) (eD x0 x1 x2 x3 x4 x5 x6 x7)) items [] := by
  funext S
  show bindR (fi E S) (fun items S => lcRun own (.tp [i0, i1, i2, i3, i4, i5, i6, i7]) ts el E items [] S) = bindR (iD S) _
  rw [hi]
  refine congrArg (bindR (iD S)) (funext fun items => funext fun S => ?_)
  refine lc_run (fun d S => ?_) items [] S
  refine (asg8 (wipeE E own) hi0 hi1 hi2 hi3 hi4 hi5 hi6 hi7 (fun o => match o with | none => R.bad | some ds1 => lcStep (ts ds1) (el ds1) S) (fun x0 x1 x2 x3 x4 x5 x6 x7 => lcStep (tD x0 x1 x2 x3 x4 x5 x6 x7) (eD x0 x1 x2 x3 x4 x5 x6 x7) S) R.bad (fun x0 x1 x2 x3 x4 x5 x6 x7 => by rw [e]; dsimp only; rw [ht, he]) rfl).trans ?_
  unfold un8
  split <;> rfl
/-- try -/
theorem bx_map {d : M σ} {k : σ → τ} (h : BX a E E1 d) (e : ∀ s, E1 s = E2 (k s)) : BX a E E2 (bnd d fun s => pur (k s)) := fun S => by
  rw [h S]
  unfold bnd
  cases d S with
  | ok s S => exact congrArg (RS.nx · S) (e s)
  | ex x S => rfl
  | bad => rfl
theorem bl_try {tst : Nat → Option Bool} {h : Xn → CS} {d : M σ} {hd : Xn → M σ} {E3 : Env} {E4 : σ → Env} (hi : i < E.length) (e : E.set i (some .xc) = E3) (hb : BX a E E1 d) (hh : ∀ y, Bl (h y) E3 E4 (hd y)) (hu : ∀ s, (E4 s).set i none = E1 s) : Bl (cTry i tst a h) E E1 (dTry tst E d fun y => bnd (hd y) fun s S => if noXc (E1 s) then .ok s S else .bad) := fun S => by
  unfold cTry dTry
  rw [hb S]
  cases d S with
  | ok s S => rfl
  | bad => rfl
  | ex x S =>
    show nrm (catchX i tst h x E S) = _
    unfold catchX
    dsimp only
    cases tst x.1 with
    | none => rfl
    | some k =>
      cases k with
      | false => rfl
      | true =>
        dsimp only
        rw [decide_eq_true hi, Bool.and_true, e]
        cases noXc E with
        | false => rfl
        | true =>
          have q := hh x S
          show nrm (unX i (h x E3 S)) = inX E1 (noEx (bindR (hd x S) _))
          cases q1 : h x E3 S with
          | nx ds S2 =>
            rw [q1] at q
            cases q2 : hd x S with
            | ok s S3 =>
              rw [q2] at q
              cases q
              show nrm (if noXc ((E4 s).set i none) = true then _ else _) = inX E1 (noEx (if noXc (E1 s) = true then _ else _))
              rw [hu]
              split <;> rfl
            | ex x S3 => rw [q2] at q; cases q
            | bad => rw [q2] at q; cases q
          | ex x' ds S2 => rw [q1] at q; cases q2 : hd x S with
            | ok s S2 => rw [q2] at q; cases q
            | ex x S2 => rfl
            | bad => rw [q2] at q; cases q
          | bad => rw [q1] at q; cases q2 : hd x S with
            | ok s S2 => rw [q2] at q; cases q
            | ex x S2 => rw [q2] at q; cases q
            | bad => rfl
          | rt w S' => rw [q1] at q; cases q2 : hd x S <;> (rw [q2] at q; cases q)
          | bk w S' => rw [q1] at q; cases q2 : hd x S <;> (rw [q2] at q; cases q)
          | ct w S' => rw [q1] at q; cases q2 : hd x S <;> (rw [q2] at q; cases q)
/-! ### ways out, and slots forgotten at a block's end -/
/-- never goes on -/
def Xt (a : CS) : Prop := ∀ E S ds S', a E S ≠ .nx ds S'
theorem xt_ret : Xt (cRet f) := fun E S ds S' h => by
  have h : liftR (f E S) E (fun w S => RS.rt w S) = .nx ds S' := h
  cases q : f E S <;> (rw [q] at h; cases h)
theorem xt_retV : Xt (cRetV i) := fun E S ds S' h => by
  unfold cRetV at h
  split at h <;> cases h
theorem xt_retN : Xt cRetN := fun E S ds S' h => nomatch h
theorem xt_raise {k : Nat} : Xt (cRaise k) := fun E S ds S' h => nomatch h
theorem xt_raiseN {k : Nat} {f : Str} {fe : CE} : Xt (cRaiseN k f fe) := fun E S ds S' h => by
  rw [rzn_eq] at h
  cases q : fe E S with
  | ex x S => rw [q] at h; cases h
  | bad => rw [q] at h; cases h
  | ok w S2 =>
    rw [q] at h
    dsimp only at h
    split at h <;> cases h
theorem xt_seq (h : Xt b) : Xt (cSeq a b) := fun E S ds S' q => by
  unfold cSeq at q
  cases q1 : a E S with
  | nx ds' S2 => rw [q1] at q; exact h _ _ _ _ q
  | rt w S2 => rw [q1] at q; cases q
  | bk w S2 => rw [q1] at q; cases q
  | ct w S2 => rw [q1] at q; cases q
  | ex x w S2 => rw [q1] at q; cases q
  | bad => rw [q1] at q; cases q
theorem xt_if (h : Xt a) (h' : Xt b) : Xt (cIfS t a b) := fun E S ds S' q => by
  have q : liftR (t E S) E (fun k S => if k then a E S else b E S) = .nx ds S' := q
  cases q1 : t E S with
  | ok k S2 =>
    rw [q1] at q
    cases k with
    | true => exact h _ _ _ _ q
    | false => exact h' _ _ _ _ q
  | ex x S2 => rw [q1] at q; cases q
  | bad => rw [q1] at q; cases q
theorem xt_frz (h : Xt a) : Xt (cFrz i a) := fun E S ds S' q => h _ _ _ _ q
theorem xt_kill {is : List Nat} (h : Xt a) : Xt (cKill is a) := fun E S ds S' q => by
  unfold cKill at q
  cases q1 : a E S with
  | nx ds' S2 => exact h _ _ _ _ q1
  | rt w S2 => rw [q1] at q; cases q
  | bk w S2 => rw [q1] at q; cases q
  | ct w S2 => rw [q1] at q; cases q
  | ex x w S2 => rw [q1] at q; cases q
  | bad => rw [q1] at q; cases q
theorem xt_eq (h : Xt a) (E : Env) (S : Store) : cSeq a b E S = a E S := by
  unfold cSeq
  cases q1 : a E S with
  | nx ds S2 => exact absurd q1 (h _ _ _ _)
  | _ => rfl
theorem ifx {E0 : Env} {is : List Nat} (h : Xt a) (he : killE is E = E0) (S : Store) : cSeq (cKill is (cIfS t a cSkip)) b E S = liftR (t E S) E fun k S => if k then a E S else b E0 S := by
  unfold cSeq cKill
  show (match killR is (liftR (t E S) E fun k S => if k then a E S else .nx E S) with
    | .nx ds' S' => b ds' S'
    | r => r) = _
  cases t E S with
  | ex x S => rfl
  | bad => rfl
  | ok k S =>
    cases k with
    | false => show b (killE is E) S = _; rw [he]; rfl
    | true =>
      show (match killR is (a E S) with
        | .nx ds' S' => b ds' S'
        | r => r) = a E S
      cases q : a E S with
      | nx ds S2 => exact absurd q (h _ _ _ _)
      | _ => rfl
theorem tl_ifx {E0 : Env} {is : List Nat} {c : M Bool} {d1 d2 : M Wv} (h : Xt a) (he : killE is E = E0) (ht : t E = c) (ha : Tl a E d1) (hb : Tl b E0 d2) : Tl (cSeq (cKill is (cIfS t a cSkip)) b) E (ift c d1 d2) := fun S => by
  rw [ifx h he, ht]
  unfold ift
  cases c S with
  | ex x S => rfl
  | bad => rfl
  | ok k S =>
    cases k with
    | true => exact ha S
    | false => exact hb S
theorem bo_ifx {E0 : Env} {is : List Nat} {c : M Bool} {d1 d2 : M (Out τ)} (h : Xt a) (he : killE is E = E0) (ht : t E = c) (ha : BO a E E2 d1) (hb : BO b E0 E2 d2) : BO (cSeq (cKill is (cIfS t a cSkip)) b) E E2 (ift c d1 d2) := fun S => by
  rw [ifx h he, ht]
  unfold ift
  cases c S with
  | ex x S => rfl
  | bad => rfl
  | ok k S =>
    cases k with
    | true => exact ha S
    | false => exact hb S
theorem bl_ifx {E0 : Env} {is : List Nat} {c : M Bool} {d1 d2 : M τ} (h : Xt a) (he : killE is E = E0) (ht : t E = c) (ha : Bl a E E2 d1) (hb : Bl b E0 E2 d2) : Bl (cSeq (cKill is (cIfS t a cSkip)) b) E E2 (ift c d1 d2) := fun S => by
  rw [ifx h he, ht]
  unfold ift
  cases c S with
  | ex x S => rfl
  | bad => rfl
  | ok k S =>
    cases k with
    | true => exact ha S
    | false => exact hb S
theorem kill_seq {is : List Nat} (S : Store) : cKill is (cSeq a b) E S = cSeq a (cKill is b) E S := by
  unfold cKill cSeq
  cases a E S <;> rfl
theorem kill_if {is : List Nat} (S : Store) : cKill is (cIfS t a b) E S = cIfS t (cKill is a) (cKill is b) E S := by
  show killR is (liftR (t E S) E fun k S => if k then a E S else b E S) = liftR (t E S) E fun k S => if k then cKill is a E S else cKill is b E S
  cases t E S with
  | ex x S => rfl
  | bad => rfl
  | ok k S => cases k <;> rfl
theorem bl_kseq {is : List Nat} {d : M τ} (h : Bl (cSeq a (cKill is b)) E E2 d) : Bl (cKill is (cSeq a b)) E E2 d := fun S => by rw [kill_seq]; exact h S
theorem bo_kseq {is : List Nat} {d : M (Out τ)} (h : BO (cSeq a (cKill is b)) E E2 d) : BO (cKill is (cSeq a b)) E E2 d := fun S => by rw [kill_seq]; exact h S
theorem bl_kif {is : List Nat} {d : M τ} (h : Bl (cIfS t (cKill is a) (cKill is b)) E E2 d) : Bl (cKill is (cIfS t a b)) E E2 d := fun S => by rw [kill_if]; exact h S
theorem bo_kif {is : List Nat} {d : M (Out τ)} (h : BO (cIfS t (cKill is a) (cKill is b)) E E2 d) : BO (cKill is (cIfS t a b)) E E2 d := fun S => by rw [kill_if]; exact h S
theorem bl_kskip {is : List Nat} {s : τ} (e : killE is E = E2 s) : Bl (cKill is cSkip) E E2 (pur s) := fun S => congrArg (RS.nx · S) e
theorem bo_kskip {is : List Nat} {s : τ} (e : killE is E = E2 s) : BO (cKill is cSkip) E E2 (pur (.nx s)) := fun S => congrArg (RS.nx · S) e
theorem bl_kx {is : List Nat} {d : M τ} (hx : Xt a) (h : Bl a E E2 d) : Bl (cKill is a) E E2 d := fun S => by
  rw [← h S]
  unfold cKill
  cases q : a E S with
  | nx ds S2 => exact absurd q (hx _ _ _ _)
  | _ => rfl
theorem bo_kx {is : List Nat} {d : M (Out τ)} (hx : Xt a) (h : BO a E E2 d) : BO (cKill is a) E E2 d := fun S => by
  rw [← h S]
  unfold cKill
  cases q : a E S with
  | nx ds S2 => exact absurd q (hx _ _ _ _)
  | _ => rfl
/-- frozen ahead of a statement -/
theorem tl_sfrz {d : M Wv} (w : Wv) (hw : E[i]? = some (some w)) (e : E.set i (some w.fzn) = E0) (h : Tl (cSeq a b) E0 d) : Tl (cSeq (cFrz i a) b) E d := fun S => by
  show outF (cSeq a b (frzE i E) S) = _
  rw [frz_set hw, e]
  exact h S
theorem bl_sfrz {d : M τ} (w : Wv) (hw : E[i]? = some (some w)) (e : E.set i (some w.fzn) = E0) (h : Bl (cSeq a b) E0 E2 d) : Bl (cSeq (cFrz i a) b) E E2 d := fun S => by
  show nrm (cSeq a b (frzE i E) S) = _
  rw [frz_set hw, e]
  exact h S
theorem bo_sfrz {d : M (Out τ)} (w : Wv) (hw : E[i]? = some (some w)) (e : E.set i (some w.fzn) = E0) (h : BO (cSeq a b) E0 E2 d) : BO (cSeq (cFrz i a) b) E E2 d := fun S => by
  show nrm (cSeq a b (frzE i E) S) = _
  rw [frz_set hw, e]
  exact h S
theorem bl_kfrz {is : List Nat} {d : M τ} (w : Wv) (hw : E[i]? = some (some w)) (e : E.set i (some w.fzn) = E0) (h : Bl (cKill is a) E0 E2 d) : Bl (cKill is (cFrz i a)) E E2 d := fun S => by
  show nrm (cKill is a (frzE i E) S) = _
  rw [frz_set hw, e]
  exact h S
theorem bo_kfrz {is : List Nat} {d : M (Out τ)} (w : Wv) (hw : E[i]? = some (some w)) (e : E.set i (some w.fzn) = E0) (h : BO (cKill is a) E0 E2 d) : BO (cKill is (cFrz i a)) E E2 d := fun S => by
  show nrm (cKill is a (frzE i E) S) = _
  rw [frz_set hw, e]
  exact h S
end
/-- the body of a def -/
theorem fn_code {n : Nat} {m : CS} {args : List D} {E : Env} {d : M Wv} (e : startE n args = E) (h : Tl m E d) (S : Store) : runF n m args S = d S := by
  rw [s_runF, e]
  exact h S
end Mir
namespace G
open PySem
def cnames : List Str := ["LotError", "NoWeights", "NoEntry", "NotHeld", "Twice", "NoLot", "NoWay", "NoPieces", "Late", "NoNumber", "NoText", "Entry", "Buy", "Sell", "Gift", "Give", "Split", "Parting", "Lot", "Way", "Eldest", "Newest", "Dearest", "Mean", "Sale", "Book", "LayingBook", "Ledger"]
end G
set_option Elab.async false
set_option linter.all false
set_option maxRecDepth 100000
set_option maxHeartbeats 4000000
/-! G_k01: mirrors and code, printed by gen2.py -/
namespace G

open PySem L2 Mir
-- part_of
def m_part_of : CS :=
    (cRet (cBin opDiv (cBin opMul (cBor 0) (cBor 1)) (cBor 2)))
def f_part_of : Fn := runF 3 m_part_of
def g_part_of (amount_1 : D) (part_2 : D) (whole_3 : D) : M Wv :=
 (dBin opDiv (opMul (Wv.fz amount_1) (Wv.fz part_2)) (pur (Wv.fz whole_3)))
theorem t_part_of (amount_1 : D) (part_2 : D) (whole_3 : D) : Tl m_part_of ([some (.fz amount_1), some (.fz part_2), some (.fz whole_3)] : Mir.Env) (g_part_of amount_1 part_2 whole_3) :=
 (tl_ret rfl)
theorem c_part_of (amount_1 : D) (part_2 : D) (whole_3 : D) (S : Store) : f_part_of [amount_1, part_2, whole_3] S = g_part_of amount_1 part_2 whole_3 S := fn_code rfl (t_part_of amount_1 part_2 whole_3) S
-- _law_whole
def m_whole_k01 : CS :=
    (cRet (cAndV (cUn (opIsTy "int") (cBor 0)) (cNotV (cUn (opIsTy "bool") (cBor 0)))))
def f_whole_k01 : Fn := runF 1 m_whole_k01
def g_whole_k01 (found_1 : D) : M Wv :=
 (dAndV ((opIsTy "int") (Wv.fz found_1)) (dNotV ((opIsTy "bool") (Wv.fz found_1))))
theorem t_whole_k01 (found_1 : D) : Tl m_whole_k01 ([some (.fz found_1)] : Mir.Env) (g_whole_k01 found_1) :=
 (tl_ret rfl)
theorem c_whole_k01 (found_1 : D) (S : Store) : f_whole_k01 [found_1] S = g_whole_k01 found_1 S := fn_code rfl (t_whole_k01 found_1) S
-- _law_digits
def m_digits_k01 : CS :=
    (cSeq (cSet 2 (cLst cNil))
    (cSeq (cKill [0, 1, 3] (cFor (cItems (cVar 1)) (.nm 3) (cSeq (cMut 2 "list" mAppend (cCons (cFz (cBin opMod (cBor 0) (cBor 3))) cNil))
      (cKill [3] (cSet 0 (cBin opDiv (cBor 0) (cBor 3)))))))
    (cRetV 2)))
def f_digits_k01 : Fn := runF 4 m_digits_k01
def g_digits_k01_l1 : D → (Wv × Wv) → M (Wv × Wv) := fun (base_9 : D) (s_8 : Wv × Wv) => (bnd (dMut "list" mAppend s_8.2 (dCons (dFz (dBin opMod (rd s_8.1) (pur (Wv.fz base_9)))) (pur []))) fun row_10 =>
 (bnd (dBin opDiv (rd s_8.1) (pur (Wv.fz base_9))) fun cell_11 => pur (cell_11, row_10)))
def g_digits_k01 (cell_1 : D) (bases_2 : D) : M Wv :=
 (bnd (dLst (pur [])) fun row_3 =>
 (bnd (bnd (dItems (pur bases_2)) fun items => forD g_digits_k01_l1 items ((Wv.fz cell_1), row_3)) fun s_12 =>
 (rd s_12.2)))
theorem t_digits_k01 (cell_1 : D) (bases_2 : D) : Tl m_digits_k01 ([some (.fz cell_1), some (.fz bases_2), none, none] : Mir.Env) (g_digits_k01 cell_1 bases_2) :=
 (tl_seq1 (E1 := (fun row_3 => ([some (.fz cell_1), some (.fz bases_2), some row_3, none] : Mir.Env))) (bl_set (E1 := (fun row_3 => ([some (.fz cell_1), some (.fz bases_2), some row_3, none] : Mir.Env))) (Nat.le_of_ble_eq_true rfl) rfl (fun _ => rfl)) (fun row_3 => (tl_seq1 (E1 := (fun (s_12 : (Wv × Wv)) => ([none, none, some s_12.2, none] : Mir.Env))) (bl_kill (E1 := (fun (s_12 : Wv × Wv) => ([some s_12.1, some (.fz bases_2), some s_12.2, none] : Mir.Env))) (E3 := (fun (s_12 : (Wv × Wv)) => ([none, none, some s_12.2, none] : Mir.Env))) (bl_for (Es := (fun (s_8 : Wv × Wv) => ([some s_8.1, some (.fz bases_2), some s_8.2, none] : Mir.Env))) ((Wv.fz cell_1), row_3) rfl rfl (sb_nm (E3 := fun base_9 (s_8 : (Wv × Wv)) => ([some s_8.1, some (.fz bases_2), some s_8.2, some (.fz base_9)] : Mir.Env)) (fun _ => (Nat.le_of_ble_eq_true rfl)) (fun _ _ => rfl) (fun base_9 s_8 => (bl_seq (E1 := (fun row_10 => ([some s_8.1, some (.fz bases_2), some row_10, some (.fz base_9)] : Mir.Env))) (bl_mut (w := s_8.2) (E1 := (fun row_10 => ([some s_8.1, some (.fz bases_2), some row_10, some (.fz base_9)] : Mir.Env))) rfl rfl (fun _ => rfl)) (fun row_10 => (bl_last (E1 := (fun (cell_11 : Wv) => ([some cell_11, some (.fz bases_2), some row_10, none] : Mir.Env))) (bl_kill (E1 := (fun cell_11 => ([some cell_11, some (.fz bases_2), some row_10, some (.fz base_9)] : Mir.Env))) (E3 := (fun (cell_11 : Wv) => ([some cell_11, some (.fz bases_2), some row_10, none] : Mir.Env))) (bl_set (E1 := (fun cell_11 => ([some cell_11, some (.fz bases_2), some row_10, some (.fz base_9)] : Mir.Env))) (Nat.le_of_ble_eq_true rfl) rfl (fun _ => rfl)) (fun _ => rfl)) (fun _ => rfl))))))) (fun _ => rfl)) (fun s_12 => (tl_retV (w := s_12.2) rfl)))))
theorem c_digits_k01 (cell_1 : D) (bases_2 : D) (S : Store) : f_digits_k01 [cell_1, bases_2] S = g_digits_k01 cell_1 bases_2 S := fn_code rfl (t_digits_k01 cell_1 bases_2) S
-- _law_mixed
def m_mixed_k01 : CS :=
    (cSeq (cKill [0, 1] (cSet 2 (cBin opMod (cBin opMul (cBin opAdd (cBin opAdd (cBor 0) (cBin opMul (cBin opMul (cUp (cC (.int 7919))) (cBor 1)) (cBor 1))) (cBor 1)) (cUp (cC (.int 982451653)))) (cUp (cC (.int 2305843009213693951))))))
    (cSeq (cSet 3 (cBin opMod (cBin opMul (cBor 2) (cUp (cC (.int 1000003)))) (cUp (cC (.int 1152921504606846883)))))
    (cRet (cBin opMul (cBin opMul (cBor 2) (cBor 3)) (cBin opAdd (cBin opAdd (cBin opDiv (cBor 2) (cUp (cC (.int 4096)))) (cBin opDiv (cBor 3) (cUp (cC (.int 64))))) (cUp (cC (.int 1))))))))
def f_mixed_k01 : Fn := runF 4 m_mixed_k01
def g_mixed_k01 (cell_1 : D) (k_2 : D) : M Wv :=
 (bnd (dBin opMod (dBin opMul (dBin opAdd (dBin opAdd (pur (Wv.fz cell_1)) (dBin opMul (opMul (Wv.fz (D.int 7919)) (Wv.fz k_2)) (pur (Wv.fz k_2)))) (pur (Wv.fz k_2))) (pur (Wv.fz (D.int 982451653)))) (pur (Wv.fz (D.int 2305843009213693951)))) fun number_3 =>
 (bnd (dBin opMod (dBin opMul (rd number_3) (pur (Wv.fz (D.int 1000003)))) (pur (Wv.fz (D.int 1152921504606846883)))) fun other_4 =>
 (dBin opMul (dBin opMul (rd number_3) (rd other_4)) (dBin opAdd (dBin opAdd (dBin opDiv (rd number_3) (pur (Wv.fz (D.int 4096)))) (dBin opDiv (rd other_4) (pur (Wv.fz (D.int 64))))) (pur (Wv.fz (D.int 1)))))))
theorem t_mixed_k01 (cell_1 : D) (k_2 : D) : Tl m_mixed_k01 ([some (.fz cell_1), some (.fz k_2), none, none] : Mir.Env) (g_mixed_k01 cell_1 k_2) :=
 (tl_seq1 (E1 := (fun (number_3 : Wv) => ([none, none, some number_3, none] : Mir.Env))) (bl_kill (E1 := (fun number_3 => ([some (.fz cell_1), some (.fz k_2), some number_3, none] : Mir.Env))) (E3 := (fun (number_3 : Wv) => ([none, none, some number_3, none] : Mir.Env))) (bl_set (E1 := (fun number_3 => ([some (.fz cell_1), some (.fz k_2), some number_3, none] : Mir.Env))) (Nat.le_of_ble_eq_true rfl) rfl (fun _ => rfl)) (fun _ => rfl)) (fun number_3 => (tl_seq1 (E1 := (fun other_4 => ([none, none, some number_3, some other_4] : Mir.Env))) (bl_set (E1 := (fun other_4 => ([none, none, some number_3, some other_4] : Mir.Env))) (Nat.le_of_ble_eq_true rfl) rfl (fun _ => rfl)) (fun other_4 => (tl_ret rfl)))))
theorem c_mixed_k01 (cell_1 : D) (k_2 : D) (S : Store) : f_mixed_k01 [cell_1, k_2] S = g_mixed_k01 cell_1 k_2 S := fn_code rfl (t_mixed_k01 cell_1 k_2) S
-- _law_cells
def m_cells_k01 : CS :=
    (cSeq (cKill [1] (cIfS (cAnd (cBin opGt (cBlt bLen (bCons (cBor 0) bNil)) (cUp (cC (.int 0)))) (cBin opEq (cBin opMod (cBin opSub2 (cBor 0) (cUp (cC (.int 0)))) (cUp (cC (.int 2)))) (cUp (cC (.int 1)))))
      (cSeq (cSet 1 (cBlt (bInt2 maxI) (bCons (cBlt (bInt2 minI) (bCons (cBlt bLen (bCons (cBor 0) bNil)) (bCons (cUp (cC (.int 63))) bNil))) (bCons (cBin opAdd (cUp (cC (.int 3))) (cBin opMod (cBin opDiv (cBin opSub2 (cBor 0) (cUp (cC (.int 0)))) (cUp (cC (.int 2)))) (cUp (cC (.int 61))))) bNil))))
      (cRet (cLc [3] (.nm 3) cYes (cFz (cCall f_mixed_k01 (cCons (cFz (cBin opSub2 (cBor 0) (cBin opMod (cBor 3) (cBlt bLen (bCons (cBor 0) bNil))))) (cCons (cVar 3) cNil)))) (cRng rng1 (cCons (cVar 1) cNil)))))
      cSkip))
    (cRet (cLc [2] (.nm 2) cYes (cFz (cBin opMod (cBor 2) (cBin opPow (cUp (cC (.int 10))) (cUp (cC (.int 60)))))) (cItems (cFz (cSl (cBor 0) cNoP (cPart (cUp (cC (.int 63))))))))))
def f_cells_k01 : Fn := runF 4 m_cells_k01
def g_cells_k01 (script_1 : D) : M Wv :=
 (ift (dAnd (dBin opGt (bLen [(Wv.fz script_1)]) (pur (Wv.fz (D.int 0)))) (dBin opEq (dBin opMod (opSub2 (Wv.fz script_1) (Wv.fz (D.int 0))) (pur (Wv.fz (D.int 2)))) (pur (Wv.fz (D.int 1)))))
 (bnd (bnd (dConsB (bnd (dConsB (bLen [(Wv.fz script_1)]) (pur [(Wv.fz (D.int 63))])) (bInt2 minI)) (dConsB (dBin opAdd (pur (Wv.fz (D.int 3))) (dBin opMod (dBin opDiv (opSub2 (Wv.fz script_1) (Wv.fz (D.int 0))) (pur (Wv.fz (D.int 2)))) (pur (Wv.fz (D.int 61))))) (pur []))) (bInt2 maxI)) fun many_2 =>
 (bnd (bnd (dCons (rdD many_2) (pur [])) rng1) fun items => lcS (fun k_3 => lcStep (pur true) (dFz (dCall f_mixed_k01 (dCons (dFz (dBin opSub2 (pur (Wv.fz script_1)) (dBin opMod (pur (Wv.fz k_3)) (bLen [(Wv.fz script_1)])))) (pur [k_3]))))) items []))
 (bnd (dItems (dFz (dSl (pur (Wv.fz script_1)) (pur none) (dPart (pur (Wv.fz (D.int 63))))))) fun items => lcS (fun cell_5 => lcStep (pur true) (dFz (dBin opMod (pur (Wv.fz cell_5)) (opPow (Wv.fz (D.int 10)) (Wv.fz (D.int 60)))))) items []))
theorem t_cells_k01 (script_1 : D) : Tl m_cells_k01 ([some (.fz script_1), none, none, none] : Mir.Env) (g_cells_k01 script_1) :=
 (tl_ifx (E0 := ([some (.fz script_1), none, none, none] : Mir.Env)) (xt_seq xt_ret) rfl rfl (tl_seq1 (E1 := (fun many_2 => ([some (.fz script_1), some many_2, none, none] : Mir.Env))) (bl_set (E1 := (fun many_2 => ([some (.fz script_1), some many_2, none, none] : Mir.Env))) (Nat.le_of_ble_eq_true rfl) rfl (fun _ => rfl)) (fun many_2 => (tl_ret (congrArg (fun h_4 => h_4) (show ((cLc [3] (.nm 3) cYes (cFz (cCall f_mixed_k01 (cCons (cFz (cBin opSub2 (cBor 0) (cBin opMod (cBor 3) (cBlt bLen (bCons (cBor 0) bNil))))) (cCons (cVar 3) cNil)))) (cRng rng1 (cCons (cVar 1) cNil))) : CE) ([some (.fz script_1), some many_2, none, none] : Mir.Env) = (bnd (bnd (dCons (rdD many_2) (pur [])) rng1) fun items => lcS (fun k_3 => lcStep (pur true) (dFz (dCall f_mixed_k01 (dCons (dFz (dBin opSub2 (pur (Wv.fz script_1)) (dBin opMod (pur (Wv.fz k_3)) (bLen [(Wv.fz script_1)])))) (pur [k_3]))))) items []) from (lc_nm (E3 := fun k_3 => ([some (.fz script_1), some many_2, none, some (.fz k_3)] : Mir.Env)) (Nat.le_of_ble_eq_true rfl) (fun _ => rfl) rfl (fun k_3 => rfl) (fun k_3 => rfl))))))) (tl_ret (congrArg (fun h_6 => h_6) (show ((cLc [2] (.nm 2) cYes (cFz (cBin opMod (cBor 2) (cBin opPow (cUp (cC (.int 10))) (cUp (cC (.int 60)))))) (cItems (cFz (cSl (cBor 0) cNoP (cPart (cUp (cC (.int 63)))))))) : CE) ([some (.fz script_1), none, none, none] : Mir.Env) = (bnd (dItems (dFz (dSl (pur (Wv.fz script_1)) (pur none) (dPart (pur (Wv.fz (D.int 63))))))) fun items => lcS (fun cell_5 => lcStep (pur true) (dFz (dBin opMod (pur (Wv.fz cell_5)) (opPow (Wv.fz (D.int 10)) (Wv.fz (D.int 60)))))) items []) from (lc_nm (E3 := fun cell_5 => ([some (.fz script_1), none, some (.fz cell_5), none] : Mir.Env)) (Nat.le_of_ble_eq_true rfl) (fun _ => rfl) rfl (fun cell_5 => rfl) (fun cell_5 => rfl))))))
theorem c_cells_k01 (script_1 : D) (S : Store) : f_cells_k01 [script_1] S = g_cells_k01 script_1 S := fn_code rfl (t_cells_k01 script_1) S
end G
set_option Elab.async false
set_option linter.all false
set_option maxRecDepth 100000
set_option maxHeartbeats 4000000
/-! G_k02: mirrors and code, printed by gen2.py -/
namespace G

open PySem L2 Mir
-- _law_cell_at
def m_cell_at_k02 : CS :=
    (cSeq (cKill [0, 1] (cIfS (cBin opLt (cBor 1) (cBlt bLen (bCons (cBor 0) bNil)))
      (cRet (cBin opSub2 (cBor 0) (cBor 1)))
      cSkip))
    (cRet (cUp (cC (.int 0)))))
def f_cell_at_k02 : Fn := runF 2 m_cell_at_k02
def g_cell_at_k02 (script_1 : D) (k_2 : D) : M Wv :=
 (ift (dBin opLt (pur (Wv.fz k_2)) (bLen [(Wv.fz script_1)]))
 (opSub2 (Wv.fz script_1) (Wv.fz k_2))
 (pur (Wv.fz (D.int 0))))
theorem t_cell_at_k02 (script_1 : D) (k_2 : D) : Tl m_cell_at_k02 ([some (.fz script_1), some (.fz k_2)] : Mir.Env) (g_cell_at_k02 script_1 k_2) :=
 (tl_ifx (E0 := ([none, none] : Mir.Env)) xt_ret rfl rfl (tl_ret rfl) (tl_ret rfl))
theorem c_cell_at_k02 (script_1 : D) (k_2 : D) (S : Store) : f_cell_at_k02 [script_1, k_2] S = g_cell_at_k02 script_1 k_2 S := fn_code rfl (t_cell_at_k02 script_1 k_2) S
-- dealt
def m_dealt : CS :=
    (cSeq (cSet 2 (cBlt bSum (bCons (cBor 1) bNil)))
    (cSeq (cKill [] (cIfS (cOr (cBin opLe (cBor 2) (cUp (cC (.int 0)))) (cBin opLt (cBlt (bIntL minL) (bCons (cBor 1) bNil)) (cUp (cC (.int 0)))))
      (cRaise 1)
      cSkip))
    (cSeq (cSet 3 (cLst cNil))
    (cSeq (cSet 4 (cUp (cC (.int 0))))
    (cSeq (cSet 5 (cUp (cC (.int 0))))
    (cSeq (cKill [0, 1, 2, 4, 5, 6, 7] (cFor (cItems (cVar 1)) (.nm 6) (cSeq (cKill [6] (cAug 4 (int2 (fun _ _ => true) fun i j => .int (i + j)) (cBor 6)))
      (cSeq (cSet 7 (cCall f_part_of (cCons (cVar 0) (cCons (cVar 4) (cCons (cVar 2) cNil)))))
      (cSeq (cKill [5] (cMut 3 "list" mAppend (cCons (cFz (cBin opSub (cBor 7) (cBor 5))) cNil)))
      (cKill [7] (cSet 5 (cUp (cVar 7)))))))))
    (cRetV 3)))))))
def f_dealt : Fn := runF 8 m_dealt
def g_dealt_l1 (amount_1 : D) (total_3 : Wv) : D → (Wv × Wv × Wv) → M (Wv × Wv × Wv) := fun (weight_13 : D) (s_12 : Wv × Wv × Wv) => (bnd (dAug (int2 (fun _ _ => true) fun i j => .int (i + j)) s_12.2.1 (pur (Wv.fz weight_13))) fun ahead_14 =>
 (bnd (dCall f_part_of (dCons (pur amount_1) (dCons (rdD ahead_14) (dCons (rdD total_3) (pur []))))) fun here_15 =>
 (bnd (dMut "list" mAppend s_12.1 (dCons (dFz (dBin opSub (rd here_15) (rd s_12.2.2))) (pur []))) fun shares_16 =>
 (bnd (dUp (rdD here_15)) fun done_17 => pur (shares_16, ahead_14, done_17)))))
def g_dealt (amount_1 : D) (weights_2 : D) : M Wv :=
 (bnd (bSum [(Wv.fz weights_2)]) fun total_3 =>
 (ift (dOr (dBin opLe (rd total_3) (pur (Wv.fz (D.int 0)))) (dBin opLt ((bIntL minL) [(Wv.fz weights_2)]) (pur (Wv.fz (D.int 0)))))
 (dRaise 1)
 (bnd (dLst (pur [])) fun shares_4 =>
 (bnd (pur (Wv.fz (D.int 0))) fun ahead_5 =>
 (bnd (pur (Wv.fz (D.int 0))) fun done_6 =>
 (bnd (bnd (dItems (pur weights_2)) fun items => forD (g_dealt_l1 amount_1 total_3) items (shares_4, ahead_5, done_6)) fun s_18 =>
 (rd s_18.1)))))))
theorem t_dealt (amount_1 : D) (weights_2 : D) : Tl m_dealt ([some (.fz amount_1), some (.fz weights_2), none, none, none, none, none, none] : Mir.Env) (g_dealt amount_1 weights_2) :=
 (tl_seq1 (E1 := (fun total_3 => ([some (.fz amount_1), some (.fz weights_2), some total_3, none, none, none, none, none] : Mir.Env))) (bl_set (E1 := (fun total_3 => ([some (.fz amount_1), some (.fz weights_2), some total_3, none, none, none, none, none] : Mir.Env))) (Nat.le_of_ble_eq_true rfl) rfl (fun _ => rfl)) (fun total_3 => (tl_ifx (E0 := ([some (.fz amount_1), some (.fz weights_2), some total_3, none, none, none, none, none] : Mir.Env)) xt_raise rfl rfl tl_raise (tl_seq1 (E1 := (fun shares_4 => ([some (.fz amount_1), some (.fz weights_2), some total_3, some shares_4, none, none, none, none] : Mir.Env))) (bl_set (E1 := (fun shares_4 => ([some (.fz amount_1), some (.fz weights_2), some total_3, some shares_4, none, none, none, none] : Mir.Env))) (Nat.le_of_ble_eq_true rfl) rfl (fun _ => rfl)) (fun shares_4 => (tl_seq1 (E1 := (fun ahead_5 => ([some (.fz amount_1), some (.fz weights_2), some total_3, some shares_4, some ahead_5, none, none, none] : Mir.Env))) (bl_set (E1 := (fun ahead_5 => ([some (.fz amount_1), some (.fz weights_2), some total_3, some shares_4, some ahead_5, none, none, none] : Mir.Env))) (Nat.le_of_ble_eq_true rfl) rfl (fun _ => rfl)) (fun ahead_5 => (tl_seq1 (E1 := (fun done_6 => ([some (.fz amount_1), some (.fz weights_2), some total_3, some shares_4, some ahead_5, some done_6, none, none] : Mir.Env))) (bl_set (E1 := (fun done_6 => ([some (.fz amount_1), some (.fz weights_2), some total_3, some shares_4, some ahead_5, some done_6, none, none] : Mir.Env))) (Nat.le_of_ble_eq_true rfl) rfl (fun _ => rfl)) (fun done_6 => (tl_seq1 (E1 := (fun (s_18 : (Wv × Wv × Wv)) => ([none, none, none, some s_18.1, none, none, none, none] : Mir.Env))) (bl_kill (E1 := (fun (s_18 : Wv × Wv × Wv) => ([some (.fz amount_1), some (.fz weights_2), some total_3, some s_18.1, some s_18.2.1, some s_18.2.2, none, none] : Mir.Env))) (E3 := (fun (s_18 : (Wv × Wv × Wv)) => ([none, none, none, some s_18.1, none, none, none, none] : Mir.Env))) (bl_for (Es := (fun (s_12 : Wv × Wv × Wv) => ([some (.fz amount_1), some (.fz weights_2), some total_3, some s_12.1, some s_12.2.1, some s_12.2.2, none, none] : Mir.Env))) (shares_4, ahead_5, done_6) rfl rfl (sb_nm (E3 := fun weight_13 (s_12 : (Wv × Wv × Wv)) => ([some (.fz amount_1), some (.fz weights_2), some total_3, some s_12.1, some s_12.2.1, some s_12.2.2, some (.fz weight_13), none] : Mir.Env)) (fun _ => (Nat.le_of_ble_eq_true rfl)) (fun _ _ => rfl) (fun weight_13 s_12 => (bl_seq (E1 := (fun (ahead_14 : Wv) => ([some (.fz amount_1), some (.fz weights_2), some total_3, some s_12.1, some ahead_14, some s_12.2.2, none, none] : Mir.Env))) (bl_kill (E1 := (fun ahead_14 => ([some (.fz amount_1), some (.fz weights_2), some total_3, some s_12.1, some ahead_14, some s_12.2.2, some (.fz weight_13), none] : Mir.Env))) (E3 := (fun (ahead_14 : Wv) => ([some (.fz amount_1), some (.fz weights_2), some total_3, some s_12.1, some ahead_14, some s_12.2.2, none, none] : Mir.Env))) (bl_aug (w := s_12.2.1) (E1 := (fun ahead_14 => ([some (.fz amount_1), some (.fz weights_2), some total_3, some s_12.1, some ahead_14, some s_12.2.2, some (.fz weight_13), none] : Mir.Env))) rfl rfl (fun _ => rfl)) (fun _ => rfl)) (fun ahead_14 => (bl_seq (E1 := (fun here_15 => ([some (.fz amount_1), some (.fz weights_2), some total_3, some s_12.1, some ahead_14, some s_12.2.2, none, some here_15] : Mir.Env))) (bl_set (E1 := (fun here_15 => ([some (.fz amount_1), some (.fz weights_2), some total_3, some s_12.1, some ahead_14, some s_12.2.2, none, some here_15] : Mir.Env))) (Nat.le_of_ble_eq_true rfl) rfl (fun _ => rfl)) (fun here_15 => (bl_seq (E1 := (fun (shares_16 : Wv) => ([some (.fz amount_1), some (.fz weights_2), some total_3, some shares_16, some ahead_14, none, none, some here_15] : Mir.Env))) (bl_kill (E1 := (fun shares_16 => ([some (.fz amount_1), some (.fz weights_2), some total_3, some shares_16, some ahead_14, some s_12.2.2, none, some here_15] : Mir.Env))) (E3 := (fun (shares_16 : Wv) => ([some (.fz amount_1), some (.fz weights_2), some total_3, some shares_16, some ahead_14, none, none, some here_15] : Mir.Env))) (bl_mut (w := s_12.1) (E1 := (fun shares_16 => ([some (.fz amount_1), some (.fz weights_2), some total_3, some shares_16, some ahead_14, some s_12.2.2, none, some here_15] : Mir.Env))) rfl rfl (fun _ => rfl)) (fun _ => rfl)) (fun shares_16 => (bl_last (E1 := (fun (done_17 : Wv) => ([some (.fz amount_1), some (.fz weights_2), some total_3, some shares_16, some ahead_14, some done_17, none, none] : Mir.Env))) (bl_kill (E1 := (fun done_17 => ([some (.fz amount_1), some (.fz weights_2), some total_3, some shares_16, some ahead_14, some done_17, none, some here_15] : Mir.Env))) (E3 := (fun (done_17 : Wv) => ([some (.fz amount_1), some (.fz weights_2), some total_3, some shares_16, some ahead_14, some done_17, none, none] : Mir.Env))) (bl_set (E1 := (fun done_17 => ([some (.fz amount_1), some (.fz weights_2), some total_3, some shares_16, some ahead_14, some done_17, none, some here_15] : Mir.Env))) (Nat.le_of_ble_eq_true rfl) rfl (fun _ => rfl)) (fun _ => rfl)) (fun _ => rfl))))))))))) (fun _ => rfl)) (fun s_18 => (tl_retV (w := s_18.1) rfl))))))))))))
theorem c_dealt (amount_1 : D) (weights_2 : D) (S : Store) : f_dealt [amount_1, weights_2] S = g_dealt amount_1 weights_2 S := fn_code rfl (t_dealt amount_1 weights_2) S
end G
set_option Elab.async false
set_option linter.all false
set_option maxRecDepth 100000
set_option maxHeartbeats 4000000
/-! G_k04: mirrors and code, printed by gen2.py -/
namespace G

open PySem L2 Mir
-- _law_joined
def m_joined_k04 : CS :=
    (cSeq (cSet 2 (cLst cNil))
    (cSeq (cSet 3 (cUp (cC (.int 0))))
    (cSeq (cKill [0, 1, 3, 4] (cFor (cItems (cFz (cBin opAdd (cBor 1) (cLst (cCons (cFz (cBlt bLen (bCons (cBor 0) bNil))) cNil))))) (.nm 4) (cSeq (cKill [3] (cMut 2 "list" mAppend (cCons (cFz (cBlt bSum (bCons (cSl (cBor 0) (cPart (cBor 3)) (cPart (cBor 4))) bNil))) cNil)))
      (cKill [4] (cSet 3 (cUp (cVar 4)))))))
    (cRetV 2))))
def f_joined_k04 : Fn := runF 5 m_joined_k04
def g_joined_k04_l1 (row_1 : D) : D → (Wv × Wv) → M (Wv × Wv) := fun (cut_10 : D) (s_9 : Wv × Wv) => (bnd (dMut "list" mAppend s_9.1 (dCons (dFz (bnd (dConsB (dSl (pur (Wv.fz row_1)) (dPart (rd s_9.2)) (dPart (pur (Wv.fz cut_10)))) (pur [])) bSum)) (pur []))) fun found_11 =>
 (bnd (pur (Wv.fz cut_10)) fun start_12 => pur (found_11, start_12)))
def g_joined_k04 (row_1 : D) (cuts_2 : D) : M Wv :=
 (bnd (dLst (pur [])) fun found_3 =>
 (bnd (pur (Wv.fz (D.int 0))) fun start_4 =>
 (bnd (bnd (dItems (dFz (dBin opAdd (pur (Wv.fz cuts_2)) (dLst (dCons (dFz (bLen [(Wv.fz row_1)])) (pur [])))))) fun items => forD (g_joined_k04_l1 row_1) items (found_3, start_4)) fun s_13 =>
 (rd s_13.1))))
theorem t_joined_k04 (row_1 : D) (cuts_2 : D) : Tl m_joined_k04 ([some (.fz row_1), some (.fz cuts_2), none, none, none] : Mir.Env) (g_joined_k04 row_1 cuts_2) :=
 (tl_seq1 (E1 := (fun found_3 => ([some (.fz row_1), some (.fz cuts_2), some found_3, none, none] : Mir.Env))) (bl_set (E1 := (fun found_3 => ([some (.fz row_1), some (.fz cuts_2), some found_3, none, none] : Mir.Env))) (Nat.le_of_ble_eq_true rfl) rfl (fun _ => rfl)) (fun found_3 => (tl_seq1 (E1 := (fun start_4 => ([some (.fz row_1), some (.fz cuts_2), some found_3, some start_4, none] : Mir.Env))) (bl_set (E1 := (fun start_4 => ([some (.fz row_1), some (.fz cuts_2), some found_3, some start_4, none] : Mir.Env))) (Nat.le_of_ble_eq_true rfl) rfl (fun _ => rfl)) (fun start_4 => (tl_seq1 (E1 := (fun (s_13 : (Wv × Wv)) => ([none, none, some s_13.1, none, none] : Mir.Env))) (bl_kill (E1 := (fun (s_13 : Wv × Wv) => ([some (.fz row_1), some (.fz cuts_2), some s_13.1, some s_13.2, none] : Mir.Env))) (E3 := (fun (s_13 : (Wv × Wv)) => ([none, none, some s_13.1, none, none] : Mir.Env))) (bl_for (Es := (fun (s_9 : Wv × Wv) => ([some (.fz row_1), some (.fz cuts_2), some s_9.1, some s_9.2, none] : Mir.Env))) (found_3, start_4) rfl rfl (sb_nm (E3 := fun cut_10 (s_9 : (Wv × Wv)) => ([some (.fz row_1), some (.fz cuts_2), some s_9.1, some s_9.2, some (.fz cut_10)] : Mir.Env)) (fun _ => (Nat.le_of_ble_eq_true rfl)) (fun _ _ => rfl) (fun cut_10 s_9 => (bl_seq (E1 := (fun (found_11 : Wv) => ([some (.fz row_1), some (.fz cuts_2), some found_11, none, some (.fz cut_10)] : Mir.Env))) (bl_kill (E1 := (fun found_11 => ([some (.fz row_1), some (.fz cuts_2), some found_11, some s_9.2, some (.fz cut_10)] : Mir.Env))) (E3 := (fun (found_11 : Wv) => ([some (.fz row_1), some (.fz cuts_2), some found_11, none, some (.fz cut_10)] : Mir.Env))) (bl_mut (w := s_9.1) (E1 := (fun found_11 => ([some (.fz row_1), some (.fz cuts_2), some found_11, some s_9.2, some (.fz cut_10)] : Mir.Env))) rfl rfl (fun _ => rfl)) (fun _ => rfl)) (fun found_11 => (bl_last (E1 := (fun (start_12 : Wv) => ([some (.fz row_1), some (.fz cuts_2), some found_11, some start_12, none] : Mir.Env))) (bl_kill (E1 := (fun start_12 => ([some (.fz row_1), some (.fz cuts_2), some found_11, some start_12, some (.fz cut_10)] : Mir.Env))) (E3 := (fun (start_12 : Wv) => ([some (.fz row_1), some (.fz cuts_2), some found_11, some start_12, none] : Mir.Env))) (bl_set (E1 := (fun start_12 => ([some (.fz row_1), some (.fz cuts_2), some found_11, some start_12, some (.fz cut_10)] : Mir.Env))) (Nat.le_of_ble_eq_true rfl) rfl (fun _ => rfl)) (fun _ => rfl)) (fun _ => rfl))))))) (fun _ => rfl)) (fun s_13 => (tl_retV (w := s_13.1) rfl)))))))
theorem c_joined_k04 (row_1 : D) (cuts_2 : D) (S : Store) : f_joined_k04 [row_1, cuts_2] S = g_joined_k04 row_1 cuts_2 S := fn_code rfl (t_joined_k04 row_1 cuts_2) S
-- law
def m_law_k04 : CS :=
    (cSeq (cSet 1 (cCall f_cells_k01 (cCons (cVar 0) cNil)))
    (cSeq (cSet 2 (cLst (cCons (cC (.int 1)) cNil)))
    (cSeq (cKill [3, 12, 13, 14] (cFor (cItems (cFz (cSl (cBor 1) cNoP (cPart (cUp (cC (.int 40))))))) (.nm 3) (cSeq (cKill [3] (cAsg (.tp [12, 13, 14]) (cCall f_digits_k01 (cCons (cVar 3) (cCons (cFz (cLst (cCons (cC (.int 3)) (cCons (cC (.int 4)) (cCons (cFz (cBin opAdd (cBin opPow (cUp (cC (.int 10))) (cUp (cC (.int 9)))) (cUp (cC (.int 1))))) cNil))))) cNil)))))
      (cKill [12, 13, 14] (cMut 2 "list" mAppend (cCons (cFz (cBin opSub2 (cLst (cCons (cC (.int 0)) (cCons (cVar 13) (cCons (cVar 14) cNil)))) (cBor 12))) cNil))))))
    (cSeq (cSet 4 (cBin opMul (cBin opSub2 (cBin opAdd (cBor 1) (cLst (cCons (cC (.int 100)) cNil))) (cUp (cC (.int 0)))) (cBin opSub2 (cLst (cCons (cC (.int 1)) (cCons (cFz (cUn opNeg (cUp (cC (.int 1))))) cNil))) (cBin opMod (cCall f_cell_at_k02 (cCons (cVar 0) (cCons (cC (.int 2)) cNil))) (cUp (cC (.int 2)))))))
    (cSeq (cSet 5 (cBlt bSum (bCons (cBor 2) bNil)))
    (cSeq (cSet 6 (cLend 2 (cCall f_dealt (cCons (cVar 4) (cCons (cVar 2) cNil)))))
    (cSeq (cFrz 6 (cFrz 2 (cKill [7, 8] (cFor (cZip (cCons (cVar 6) (cCons (cVar 2) cNil))) (.tp [7, 8]) (cKill [7, 8] (cIfS (cNot (cChain opLt opLt (cBin opMul (cBin opSub (cBor 7) (cUp (cC (.int 1)))) (cBor 5)) (cBin opMul (cBor 4) (cBor 8)) (cBin opMul (cBin opAdd (cBor 7) (cUp (cC (.int 1)))) (cBor 5))))
        (cRet (cUp (cC (.bl false))))
        cSkip))))))
    (cSeq (cKill [1] (cSet 9 (cUn opSrtSet (cLc [3] (.nm 3) cYes (cFz (cBin opAdd (cUp (cC (.int 1))) (cBin opMod (cBor 3) (cBlt bLen (bCons (cBor 2) bNil))))) (cItems (cFz (cSl (cBor 1) cNoP (cPart (cUp (cC (.int 9)))))))))))
    (cSeq (cFrz 9 (cKill [9] (cIfS (cBin (notM opEq) (cCall f_dealt (cCons (cVar 4) (cCons (cFz (cCall f_joined_k04 (cCons (cVar 2) (cCons (cVar 9) cNil)))) cNil))) (cCall f_joined_k04 (cCons (cVar 6) (cCons (cVar 9) cNil))))
      (cRet (cUp (cC (.bl false))))
      cSkip)))
    (cSeq (cKill [0] (cSet 10 (cBin opAdd (cUp (cC (.int 1))) (cBin opMod (cCall f_cell_at_k02 (cCons (cVar 0) (cCons (cC (.int 1)) cNil))) (cUp (cC (.int 1000)))))))
    (cSeq (cKill [10] (cIfS (cBin (notM opEq) (cCall f_dealt (cCons (cVar 4) (cCons (cFz (cLc [8] (.nm 8) cYes (cFz (cBin opMul (cBor 8) (cBor 10))) (cItems (cVar 2)))) cNil))) (cBor 6))
      (cRet (cUp (cC (.bl false))))
      cSkip))
    (cSeq (cKill [2, 4, 5, 6, 7, 8, 11] (cFor (cRng rng2 (cCons (cC (.int 1)) (cCons (cFz (cBin opAdd (cBlt bLen (bCons (cBor 2) bNil)) (cUp (cC (.int 1))))) cNil))) (.nm 11) (cSeq (cKill [] (cIfS (cBin (notM opEq) (cBlt bSum (bCons (cSl (cBor 6) cNoP (cPart (cBor 11))) bNil)) (cCall f_part_of (cCons (cVar 4) (cCons (cFz (cBlt bSum (bCons (cSl (cBor 2) cNoP (cPart (cBor 11))) bNil))) (cCons (cVar 5) cNil)))))
        (cRet (cUp (cC (.bl false))))
        cSkip))
      (cSeq (cSet 7 (cBin opSub2 (cBor 6) (cBin opSub (cBor 11) (cUp (cC (.int 1))))))
      (cSeq (cKill [11] (cSet 8 (cBin opSub2 (cBor 2) (cBin opSub (cBor 11) (cUp (cC (.int 1)))))))
      (cKill [7, 8] (cIfS (cAnd (cBin opGt (cBor 8) (cUp (cC (.int 0)))) (cBin (notM opEq) (cBlt bSum (bCons (cCall f_dealt (cCons (cVar 7) (cCons (cFz (cLst (cCons (cFz (cBin opDiv (cBor 8) (cUp (cC (.int 2))))) (cCons (cFz (cBin opSub (cBor 8) (cBin opDiv (cBor 8) (cUp (cC (.int 2)))))) cNil)))) cNil))) bNil)) (cBor 7)))
        (cRet (cUp (cC (.bl false))))
        cSkip)))))))
    (cRet (cUp (cC (.bl true))))))))))))))))
def f_law_k04 : Fn := runF 15 m_law_k04
def g_law_k04_l1 : D → Wv → M (Wv) := fun (cell_8 : D) (s_7 : Wv) => (bnd (bnd (dCall f_digits_k01 (dCons (pur cell_8) (dCons (dFz (dLst (dCons (pur (D.int 3)) (dCons (pur (D.int 4)) (dCons (dFz (dBin opAdd (opPow (Wv.fz (D.int 10)) (Wv.fz (D.int 9))) (pur (Wv.fz (D.int 1))))) (pur [])))))) (pur [])))) fun w => un3 w fun kind_10 small_11 great_12 => pur (kind_10, small_11, great_12)) fun s_9 =>
 (bnd (dMut "list" mAppend s_7 (dCons (dFz (dBin opSub2 (dLst (pur ((D.int 0) :: (s_9.2.1 :: [s_9.2.2])))) (pur (Wv.fz s_9.1)))) (pur []))) fun weights_13 => pur weights_13))
def g_law_k04_l2 (amount_15 : Wv) (total_16 : Wv) : D → Unit → M (Out (Unit)) := fun (d : D) (s_22 : Unit) => un2 (Wv.fz d) fun share_23 weight_24 => (bnO (ift (dNot (dChain opLt opLt (dBin opMul (opSub (Wv.fz share_23) (Wv.fz (D.int 1))) (rd total_16)) (dBin opMul (rd amount_15) (pur (Wv.fz weight_24))) (dBin opMul (opAdd (Wv.fz share_23) (Wv.fz (D.int 1))) (rd total_16))))
 (bnd (pur (Wv.fz (D.bl false))) fun w => pur (.rt w))
 (pur (.nx ()))) fun s_25 => pur (.nx ()))
def g_law_k04_l3 (s_14 : (Wv)) (amount_15 : Wv) (total_16 : Wv) (shares_17 : Wv) : D → Unit → M (Out (Unit)) := fun (k_35 : D) (s_34 : Unit) => (ift (dBin (notM opEq) (bnd (dConsB (dSl (rd shares_17.fzn) (pur none) (dPart (pur (Wv.fz k_35)))) (pur [])) bSum) (dCall f_part_of (dCons (rdD amount_15) (dCons (dFz (bnd (dConsB (dSl (rd s_14.fzn) (pur none) (dPart (pur (Wv.fz k_35)))) (pur [])) bSum)) (dCons (rdD total_16) (pur []))))))
 (bnd (pur (Wv.fz (D.bl false))) fun w => pur (.rt w))
 (bnd (dBin opSub2 (rd shares_17.fzn) (opSub (Wv.fz k_35) (Wv.fz (D.int 1)))) fun share_36 =>
 (bnd (dBin opSub2 (rd s_14.fzn) (opSub (Wv.fz k_35) (Wv.fz (D.int 1)))) fun weight_37 =>
 (bnO (ift (dAnd (dBin opGt (rd weight_37) (pur (Wv.fz (D.int 0)))) (dBin (notM opEq) (bnd (dConsB (dCall f_dealt (dCons (rdD share_36) (dCons (dFz (dLst (dCons (dFz (dBin opDiv (rd weight_37) (pur (Wv.fz (D.int 2))))) (dCons (dFz (dBin opSub (rd weight_37) (dBin opDiv (rd weight_37) (pur (Wv.fz (D.int 2)))))) (pur []))))) (pur [])))) (pur [])) bSum) (rd share_36)))
 (bnd (pur (Wv.fz (D.bl false))) fun w => pur (.rt w))
 (pur (.nx ()))) fun s_38 => pur (.nx ())))))
def g_law_k04 (script_1 : D) : M Wv :=
 (bnd (f_cells_k01 [script_1]) fun cells_here_2 =>
 (bnd (dLst (pur [(D.int 1)])) fun weights_3 =>
 (bnd (bnd (dItems (dFz (dSl (rd cells_here_2) (pur none) (dPart (pur (Wv.fz (D.int 40))))))) fun items => forD g_law_k04_l1 items weights_3) fun s_14 =>
 (bnd (dBin opMul (dBin opSub2 (dBin opAdd (rd cells_here_2) (dLst (pur [(D.int 100)]))) (pur (Wv.fz (D.int 0)))) (dBin opSub2 (dLst (dCons (pur (D.int 1)) (dCons (dFz (opNeg (Wv.fz (D.int 1)))) (pur [])))) (dBin opMod (f_cell_at_k02 (script_1 :: [(D.int 2)])) (pur (Wv.fz (D.int 2)))))) fun amount_15 =>
 (bnd (bnd (dConsB (rd s_14) (pur [])) bSum) fun total_16 =>
 (bnd (dLend s_14 noLstW fun weights_18 => (dCall f_dealt (dCons (rdD amount_15) (dCons (rdD weights_18) (pur []))))) fun shares_17 =>
 (bnT (bnd (bnd (dCons (rdD shares_17.fzn) (dCons (rdD s_14.fzn) (pur []))) zipO) fun items => forO (g_law_k04_l2 amount_15 total_16) items ()) fun s_26 =>
 (bnd (dUn opSrtSet (bnd (dItems (dFz (dSl (rd cells_here_2) (pur none) (dPart (pur (Wv.fz (D.int 9))))))) fun items => lcS (fun cell_28 => lcStep (pur true) (dFz (dBin opAdd (pur (Wv.fz (D.int 1))) (dBin opMod (pur (Wv.fz cell_28)) (bnd (dConsB (rd s_14.fzn) (pur [])) bLen))))) items [])) fun cuts_27 =>
 (ift (dBin (notM opEq) (dCall f_dealt (dCons (rdD amount_15) (dCons (dFz (dCall f_joined_k04 (dCons (rdD s_14.fzn) (dCons (rdD cuts_27.fzn) (pur []))))) (pur [])))) (dCall f_joined_k04 (dCons (rdD shares_17.fzn) (dCons (rdD cuts_27.fzn) (pur [])))))
 (pur (Wv.fz (D.bl false)))
 (bnd (dBin opAdd (pur (Wv.fz (D.int 1))) (dBin opMod (f_cell_at_k02 (script_1 :: [(D.int 1)])) (pur (Wv.fz (D.int 1000))))) fun times_30 =>
 (ift (dBin (notM opEq) (dCall f_dealt (dCons (rdD amount_15) (dCons (dFz (bnd (dItems (rdD s_14.fzn)) fun items => lcS (fun weight_31 => lcStep (pur true) (dFz (dBin opMul (pur (Wv.fz weight_31)) (rd times_30)))) items [])) (pur [])))) (rd shares_17.fzn))
 (pur (Wv.fz (D.bl false)))
 (bnT (bnd (bnd (dCons (pur (D.int 1)) (dCons (dFz (dBin opAdd (bnd (dConsB (rd s_14.fzn) (pur [])) bLen) (pur (Wv.fz (D.int 1))))) (pur []))) rng2) fun items => forO (g_law_k04_l3 s_14 amount_15 total_16 shares_17) items ()) fun s_39 =>
 (pur (Wv.fz (D.bl true)))))))))))))))
theorem t_law_k04 (script_1 : D) : Tl m_law_k04 ([some (.fz script_1), none, none, none, none, none, none, none, none, none, none, none, none, none, none] : Mir.Env) (g_law_k04 script_1) :=
 (tl_seq1 (E1 := (fun cells_here_2 => ([some (.fz script_1), some cells_here_2, none, none, none, none, none, none, none, none, none, none, none, none, none] : Mir.Env))) (bl_set (E1 := (fun cells_here_2 => ([some (.fz script_1), some cells_here_2, none, none, none, none, none, none, none, none, none, none, none, none, none] : Mir.Env))) (Nat.le_of_ble_eq_true rfl) rfl (fun _ => rfl)) (fun cells_here_2 => (tl_seq1 (E1 := (fun weights_3 => ([some (.fz script_1), some cells_here_2, some weights_3, none, none, none, none, none, none, none, none, none, none, none, none] : Mir.Env))) (bl_set (E1 := (fun weights_3 => ([some (.fz script_1), some cells_here_2, some weights_3, none, none, none, none, none, none, none, none, none, none, none, none] : Mir.Env))) (Nat.le_of_ble_eq_true rfl) rfl (fun _ => rfl)) (fun weights_3 => (tl_seq1 (E1 := (fun (s_14 : (Wv)) => ([some (.fz script_1), some cells_here_2, some s_14, none, none, none, none, none, none, none, none, none, none, none, none] : Mir.Env))) (bl_kill (E1 := (fun (s_14 : Wv) => ([some (.fz script_1), some cells_here_2, some s_14, none, none, none, none, none, none, none, none, none, none, none, none] : Mir.Env))) (E3 := (fun (s_14 : (Wv)) => ([some (.fz script_1), some cells_here_2, some s_14, none, none, none, none, none, none, none, none, none, none, none, none] : Mir.Env))) (bl_for (Es := (fun (s_7 : Wv) => ([some (.fz script_1), some cells_here_2, some s_7, none, none, none, none, none, none, none, none, none, none, none, none] : Mir.Env))) weights_3 rfl rfl (sb_nm (E3 := fun cell_8 (s_7 : (Wv)) => ([some (.fz script_1), some cells_here_2, some s_7, some (.fz cell_8), none, none, none, none, none, none, none, none, none, none, none] : Mir.Env)) (fun _ => (Nat.le_of_ble_eq_true rfl)) (fun _ _ => rfl) (fun cell_8 s_7 => (bl_seq (E1 := (fun (s_9 : (D × D × D)) => ([some (.fz script_1), some cells_here_2, some s_7, none, none, none, none, none, none, none, none, none, some (.fz s_9.1), some (.fz s_9.2.1), some (.fz s_9.2.2)] : Mir.Env))) (bl_kill (E1 := (fun (s_9 : D × D × D) => ([some (.fz script_1), some cells_here_2, some s_7, some (.fz cell_8), none, none, none, none, none, none, none, none, some (.fz s_9.1), some (.fz s_9.2.1), some (.fz s_9.2.2)] : Mir.Env))) (E3 := (fun (s_9 : (D × D × D)) => ([some (.fz script_1), some cells_here_2, some s_7, none, none, none, none, none, none, none, none, none, some (.fz s_9.1), some (.fz s_9.2.1), some (.fz s_9.2.2)] : Mir.Env))) (bl_asg3 (E3 := (fun (s_9 : D × D × D) => ([some (.fz script_1), some cells_here_2, some s_7, some (.fz cell_8), none, none, none, none, none, none, none, none, some (.fz s_9.1), some (.fz s_9.2.1), some (.fz s_9.2.2)] : Mir.Env))) (Nat.le_of_ble_eq_true rfl) (Nat.le_of_ble_eq_true rfl) (Nat.le_of_ble_eq_true rfl) rfl (fun _ _ _ => rfl)) (fun _ => rfl)) (fun s_9 => (bl_last (E1 := (fun (weights_13 : Wv) => ([some (.fz script_1), some cells_here_2, some weights_13, none, none, none, none, none, none, none, none, none, none, none, none] : Mir.Env))) (bl_kill (E1 := (fun weights_13 => ([some (.fz script_1), some cells_here_2, some weights_13, none, none, none, none, none, none, none, none, none, some (.fz s_9.1), some (.fz s_9.2.1), some (.fz s_9.2.2)] : Mir.Env))) (E3 := (fun (weights_13 : Wv) => ([some (.fz script_1), some cells_here_2, some weights_13, none, none, none, none, none, none, none, none, none, none, none, none] : Mir.Env))) (bl_mut (w := s_7) (E1 := (fun weights_13 => ([some (.fz script_1), some cells_here_2, some weights_13, none, none, none, none, none, none, none, none, none, some (.fz s_9.1), some (.fz s_9.2.1), some (.fz s_9.2.2)] : Mir.Env))) rfl rfl (fun _ => rfl)) (fun _ => rfl)) (fun _ => rfl))))))) (fun _ => rfl)) (fun s_14 => (tl_seq1 (E1 := (fun amount_15 => ([some (.fz script_1), some cells_here_2, some s_14, none, some amount_15, none, none, none, none, none, none, none, none, none, none] : Mir.Env))) (bl_set (E1 := (fun amount_15 => ([some (.fz script_1), some cells_here_2, some s_14, none, some amount_15, none, none, none, none, none, none, none, none, none, none] : Mir.Env))) (Nat.le_of_ble_eq_true rfl) rfl (fun _ => rfl)) (fun amount_15 => (tl_seq1 (E1 := (fun total_16 => ([some (.fz script_1), some cells_here_2, some s_14, none, some amount_15, some total_16, none, none, none, none, none, none, none, none, none] : Mir.Env))) (bl_set (E1 := (fun total_16 => ([some (.fz script_1), some cells_here_2, some s_14, none, some amount_15, some total_16, none, none, none, none, none, none, none, none, none] : Mir.Env))) (Nat.le_of_ble_eq_true rfl) rfl (fun _ => rfl)) (fun total_16 => (tl_seq1 (E1 := (fun shares_17 => ([some (.fz script_1), some cells_here_2, some s_14, none, some amount_15, some total_16, some shares_17, none, none, none, none, none, none, none, none] : Mir.Env))) (bl_set (E1 := (fun shares_17 => ([some (.fz script_1), some cells_here_2, some s_14, none, some amount_15, some total_16, some shares_17, none, none, none, none, none, none, none, none] : Mir.Env))) (Nat.le_of_ble_eq_true rfl) (congrArg (fun h_19 => h_19) (show ((cLend 2 (cCall f_dealt (cCons (cVar 4) (cCons (cVar 2) cNil)))) : CE) ([some (.fz script_1), some cells_here_2, some s_14, none, some amount_15, some total_16, none, none, none, none, none, none, none, none, none] : Mir.Env) = (dLend s_14 noLstW fun weights_18 => (dCall f_dealt (dCons (rdD amount_15) (dCons (rdD weights_18) (pur []))))) from lend_eq s_14 rfl (fun weights_18 => rfl))) (fun _ => rfl)) (fun shares_17 => (tl_sfrz (E0 := ([some (.fz script_1), some cells_here_2, some s_14, none, some amount_15, some total_16, some shares_17.fzn, none, none, none, none, none, none, none, none] : Mir.Env)) shares_17 rfl rfl (tl_sfrz (E0 := ([some (.fz script_1), some cells_here_2, some s_14.fzn, none, some amount_15, some total_16, some shares_17.fzn, none, none, none, none, none, none, none, none] : Mir.Env)) s_14 rfl rfl (tl_seq (E1 := (fun (s_26 : (Unit)) => ([some (.fz script_1), some cells_here_2, some s_14.fzn, none, some amount_15, some total_16, some shares_17.fzn, none, none, none, none, none, none, none, none] : Mir.Env))) (bo_kill (E1 := (fun (s_26 : Unit) => ([some (.fz script_1), some cells_here_2, some s_14.fzn, none, some amount_15, some total_16, some shares_17.fzn, none, none, none, none, none, none, none, none] : Mir.Env))) (E3 := (fun (s_26 : (Unit)) => ([some (.fz script_1), some cells_here_2, some s_14.fzn, none, some amount_15, some total_16, some shares_17.fzn, none, none, none, none, none, none, none, none] : Mir.Env))) (bo_for (Es := (fun (s_22 : Unit) => ([some (.fz script_1), some cells_here_2, some s_14.fzn, none, some amount_15, some total_16, some shares_17.fzn, none, none, none, none, none, none, none, none] : Mir.Env))) () rfl rfl (so_tp2 (E3 := fun share_23 weight_24 (s_22 : (Unit)) => ([some (.fz script_1), some cells_here_2, some s_14.fzn, none, some amount_15, some total_16, some shares_17.fzn, some (.fz share_23), some (.fz weight_24), none, none, none, none, none, none] : Mir.Env)) (bd := fun share_23 weight_24 (s_22 : (Unit)) => (bnO (ift (dNot (dChain opLt opLt (dBin opMul (opSub (Wv.fz share_23) (Wv.fz (D.int 1))) (rd total_16)) (dBin opMul (rd amount_15) (pur (Wv.fz weight_24))) (dBin opMul (opAdd (Wv.fz share_23) (Wv.fz (D.int 1))) (rd total_16))))
 (bnd (pur (Wv.fz (D.bl false))) fun w => pur (.rt w))
 (pur (.nx ()))) fun s_25 => pur (.nx ()))) (fun _ => ⟨(Nat.le_of_ble_eq_true rfl), (Nat.le_of_ble_eq_true rfl)⟩) (fun _ _ _ => rfl) (fun share_23 weight_24 s_22 => (bo_last (E1 := (fun (s_25 : Unit) => ([some (.fz script_1), some cells_here_2, some s_14.fzn, none, some amount_15, some total_16, some shares_17.fzn, none, none, none, none, none, none, none, none] : Mir.Env))) (bo_kif (bo_if rfl (bo_kx xt_ret (bo_ret rfl)) (bo_kskip rfl))) (fun _ => rfl))))) (fun _ => rfl)) (fun s_26 => (tl_seq1 (E1 := (fun (cuts_27 : Wv) => ([some (.fz script_1), none, some s_14.fzn, none, some amount_15, some total_16, some shares_17.fzn, none, none, some cuts_27, none, none, none, none, none] : Mir.Env))) (bl_kill (E1 := (fun cuts_27 => ([some (.fz script_1), some cells_here_2, some s_14.fzn, none, some amount_15, some total_16, some shares_17.fzn, none, none, some cuts_27, none, none, none, none, none] : Mir.Env))) (E3 := (fun (cuts_27 : Wv) => ([some (.fz script_1), none, some s_14.fzn, none, some amount_15, some total_16, some shares_17.fzn, none, none, some cuts_27, none, none, none, none, none] : Mir.Env))) (bl_set (E1 := (fun cuts_27 => ([some (.fz script_1), some cells_here_2, some s_14.fzn, none, some amount_15, some total_16, some shares_17.fzn, none, none, some cuts_27, none, none, none, none, none] : Mir.Env))) (Nat.le_of_ble_eq_true rfl) (congrArg (fun h_29 => (dUn opSrtSet h_29)) (show ((cLc [3] (.nm 3) cYes (cFz (cBin opAdd (cUp (cC (.int 1))) (cBin opMod (cBor 3) (cBlt bLen (bCons (cBor 2) bNil))))) (cItems (cFz (cSl (cBor 1) cNoP (cPart (cUp (cC (.int 9)))))))) : CE) ([some (.fz script_1), some cells_here_2, some s_14.fzn, none, some amount_15, some total_16, some shares_17.fzn, none, none, none, none, none, none, none, none] : Mir.Env) = (bnd (dItems (dFz (dSl (rd cells_here_2) (pur none) (dPart (pur (Wv.fz (D.int 9))))))) fun items => lcS (fun cell_28 => lcStep (pur true) (dFz (dBin opAdd (pur (Wv.fz (D.int 1))) (dBin opMod (pur (Wv.fz cell_28)) (bnd (dConsB (rd s_14.fzn) (pur [])) bLen))))) items []) from (lc_nm (E3 := fun cell_28 => ([some (.fz script_1), some cells_here_2, some s_14.fzn, some (.fz cell_28), some amount_15, some total_16, some shares_17.fzn, none, none, none, none, none, none, none, none] : Mir.Env)) (Nat.le_of_ble_eq_true rfl) (fun _ => rfl) rfl (fun cell_28 => rfl) (fun cell_28 => rfl)))) (fun _ => rfl)) (fun _ => rfl)) (fun cuts_27 => (tl_sfrz (E0 := ([some (.fz script_1), none, some s_14.fzn, none, some amount_15, some total_16, some shares_17.fzn, none, none, some cuts_27.fzn, none, none, none, none, none] : Mir.Env)) cuts_27 rfl rfl (tl_ifx (E0 := ([some (.fz script_1), none, some s_14.fzn, none, some amount_15, some total_16, some shares_17.fzn, none, none, none, none, none, none, none, none] : Mir.Env)) xt_ret rfl rfl (tl_ret rfl) (tl_seq1 (E1 := (fun (times_30 : Wv) => ([none, none, some s_14.fzn, none, some amount_15, some total_16, some shares_17.fzn, none, none, none, some times_30, none, none, none, none] : Mir.Env))) (bl_kill (E1 := (fun times_30 => ([some (.fz script_1), none, some s_14.fzn, none, some amount_15, some total_16, some shares_17.fzn, none, none, none, some times_30, none, none, none, none] : Mir.Env))) (E3 := (fun (times_30 : Wv) => ([none, none, some s_14.fzn, none, some amount_15, some total_16, some shares_17.fzn, none, none, none, some times_30, none, none, none, none] : Mir.Env))) (bl_set (E1 := (fun times_30 => ([some (.fz script_1), none, some s_14.fzn, none, some amount_15, some total_16, some shares_17.fzn, none, none, none, some times_30, none, none, none, none] : Mir.Env))) (Nat.le_of_ble_eq_true rfl) rfl (fun _ => rfl)) (fun _ => rfl)) (fun times_30 => (tl_ifx (E0 := ([none, none, some s_14.fzn, none, some amount_15, some total_16, some shares_17.fzn, none, none, none, none, none, none, none, none] : Mir.Env)) xt_ret rfl (congrArg (fun h_32 => (dBin (notM opEq) (dCall f_dealt (dCons (rdD amount_15) (dCons (dFz h_32) (pur [])))) (rd shares_17.fzn))) (show ((cLc [8] (.nm 8) cYes (cFz (cBin opMul (cBor 8) (cBor 10))) (cItems (cVar 2))) : CE) ([none, none, some s_14.fzn, none, some amount_15, some total_16, some shares_17.fzn, none, none, none, some times_30, none, none, none, none] : Mir.Env) = (bnd (dItems (rdD s_14.fzn)) fun items => lcS (fun weight_31 => lcStep (pur true) (dFz (dBin opMul (pur (Wv.fz weight_31)) (rd times_30)))) items []) from (lc_nm (E3 := fun weight_31 => ([none, none, some s_14.fzn, none, some amount_15, some total_16, some shares_17.fzn, none, some (.fz weight_31), none, some times_30, none, none, none, none] : Mir.Env)) (Nat.le_of_ble_eq_true rfl) (fun _ => rfl) rfl (fun weight_31 => rfl) (fun weight_31 => rfl)))) (tl_ret rfl) (tl_seq (E1 := (fun (s_39 : (Unit)) => ([none, none, none, none, none, none, none, none, none, none, none, none, none, none, none] : Mir.Env))) (bo_kill (E1 := (fun (s_39 : Unit) => ([none, none, some s_14.fzn, none, some amount_15, some total_16, some shares_17.fzn, none, none, none, none, none, none, none, none] : Mir.Env))) (E3 := (fun (s_39 : (Unit)) => ([none, none, none, none, none, none, none, none, none, none, none, none, none, none, none] : Mir.Env))) (bo_for (Es := (fun (s_34 : Unit) => ([none, none, some s_14.fzn, none, some amount_15, some total_16, some shares_17.fzn, none, none, none, none, none, none, none, none] : Mir.Env))) () rfl rfl (so_nm (E3 := fun k_35 (s_34 : (Unit)) => ([none, none, some s_14.fzn, none, some amount_15, some total_16, some shares_17.fzn, none, none, none, none, some (.fz k_35), none, none, none] : Mir.Env)) (fun _ => (Nat.le_of_ble_eq_true rfl)) (fun _ _ => rfl) (fun k_35 s_34 => (bo_ifx (E0 := ([none, none, some s_14.fzn, none, some amount_15, some total_16, some shares_17.fzn, none, none, none, none, some (.fz k_35), none, none, none] : Mir.Env)) xt_ret rfl rfl (bo_ret rfl) (bo_seq1 (E1 := (fun share_36 => ([none, none, some s_14.fzn, none, some amount_15, some total_16, some shares_17.fzn, some share_36, none, none, none, some (.fz k_35), none, none, none] : Mir.Env))) (bl_set (E1 := (fun share_36 => ([none, none, some s_14.fzn, none, some amount_15, some total_16, some shares_17.fzn, some share_36, none, none, none, some (.fz k_35), none, none, none] : Mir.Env))) (Nat.le_of_ble_eq_true rfl) rfl (fun _ => rfl)) (fun share_36 => (bo_seq1 (E1 := (fun (weight_37 : Wv) => ([none, none, some s_14.fzn, none, some amount_15, some total_16, some shares_17.fzn, some share_36, some weight_37, none, none, none, none, none, none] : Mir.Env))) (bl_kill (E1 := (fun weight_37 => ([none, none, some s_14.fzn, none, some amount_15, some total_16, some shares_17.fzn, some share_36, some weight_37, none, none, some (.fz k_35), none, none, none] : Mir.Env))) (E3 := (fun (weight_37 : Wv) => ([none, none, some s_14.fzn, none, some amount_15, some total_16, some shares_17.fzn, some share_36, some weight_37, none, none, none, none, none, none] : Mir.Env))) (bl_set (E1 := (fun weight_37 => ([none, none, some s_14.fzn, none, some amount_15, some total_16, some shares_17.fzn, some share_36, some weight_37, none, none, some (.fz k_35), none, none, none] : Mir.Env))) (Nat.le_of_ble_eq_true rfl) rfl (fun _ => rfl)) (fun _ => rfl)) (fun weight_37 => (bo_last (E1 := (fun (s_38 : Unit) => ([none, none, some s_14.fzn, none, some amount_15, some total_16, some shares_17.fzn, none, none, none, none, none, none, none, none] : Mir.Env))) (bo_kif (bo_if rfl (bo_kx xt_ret (bo_ret rfl)) (bo_kskip rfl))) (fun _ => rfl)))))))))) (fun _ => rfl)) (fun s_39 => (tl_ret rfl))))))))))))))))))))))))))
theorem c_law_k04 (script_1 : D) (S : Store) : f_law_k04 [script_1] S = g_law_k04 script_1 S := fn_code rfl (t_law_k04 script_1) S
end G
set_option Elab.async false
set_option linter.all false
set_option maxRecDepth 100000
set_option maxHeartbeats 4000000
/-! the derivations of k04_whole_dealt, printed by gen2.py -/
namespace L_k04_whole_dealt
open PySem PySem.Spec PyProof.Rows L2 Mir G
def topS (i : Nat) : Stmt := PySem.Challenge.pw_lotledger_k04_whole_dealt.main.body.getD i (.Pass ⟨0, 0, 0, 0⟩)
abbrev s__law_cell_at : Stmt := topS 7
abbrev N__law_cell_at : List Str := ["_law_script", "_law_k"]
theorem sc__law_cell_at : FnScope N__law_cell_at ["_law_script", "_law_k"] (defScope s__law_cell_at) := ⟨rfl, rfl, rfl, by decide +kernel, rfl, by decide +kernel, by decide +kernel⟩
abbrev s__law_mixed : Stmt := topS 9
abbrev N__law_mixed : List Str := ["_law_cell", "_law_k", "_law_number", "_law_other"]
theorem sc__law_mixed : FnScope N__law_mixed ["_law_cell", "_law_k"] (defScope s__law_mixed) := ⟨rfl, rfl, rfl, by decide +kernel, rfl, by decide +kernel, by decide +kernel⟩
abbrev s__law_cells : Stmt := topS 10
abbrev N__law_cells : List Str := ["_law_script", "_law_many", "_law_cell", "_law_k"]
theorem sc__law_cells : FnScope N__law_cells ["_law_script"] (defScope s__law_cells) := ⟨rfl, rfl, rfl, by decide +kernel, rfl, by decide +kernel, by decide +kernel⟩
abbrev s__law_digits : Stmt := topS 8
abbrev N__law_digits : List Str := ["_law_cell", "_law_bases", "_law_row", "_law_base"]
theorem sc__law_digits : FnScope N__law_digits ["_law_cell", "_law_bases"] (defScope s__law_digits) := ⟨rfl, rfl, rfl, by decide +kernel, rfl, by decide +kernel, by decide +kernel⟩
abbrev s__law_joined : Stmt := topS 11
abbrev N__law_joined : List Str := ["_law_row", "_law_cuts", "_law_found", "_law_start", "_law_cut"]
theorem sc__law_joined : FnScope N__law_joined ["_law_row", "_law_cuts"] (defScope s__law_joined) := ⟨rfl, rfl, rfl, by decide +kernel, rfl, by decide +kernel, by decide +kernel⟩
abbrev s_part_of : Stmt := topS 4
abbrev N_part_of : List Str := ["amount", "part", "whole"]
theorem sc_part_of : FnScope N_part_of ["amount", "part", "whole"] (defScope s_part_of) := ⟨rfl, rfl, rfl, by decide +kernel, rfl, by decide +kernel, by decide +kernel⟩
abbrev s_dealt : Stmt := topS 5
abbrev N_dealt : List Str := ["amount", "weights", "total", "shares", "ahead", "done", "weight", "here"]
theorem sc_dealt : FnScope N_dealt ["amount", "weights"] (defScope s_dealt) := ⟨rfl, rfl, rfl, by decide +kernel, rfl, by decide +kernel, by decide +kernel⟩
abbrev s_law : Stmt := topS 12
abbrev N_law : List Str := ["_law_script", "_law_cells_here", "_law_weights", "_law_cell", "_law_amount", "_law_total", "_law_shares", "_law_share", "_law_weight", "_law_cuts", "_law_times", "_law_k", "_law_kind", "_law_small", "_law_great"]
theorem sc_law : FnScope N_law ["_law_script"] (defScope s_law) := ⟨rfl, rfl, rfl, by decide +kernel, rfl, by decide +kernel, by decide +kernel⟩
theorem b__law_cell_at {P : Program} {w : World} {K : PySem.W.Frag} {mg : Str → Option Value} {base : Heap} {T : Tx} (z_len : mg "len" = none) (f : Addr) (cdv : Value) (A : Around) (outer : List PySem.Env) (s : Shared) (H : Hp) (E : XK)
    (B : Bd T mg P w base 0 (fun cls d _ H => E cls d H) (cxOf (L2.CX P w) P w K mg base N__law_cell_at "_law_cell_at" (defScope s__law_cell_at) f cdv A outer s H E)) :
    JSs T (fun cls d _ H => E cls d H) (cxOf (L2.CX P w) P w K mg base N__law_cell_at "_law_cell_at" (defScope s__law_cell_at) f cdv A outer s H E) (defBody s__law_cell_at) m_cell_at_k02 :=
  have nd := sc__law_cell_at.nd;
    (jss_cons (js_kill [0, 1] (js_if (jt_cm cm_lt (jb_var 1) (jb_e (je_len B.toLv (by rfl) (B.no z_len) (jab_cons (jb_var 0) jab_nil))))
      (jss_one (js_ret (je_sub2 B.toLv (jb_var 0) (jb_var 1))))
      jss_nil))
    (jss_one (js_ret (je_d jd_int))))
theorem b__law_mixed {P : Program} {w : World} {K : PySem.W.Frag} {mg : Str → Option Value} {base : Heap} {T : Tx} (f : Addr) (cdv : Value) (A : Around) (outer : List PySem.Env) (s : Shared) (H : Hp) (E : XK)
    (B : Bd T mg P w base 0 (fun cls d _ H => E cls d H) (cxOf (L2.CX P w) P w K mg base N__law_mixed "_law_mixed" (defScope s__law_mixed) f cdv A outer s H E)) :
    JSs T (fun cls d _ H => E cls d H) (cxOf (L2.CX P w) P w K mg base N__law_mixed "_law_mixed" (defScope s__law_mixed) f cdv A outer s H E) (defBody s__law_mixed) m_mixed_k01 :=
  have nd := sc__law_mixed.nd;
    (jss_cons (js_kill [0, 1] (js_set (i := 2) nd rfl (by first | exact .inl rfl | exact .inr rfl) (je_mod (jb_e (je_mul (jb_e (je_add B.toLv (jb_e (je_add B.toLv (jb_var 0) (jb_e (je_mul (jb_e (je_mul (jb_d jd_int) (jb_var 1))) (jb_var 1))))) (jb_var 1))) (jb_d jd_int))) (jb_d jd_int))))
    (jss_cons (js_set (i := 3) nd rfl (by first | exact .inl rfl | exact .inr rfl) (je_mod (jb_e (je_mul (jb_var 2) (jb_d jd_int))) (jb_d jd_int)))
    (jss_one (js_ret (je_mul (jb_e (je_mul (jb_var 2) (jb_var 3))) (jb_e (je_add B.toLv (jb_e (je_add B.toLv (jb_e (je_div (jb_var 2) (jb_d jd_int))) (jb_e (je_div (jb_var 3) (jb_d jd_int))))) (jb_d jd_int))))))))
theorem b__law_cells {P : Program} {w : World} {K : PySem.W.Frag} {mg : Str → Option Value} {base : Heap} {T : Tx} (z_len : mg "len" = none) (z_max : mg "max" = none) (z_min : mg "min" = none) (z_range : mg "range" = none) (d__law_mixed : Def P w T.K mg base T 1 "_law_mixed" 2 f_mixed_k01) (f : Addr) (cdv : Value) (A : Around) (outer : List PySem.Env) (s : Shared) (H : Hp) (E : XK)
    (B : Bd T mg P w base 1 (fun cls d _ H => E cls d H) (cxOf (L2.CX P w) P w K mg base N__law_cells "_law_cells" (defScope s__law_cells) f cdv A outer s H E)) :
    JSs T (fun cls d _ H => E cls d H) (cxOf (L2.CX P w) P w K mg base N__law_cells "_law_cells" (defScope s__law_cells) f cdv A outer s H E) (defBody s__law_cells) m_cells_k01 :=
  have nd := sc__law_cells.nd;
    (jss_cons (js_kill [1] (js_if (jt_w (jw_and (jt_cm cm_gt (jb_e (je_len B.toLv (by rfl) (B.no z_len) (jab_cons (jb_var 0) jab_nil))) (jb_d jd_int)) (jw_and1 (jt_cm (cm_eq B.toLv) (jb_e (je_mod (jb_e (je_sub2 B.toLv (jb_var 0) (jb_d jd_int))) (jb_d jd_int))) (jb_d jd_int)))))
      (jss_cons (js_set (i := 1) nd rfl (by first | exact .inl rfl | exact .inr rfl) (je_callB (call_max2 B.calm) v_int2c (by rfl) (B.no z_max) (by decide +kernel) (jab_cons (jb_e (je_callB (call_min2 B.calm) v_int2c (by rfl) (B.no z_min) (by decide +kernel) (jab_cons (jb_e (je_len B.toLv (by rfl) (B.no z_len) (jab_cons (jb_var 0) jab_nil))) (jab_cons (jb_d jd_int) jab_nil)))) (jab_cons (jb_e (je_add B.toLv (jb_d jd_int) (jb_e (je_mod (jb_e (je_div (jb_e (je_sub2 B.toLv (jb_var 0) (jb_d jd_int))) (jb_d jd_int))) (jb_d jd_int))))) jab_nil))))
      (jss_one (js_ret (je_lc (own := [("_law_k", 3)]) B.toLv B.calm nd (ji_rng1 (by rfl) (B.no z_range) (ja_cons (jd_var 1) ja_nil)) (blkOk_by (N := N__law_cells) (sc := defScope s__law_cells) (by decide +kernel)) (fun _ _ _ _ _ => (jgc_name (i := 3) nd rfl (by first | exact .inl rfl | exact .inr rfl))) (fun _ _ _ _ _ => jts_nil) (fun _ _ _ _ _ => (jd_fz (je_call B.blk d__law_mixed (by rfl) (ja_cons (jd_fz (je_sub2 B.blk.toLv (jb_var 0) (jb_e (je_mod (jb_var 3) (jb_e (je_len B.blk.toLv (by rfl) (B.blk.no z_len) (jab_cons (jb_var 0) jab_nil))))))) (ja_cons (jd_var 3) ja_nil)) (hlen := (cCons_len (cCons_len len0))))))))))
      jss_nil))
    (jss_one (js_ret (je_lc (own := [("_law_cell", 2)]) B.toLv B.calm nd (ji_seq B.toLv (jd_fz (je_sl B.toLv (jb_var 0) jo_none (jo_some (jb_d jd_int))))) (blkOk_by (N := N__law_cells) (sc := defScope s__law_cells) (by decide +kernel)) (fun _ _ _ _ _ => (jgc_name (i := 2) nd rfl (by first | exact .inl rfl | exact .inr rfl))) (fun _ _ _ _ _ => jts_nil) (fun _ _ _ _ _ => (jd_fz (je_mod (jb_var 2) (jb_e (je_pow (jb_d jd_int) (jb_d jd_int))))))))))
theorem b__law_digits {P : Program} {w : World} {K : PySem.W.Frag} {mg : Str → Option Value} {base : Heap} {T : Tx} (f : Addr) (cdv : Value) (A : Around) (outer : List PySem.Env) (s : Shared) (H : Hp) (E : XK)
    (B : Bd T mg P w base 0 (fun cls d _ H => E cls d H) (cxOf (L2.CX P w) P w K mg base N__law_digits "_law_digits" (defScope s__law_digits) f cdv A outer s H E)) :
    JSs T (fun cls d _ H => E cls d H) (cxOf (L2.CX P w) P w K mg base N__law_digits "_law_digits" (defScope s__law_digits) f cdv A outer s H E) (defBody s__law_digits) m_digits_k01 :=
  have nd := sc__law_digits.nd;
    (jss_cons (js_set (i := 2) nd rfl (by first | exact .inl rfl | exact .inr rfl) (je_lst ja_nil))
    (jss_cons (js_kill [0, 1, 3] (js_for B.toLv B.calm B.po (ji_seq B.toLv (jd_var 1)) (jg_name (i := 3) nd rfl (by first | exact .inl rfl | exact .inr rfl))
      (jss_cons (js_mut (i := 2) B.toLv PySem.F.plainAttrs_list PySem.F.slot_list_append PySem.F.type_list_append mt_append v_append ty_append rfl (by first | exact .inl rfl | exact .inr (.inl rfl)) (ja_cons (jd_fz (je_mod (jb_var 0) (jb_var 3))) ja_nil))
      (jss_one (js_kill [3] (js_set (i := 0) nd rfl (by first | exact .inl rfl | exact .inr rfl) (je_div (jb_var 0) (jb_var 3))))))))
    (jss_one (js_retv 2))))
theorem b__law_joined {P : Program} {w : World} {K : PySem.W.Frag} {mg : Str → Option Value} {base : Heap} {T : Tx} (z_len : mg "len" = none) (z_sum : mg "sum" = none) (f : Addr) (cdv : Value) (A : Around) (outer : List PySem.Env) (s : Shared) (H : Hp) (E : XK)
    (B : Bd T mg P w base 0 (fun cls d _ H => E cls d H) (cxOf (L2.CX P w) P w K mg base N__law_joined "_law_joined" (defScope s__law_joined) f cdv A outer s H E)) :
    JSs T (fun cls d _ H => E cls d H) (cxOf (L2.CX P w) P w K mg base N__law_joined "_law_joined" (defScope s__law_joined) f cdv A outer s H E) (defBody s__law_joined) m_joined_k04 :=
  have nd := sc__law_joined.nd;
    (jss_cons (js_set (i := 2) nd rfl (by first | exact .inl rfl | exact .inr rfl) (je_lst ja_nil))
    (jss_cons (js_set (i := 3) nd rfl (by first | exact .inl rfl | exact .inr rfl) (je_d jd_int))
    (jss_cons (js_kill [0, 1, 3, 4] (js_for B.toLv B.calm B.po (ji_seq B.toLv (jd_fz (je_add B.toLv (jb_var 1) (jb_e (je_lst (ja_cons (jd_fz (je_len B.toLv (by rfl) (B.no z_len) (jab_cons (jb_var 0) jab_nil))) ja_nil)))))) (jg_name (i := 4) nd rfl (by first | exact .inl rfl | exact .inr rfl))
      (jss_cons (js_kill [3] (js_mut (i := 2) B.toLv PySem.F.plainAttrs_list PySem.F.slot_list_append PySem.F.type_list_append mt_append v_append ty_append rfl (by first | exact .inl rfl | exact .inr (.inl rfl)) (ja_cons (jd_fz (je_callB (B.crK cr_sum) v_sum (by rfl) (B.no z_sum) (by decide +kernel) (jab_cons (jb_e (je_sl B.toLv (jb_var 0) (jo_some (jb_var 3)) (jo_some (jb_var 4)))) jab_nil))) ja_nil)))
      (jss_one (js_kill [4] (js_set (i := 3) nd rfl (by first | exact .inl rfl | exact .inr rfl) (je_d (jd_var 4))))))))
    (jss_one (js_retv 2)))))
theorem b_part_of {P : Program} {w : World} {K : PySem.W.Frag} {mg : Str → Option Value} {base : Heap} {T : Tx} (f : Addr) (cdv : Value) (A : Around) (outer : List PySem.Env) (s : Shared) (H : Hp) (E : XK)
    (B : Bd T mg P w base 0 (fun cls d _ H => E cls d H) (cxOf (L2.CX P w) P w K mg base N_part_of "part_of" (defScope s_part_of) f cdv A outer s H E)) :
    JSs T (fun cls d _ H => E cls d H) (cxOf (L2.CX P w) P w K mg base N_part_of "part_of" (defScope s_part_of) f cdv A outer s H E) (defBody s_part_of) m_part_of :=
  have nd := sc_part_of.nd;
    (jss_one (js_ret (je_div (jb_e (je_mul (jb_var 0) (jb_var 1))) (jb_var 2))))
theorem b_dealt {P : Program} {w : World} {K : PySem.W.Frag} {mg : Str → Option Value} {base : Heap} {T : Tx} (z_min : mg "min" = none) (z_sum : mg "sum" = none) (x_NoWeights : ExcF T.K mg "NoWeights" (T.cls 1)) (d_part_of : Def P w T.K mg base T 1 "part_of" 3 f_part_of) (f : Addr) (cdv : Value) (A : Around) (outer : List PySem.Env) (s : Shared) (H : Hp) (E : XK)
    (B : Bd T mg P w base 1 (fun cls d _ H => E cls d H) (cxOf (L2.CX P w) P w K mg base N_dealt "dealt" (defScope s_dealt) f cdv A outer s H E)) :
    JSs T (fun cls d _ H => E cls d H) (cxOf (L2.CX P w) P w K mg base N_dealt "dealt" (defScope s_dealt) f cdv A outer s H E) (defBody s_dealt) m_dealt :=
  have nd := sc_dealt.nd;
    (jss_cons (js_set (i := 2) nd rfl (by first | exact .inl rfl | exact .inr rfl) (je_callB (B.crK cr_sum) v_sum (by rfl) (B.no z_sum) (by decide +kernel) (jab_cons (jb_var 1) jab_nil)))
    (jss_cons (js_kill [] (js_if (jt_w (jw_or (jt_cm cm_le (jb_var 2) (jb_d jd_int)) (jw_or1 (jt_cm cm_lt (jb_e (je_callB (B.crK cr_min) v_min (by rfl) (B.no z_min) (by decide +kernel) (jab_cons (jb_var 1) jab_nil))) (jb_d jd_int)))))
      (jss_one (js_raise (k := 1) B.toLv B.calm (B.exF x_NoWeights) (by rfl)))
      jss_nil))
    (jss_cons (js_set (i := 3) nd rfl (by first | exact .inl rfl | exact .inr rfl) (je_lst ja_nil))
    (jss_cons (js_set (i := 4) nd rfl (by first | exact .inl rfl | exact .inr rfl) (je_d jd_int))
    (jss_cons (js_set (i := 5) nd rfl (by first | exact .inl rfl | exact .inr rfl) (je_d jd_int))
    (jss_cons (js_kill [0, 1, 2, 4, 5, 6, 7] (js_for B.toLv B.calm B.po (ji_seq B.toLv (jd_var 1)) (jg_name (i := 6) nd rfl (by first | exact .inl rfl | exact .inr rfl))
      (jss_cons (js_kill [6] (js_aug (i := 4) nd rfl (by first | exact .inl rfl | exact .inr rfl) (jb_var 6) iop_add (v_int0 fun i j _ _ => .int _)))
      (jss_cons (js_set (i := 7) nd rfl (by first | exact .inl rfl | exact .inr rfl) (je_call B d_part_of (by rfl) (ja_cons (jd_var 0) (ja_cons (jd_var 4) (ja_cons (jd_var 2) ja_nil))) (hlen := (cCons_len (cCons_len (cCons_len len0))))))
      (jss_cons (js_kill [5] (js_mut (i := 3) B.toLv PySem.F.plainAttrs_list PySem.F.slot_list_append PySem.F.type_list_append mt_append v_append ty_append rfl (by first | exact .inl rfl | exact .inr (.inl rfl)) (ja_cons (jd_fz (je_sub (jb_var 7) (jb_var 5))) ja_nil)))
      (jss_one (js_kill [7] (js_set (i := 5) nd rfl (by first | exact .inl rfl | exact .inr rfl) (je_d (jd_var 7))))))))))
    (jss_one (js_retv 3))))))))
theorem b_law {P : Program} {w : World} {K : PySem.W.Frag} {mg : Str → Option Value} {base : Heap} {T : Tx} (z_len : mg "len" = none) (z_range : mg "range" = none) (z_set : mg "set" = none) (z_sorted : mg "sorted" = none) (z_sum : mg "sum" = none) (z_zip : mg "zip" = none) (d__law_cell_at : Def P w T.K mg base T 2 "_law_cell_at" 2 f_cell_at_k02) (d__law_cells : Def P w T.K mg base T 2 "_law_cells" 1 f_cells_k01) (d__law_digits : Def P w T.K mg base T 2 "_law_digits" 2 f_digits_k01) (d__law_joined : Def P w T.K mg base T 2 "_law_joined" 2 f_joined_k04) (d_dealt : Def P w T.K mg base T 2 "dealt" 2 f_dealt) (d_part_of : Def P w T.K mg base T 2 "part_of" 3 f_part_of) (f : Addr) (cdv : Value) (A : Around) (outer : List PySem.Env) (s : Shared) (H : Hp) (E : XK)
    (B : Bd T mg P w base 2 (fun cls d _ H => E cls d H) (cxOf (L2.CX P w) P w K mg base N_law "law" (defScope s_law) f cdv A outer s H E)) :
    JSs T (fun cls d _ H => E cls d H) (cxOf (L2.CX P w) P w K mg base N_law "law" (defScope s_law) f cdv A outer s H E) (defBody s_law) m_law_k04 :=
  have nd := sc_law.nd;
    (jss_cons (js_set (i := 1) nd rfl (by first | exact .inl rfl | exact .inr rfl) (je_call B d__law_cells (by rfl) (ja_cons (jd_var 0) ja_nil) (hlen := (cCons_len len0))))
    (jss_cons (js_set (i := 2) nd rfl (by first | exact .inl rfl | exact .inr rfl) (je_lst (ja_cons jd_int ja_nil)))
    (jss_cons (js_kill [3, 12, 13, 14] (js_for B.toLv B.calm B.po (ji_seq B.toLv (jd_fz (je_sl B.toLv (jb_var 1) jo_none (jo_some (jb_d jd_int))))) (jg_name (i := 3) nd rfl (by first | exact .inl rfl | exact .inr rfl))
      (jss_cons (js_kill [3] (js_asg (je_call B d__law_digits (by rfl) (ja_cons (jd_var 3) (ja_cons (jd_fz (je_lst (ja_cons jd_int (ja_cons jd_int (ja_cons (jd_fz (je_add B.toLv (jb_e (je_pow (jb_d jd_int) (jb_d jd_int))) (jb_d jd_int))) ja_nil))))) ja_nil)) (hlen := (cCons_len (cCons_len len0)))) (jg_tup (is := [12, 13, 14]) B.toLv B.calm (pgs_cons (pg_name (i := 12) nd rfl (by first | exact .inl rfl | exact .inr rfl)) (pgs_cons (pg_name (i := 13) nd rfl (by first | exact .inl rfl | exact .inr rfl)) (pgs_cons (pg_name (i := 14) nd rfl (by first | exact .inl rfl | exact .inr rfl)) pgs_nil))))))
      (jss_one (js_kill [12, 13, 14] (js_mut (i := 2) B.toLv PySem.F.plainAttrs_list PySem.F.slot_list_append PySem.F.type_list_append mt_append v_append ty_append rfl (by first | exact .inl rfl | exact .inr (.inl rfl)) (ja_cons (jd_fz (je_sub2 B.toLv (jb_e (je_lst (ja_cons jd_int (ja_cons (jd_var 13) (ja_cons (jd_var 14) ja_nil))))) (jb_var 12))) ja_nil)))))))
    (jss_cons (js_set (i := 4) nd rfl (by first | exact .inl rfl | exact .inr rfl) (je_mul (jb_e (je_sub2 B.toLv (jb_e (je_add B.toLv (jb_var 1) (jb_e (je_lst (ja_cons jd_int ja_nil))))) (jb_d jd_int))) (jb_e (je_sub2 B.toLv (jb_e (je_lst (ja_cons jd_int (ja_cons (jd_fz (je_neg (jb_d jd_int))) ja_nil)))) (jb_e (je_mod (jb_e (je_call B d__law_cell_at (by rfl) (ja_cons (jd_var 0) (ja_cons jd_int ja_nil)) (hlen := (cCons_len (cCons_len len0))))) (jb_d jd_int)))))))
    (jss_cons (js_set (i := 5) nd rfl (by first | exact .inl rfl | exact .inr rfl) (je_callB (B.crK cr_sum) v_sum (by rfl) (B.no z_sum) (by decide +kernel) (jab_cons (jb_var 2) jab_nil)))
    (jss_cons (js_set (i := 6) nd rfl (by first | exact .inl rfl | exact .inr rfl) (je_lend 2 (je_call B d_dealt (by rfl) (ja_cons (jd_var 4) (ja_cons (jd_var 2) ja_nil)) (hlen := (cCons_len (cCons_len len0))))))
    (jss_cons (js_frz 6 (js_frz 2 (js_kill [7, 8] (js_for B.toLv B.calm B.po (ji_zip B.toLv (by rfl) (B.no z_zip) (ja_cons (jd_var 6) (ja_cons (jd_var 2) ja_nil))) (jg_tup (is := [7, 8]) B.toLv B.calm (pgs_cons (pg_name (i := 7) nd rfl (by first | exact .inl rfl | exact .inr rfl)) (pgs_cons (pg_name (i := 8) nd rfl (by first | exact .inl rfl | exact .inr rfl)) pgs_nil)))
      (jss_one (js_kill [7, 8] (js_if (jt_not (jt_cm2 cm_lt cm_lt (jb_e (je_mul (jb_e (je_sub (jb_var 7) (jb_d jd_int))) (jb_var 5))) (jb_e (je_mul (jb_var 4) (jb_var 8))) (jb_e (je_mul (jb_e (je_add B.toLv (jb_var 7) (jb_d jd_int))) (jb_var 5)))))
        (jss_one (js_ret (je_d jd_bl)))
        jss_nil)))))))
    (jss_cons (js_kill [1] (js_set (i := 9) nd rfl (by first | exact .inl rfl | exact .inr rfl) (je_srtSet B.toLv B.calm (by rfl) (B.no z_sorted) (by rfl) (B.no z_set) (jb_e (je_lc (own := [("_law_cell", 3)]) B.toLv B.calm nd (ji_seq B.toLv (jd_fz (je_sl B.toLv (jb_var 1) jo_none (jo_some (jb_d jd_int))))) (blkOk_by (N := N_law) (sc := defScope s_law) (by decide +kernel)) (fun _ _ _ _ _ => (jgc_name (i := 3) nd rfl (by first | exact .inl rfl | exact .inr rfl))) (fun _ _ _ _ _ => jts_nil) (fun _ _ _ _ _ => (jd_fz (je_add B.blk.toLv (jb_d jd_int) (jb_e (je_mod (jb_var 3) (jb_e (je_len B.blk.toLv (by rfl) (B.blk.no z_len) (jab_cons (jb_var 2) jab_nil)))))))))))))
    (jss_cons (js_frz 9 (js_kill [9] (js_if (jt_cm (cm_ne B.toLv) (jb_e (je_call B d_dealt (by rfl) (ja_cons (jd_var 4) (ja_cons (jd_fz (je_call B d__law_joined (by rfl) (ja_cons (jd_var 2) (ja_cons (jd_var 9) ja_nil)) (hlen := (cCons_len (cCons_len len0))))) ja_nil)) (hlen := (cCons_len (cCons_len len0))))) (jb_e (je_call B d__law_joined (by rfl) (ja_cons (jd_var 6) (ja_cons (jd_var 9) ja_nil)) (hlen := (cCons_len (cCons_len len0))))))
      (jss_one (js_ret (je_d jd_bl)))
      jss_nil)))
    (jss_cons (js_kill [0] (js_set (i := 10) nd rfl (by first | exact .inl rfl | exact .inr rfl) (je_add B.toLv (jb_d jd_int) (jb_e (je_mod (jb_e (je_call B d__law_cell_at (by rfl) (ja_cons (jd_var 0) (ja_cons jd_int ja_nil)) (hlen := (cCons_len (cCons_len len0))))) (jb_d jd_int))))))
    (jss_cons (js_kill [10] (js_if (jt_cm (cm_ne B.toLv) (jb_e (je_call B d_dealt (by rfl) (ja_cons (jd_var 4) (ja_cons (jd_fz (je_lc (own := [("_law_weight", 8)]) B.toLv B.calm nd (ji_seq B.toLv (jd_var 2)) (blkOk_by (N := N_law) (sc := defScope s_law) (by decide +kernel)) (fun _ _ _ _ _ => (jgc_name (i := 8) nd rfl (by first | exact .inl rfl | exact .inr rfl))) (fun _ _ _ _ _ => jts_nil) (fun _ _ _ _ _ => (jd_fz (je_mul (jb_var 8) (jb_var 10)))))) ja_nil)) (hlen := (cCons_len (cCons_len len0))))) (jb_var 6))
      (jss_one (js_ret (je_d jd_bl)))
      jss_nil))
    (jss_cons (js_kill [2, 4, 5, 6, 7, 8, 11] (js_for B.toLv B.calm B.po (ji_rng2 (by rfl) (B.no z_range) (ja_cons jd_int (ja_cons (jd_fz (je_add B.toLv (jb_e (je_len B.toLv (by rfl) (B.no z_len) (jab_cons (jb_var 2) jab_nil))) (jb_d jd_int))) ja_nil))) (jg_name (i := 11) nd rfl (by first | exact .inl rfl | exact .inr rfl))
      (jss_cons (js_kill [] (js_if (jt_cm (cm_ne B.toLv) (jb_e (je_callB (B.crK cr_sum) v_sum (by rfl) (B.no z_sum) (by decide +kernel) (jab_cons (jb_e (je_sl B.toLv (jb_var 6) jo_none (jo_some (jb_var 11)))) jab_nil))) (jb_e (je_call B d_part_of (by rfl) (ja_cons (jd_var 4) (ja_cons (jd_fz (je_callB (B.crK cr_sum) v_sum (by rfl) (B.no z_sum) (by decide +kernel) (jab_cons (jb_e (je_sl B.toLv (jb_var 2) jo_none (jo_some (jb_var 11)))) jab_nil))) (ja_cons (jd_var 5) ja_nil))) (hlen := (cCons_len (cCons_len (cCons_len len0)))))))
        (jss_one (js_ret (je_d jd_bl)))
        jss_nil))
      (jss_cons (js_set (i := 7) nd rfl (by first | exact .inl rfl | exact .inr rfl) (je_sub2 B.toLv (jb_var 6) (jb_e (je_sub (jb_var 11) (jb_d jd_int)))))
      (jss_cons (js_kill [11] (js_set (i := 8) nd rfl (by first | exact .inl rfl | exact .inr rfl) (je_sub2 B.toLv (jb_var 2) (jb_e (je_sub (jb_var 11) (jb_d jd_int))))))
      (jss_one (js_kill [7, 8] (js_if (jt_w (jw_and (jt_cm cm_gt (jb_var 8) (jb_d jd_int)) (jw_and1 (jt_cm (cm_ne B.toLv) (jb_e (je_callB (B.crK cr_sum) v_sum (by rfl) (B.no z_sum) (by decide +kernel) (jab_cons (jb_e (je_call B d_dealt (by rfl) (ja_cons (jd_var 7) (ja_cons (jd_fz (je_lst (ja_cons (jd_fz (je_div (jb_var 8) (jb_d jd_int))) (ja_cons (jd_fz (je_sub (jb_var 8) (jb_e (je_div (jb_var 8) (jb_d jd_int))))) ja_nil)))) ja_nil)) (hlen := (cCons_len (cCons_len len0))))) jab_nil))) (jb_var 7)))))
        (jss_one (js_ret (je_d jd_bl)))
        jss_nil))))))))
    (jss_one (js_ret (je_d jd_bl)))))))))))))))
theorem all_mk {l : PySem.W.OpenLaw} {w : World} {K : PySem.W.Frag} {h : Heap} {mg : Str → Option Value} {fa : Addr} (X : K.In h) (G : h.Ns mainGlobals mg) (hfa : mg "law" = some (.ref fa))
    (F__law_cell_at : FnFact K "_law_cell_at" s__law_cell_at)
    (F__law_mixed : FnFact K "_law_mixed" s__law_mixed)
    (F__law_cells : FnFact K "_law_cells" s__law_cells)
    (F__law_digits : FnFact K "_law_digits" s__law_digits)
    (F__law_joined : FnFact K "_law_joined" s__law_joined)
    (F_part_of : FnFact K "part_of" s_part_of)
    (F_dealt : FnFact K "dealt" s_dealt)
    (F_law : FnFact K "law" s_law)
    (Z_len : PySem.W.nsIn K mainGlobals "len" = some none)
    (Z_max : PySem.W.nsIn K mainGlobals "max" = some none)
    (Z_min : PySem.W.nsIn K mainGlobals "min" = some none)
    (Z_range : PySem.W.nsIn K mainGlobals "range" = some none)
    (Z_set : PySem.W.nsIn K mainGlobals "set" = some none)
    (Z_sorted : PySem.W.nsIn K mainGlobals "sorted" = some none)
    (Z_sum : PySem.W.nsIn K mainGlobals "sum" = some none)
    (Z_zip : PySem.W.nsIn K mainGlobals "zip" = some none)
    {C_NoWeights : Addr} (N_NoWeights : PySem.W.nsIn K mainGlobals "NoWeights" = some (some (.ref C_NoWeights)))
    (A_NoWeights : ExcA K C_NoWeights)
    : ∃ fd : FuncData, (∀ (s : Shared) (v : Value), BindsTo s fd ⟨[v], []⟩ [("_law_script", v)]) ∧ ∀ base : Heap, K.In base → base.Ns mainGlobals mg → FnOk l.prog w K mg base (L2.CX l.prog w) 3 fa fd ["_law_script"] (spF (txOf K cnames) 1 f_law_k04) := by
  have z_len := PySem.W.mg_none_of X G Z_len
  have z_max := PySem.W.mg_none_of X G Z_max
  have z_min := PySem.W.mg_none_of X G Z_min
  have z_range := PySem.W.mg_none_of X G Z_range
  have z_set := PySem.W.mg_none_of X G Z_set
  have z_sorted := PySem.W.mg_none_of X G Z_sorted
  have z_sum := PySem.W.mg_none_of X G Z_sum
  have z_zip := PySem.W.mg_none_of X G Z_zip
  have x_NoWeights := exc_mk (ns := cnames) X G 1 N_NoWeights A_NoWeights rfl
  refine law_mk (T := txOf K cnames) (N := N_law) X G F_law hfa sc_law rfl txOf_lean (fun _ _ _ _ _ _ us hl => match us, hl with | [_], _ => rfl) fun base kb gb => ?_
  have d__law_cell_at : Def l.prog w K mg base (txOf K cnames) 1 "_law_cell_at" 2 f_cell_at_k02 := def_mk (T := txOf K cnames) (N := N__law_cell_at) (ps := ["_law_script", "_law_k"]) X G F__law_cell_at sc__law_cell_at rfl txOf_lean (fun _ _ _ _ _ _ us hl => match us, hl with | [_, _], _ => rfl) (b__law_cell_at z_len)
  have d__law_mixed : Def l.prog w K mg base (txOf K cnames) 1 "_law_mixed" 2 f_mixed_k01 := def_mk (T := txOf K cnames) (N := N__law_mixed) (ps := ["_law_cell", "_law_k"]) X G F__law_mixed sc__law_mixed rfl txOf_lean (fun _ _ _ _ _ _ us hl => match us, hl with | [_, _], _ => rfl) (b__law_mixed)
  have d__law_digits : Def l.prog w K mg base (txOf K cnames) 1 "_law_digits" 2 f_digits_k01 := def_mk (T := txOf K cnames) (N := N__law_digits) (ps := ["_law_cell", "_law_bases"]) X G F__law_digits sc__law_digits rfl txOf_lean (fun _ _ _ _ _ _ us hl => match us, hl with | [_, _], _ => rfl) (b__law_digits)
  have d__law_joined : Def l.prog w K mg base (txOf K cnames) 1 "_law_joined" 2 f_joined_k04 := def_mk (T := txOf K cnames) (N := N__law_joined) (ps := ["_law_row", "_law_cuts"]) X G F__law_joined sc__law_joined rfl txOf_lean (fun _ _ _ _ _ _ us hl => match us, hl with | [_, _], _ => rfl) (b__law_joined z_len z_sum)
  have d_part_of : Def l.prog w K mg base (txOf K cnames) 1 "part_of" 3 f_part_of := def_mk (T := txOf K cnames) (N := N_part_of) (ps := ["amount", "part", "whole"]) X G F_part_of sc_part_of rfl txOf_lean (fun _ _ _ _ _ _ us hl => match us, hl with | [_, _, _], _ => rfl) (b_part_of)
  have d__law_cells : Def l.prog w K mg base (txOf K cnames) 2 "_law_cells" 1 f_cells_k01 := def_mk (T := txOf K cnames) (N := N__law_cells) (ps := ["_law_script"]) X G F__law_cells sc__law_cells rfl txOf_lean (fun _ _ _ _ _ _ us hl => match us, hl with | [_], _ => rfl) (b__law_cells z_len z_max z_min z_range (d__law_mixed.mono (by decide)))
  have d_dealt : Def l.prog w K mg base (txOf K cnames) 2 "dealt" 2 f_dealt := def_mk (T := txOf K cnames) (N := N_dealt) (ps := ["amount", "weights"]) X G F_dealt sc_dealt rfl txOf_lean (fun _ _ _ _ _ _ us hl => match us, hl with | [_, _], _ => rfl) (b_dealt z_min z_sum x_NoWeights (d_part_of.mono (by decide)))
  exact b_law z_len z_range z_set z_sorted z_sum z_zip (d__law_cell_at.mono (by decide)) (d__law_cells.mono (by decide)) (d__law_digits.mono (by decide)) (d__law_joined.mono (by decide)) (d_dealt.mono (by decide)) (d_part_of.mono (by decide))
end L_k04_whole_dealt
set_option Elab.async false
set_option linter.all false
set_option maxRecDepth 100000
/-! DcS: how env-free code is opened, step by step; loops. -/
namespace Mir
open PySem L2
section
variable {α β σ τ : Type} {S S' : Store} {w w1 w2 w3 : Wv} {d : D} {a b c : M Wv} {m : M α} {k : α → M β} {md : M D} {ml : M (List D)} {p q : M Bool} {x : Xn}
@[simp] theorem x_pur {a : α} : pur a S = .ok a S := rfl
@[simp] theorem x_bnd : bnd m k S = bindR (m S) k := rfl
@[simp] theorem x_bnO {m : M (Out σ)} {k : σ → M (Out τ)} : bnO m k S = bindR (m S) (onO k) := rfl
@[simp] theorem x_bnT {m : M (Out σ)} {k : σ → M Wv} : bnT m k S = bindR (m S) (onT k) := rfl
@[simp] theorem x_onO {k : σ → M (Out τ)} {s : σ} : onO k (.nx s) S = k s S := rfl
@[simp] theorem x_onOr {k : σ → M (Out τ)} : onO k (.rt w) S = .ok (.rt w) S := rfl
@[simp] theorem x_onT {k : σ → M Wv} {s : σ} : onT k (.nx s) S = k s S := rfl
@[simp] theorem x_onTr {k : σ → M Wv} : onT k (.rt w) S = .ok w S := rfl
@[simp] theorem x_ift {a b : M α} : ift p a b S = bindR (p S) fun c S => if c then a S else b S := rfl
@[simp] theorem x_rd : rd (.fz d) S = .ok (.fz d) S := rfl
@[simp] theorem x_rdo {so : SO} : rd (.ow so) S = .ok (.ow so) S := rfl
@[simp] theorem x_rdD : rdD (.fz d) S = .ok d S := rfl
@[simp] theorem x_fzn : (Wv.fz d).fzn = .fz d := rfl
@[simp] theorem x_fzno {so : SO} : (Wv.ow so).fzn = .fz (Wv.ow so).frz := rfl
@[simp] theorem x_up : dUp md S = bindR (md S) fun d S => .ok (.fz d) S := rfl
@[simp] theorem x_fz : dFz a S = bindR (a S) fun w S => .ok w.frz S := rfl
@[simp] theorem x_cons : dCons md ml S = bindR (md S) fun d S => bindR (ml S) fun r S => .ok (d :: r) S := rfl
@[simp] theorem x_consB {r : M (List Wv)} : dConsB a r S = bindR (a S) fun d S => bindR (r S) fun r S => .ok (d :: r) S := rfl
@[simp] theorem x_tup : dTup ml S = bindR (ml S) fun r S => if szOk r.length then .ok (.tup r) S else .bad := rfl
@[simp] theorem x_lst : dLst ml S = bindR (ml S) fun r S => if szOk r.length then .ok (.ow (.lst r)) S else .bad := rfl
@[simp] theorem x_bin {k : Wv → Wv → M α} : dBin k a b S = bindR (a S) fun w1 S => bindR (b S) fun w2 S => k w1 w2 S := rfl
@[simp] theorem x_un {k : Wv → M α} : dUn k a S = bindR (a S) fun w S => k w S := rfl
@[simp] theorem x_bl : dBl p S = bindR (p S) fun b S => .ok (.fz (.bl b)) S := rfl
@[simp] theorem x_chain {k k' : Wv → Wv → M Bool} : dChain k k' a b c S = bindR (a S) fun w1 S => bindR (b S) fun w2 S => bindR (k w1 w2 S) fun z S => if z then bindR (c S) fun w3 S => k' w2 w3 S else .ok false S := rfl
@[simp] theorem x_and : dAnd p q S = bindR (p S) fun b S => if b then q S else .ok false S := rfl
@[simp] theorem x_or : dOr p q S = bindR (p S) fun b S => if b then .ok true S else q S := rfl
@[simp] theorem x_not : dNot p S = bindR (p S) fun b S => .ok (!b) S := rfl
@[simp] theorem x_tst : dTst a S = bindR (a S) tstW := rfl
@[simp] theorem x_andV : dAndV a b S = bindR (a S) fun w S => bindR (tstW w S) fun z S => if z then b S else .ok (.fz (.bl false)) S := s_andV
@[simp] theorem x_orV : dOrV a b S = bindR (a S) fun w S => bindR (tstW w S) fun z S => if z then .ok (.fz (.bl true)) S else b S := s_orV
@[simp] theorem x_notV : dNotV a S = bindR (a S) fun w S => bindR (tstW w S) fun z S => .ok (.fz (.bl (!z))) S := s_notV
@[simp] theorem x_part : dPart a S = bindR (a S) prtW := rfl
@[simp] theorem x_sl {l h : M (Option Int)} : dSl a l h S = bindR (a S) fun w S => bindR (l S) fun lo S => bindR (h S) fun hi S => opSl w lo hi S := rfl
@[simp] theorem x_call {f : Fn} : dCall f ml S = bindR (ml S) fun args S => f args S := rfl
@[simp] theorem x_items : dItems md S = bindR (md S) fun d S => itO (itemsD d) S := rfl
@[simp] theorem x_fld {f : Str} {cs : List Nat} : dFld f cs a S = bindR (a S) fun w S => fldO f cs S (insW S w) := rfl
def methD (o : Option Fn) (fs : M (List D)) (d : D) (S : Store) : R Wv := match o with
  | some fn => bindR (fs S) fun args S => fn (d :: args) S
  | none => .bad
@[simp] theorem x_meth {m : Str} {disp : Nat → Option Fn} : dMeth m disp md ml S = bindR (md S) fun d S => methD (dispO m disp (insW S (.fz d))) ml d S := by
  unfold dMeth cMeth methD
  refine congrArg (bindR (md S)) (funext fun d => funext fun S => ?_)
  cases dispO m disp (insW S (.fz d)) <;> rfl
@[simp] theorem x_methD {fn : Fn} : methD (some fn) ml d S = bindR (ml S) fun args S => fn (d :: args) S := rfl
@[simp] theorem x_mk {c : Nat} {m : FnI} : dMk c m ml S = bindR (ml S) fun args S => mkO c (m args [] S) := rfl
@[simp] theorem x_mk0 {c : Nat} : dMk0 c S = .ok (.ow (.ins c [])) S := rfl
@[simp] theorem x_isO {tst : Nat → Option Bool} : dIsO tst a S = bindR (a S) fun w S => isO tst S (insW S w) := rfl
@[simp] theorem x_mut {ty : String} {m : Mu} : dMut ty m w ml S = if tyW ty w S then bindR (ml S) fun args S => bindR (mutW m w args S) fun p S => .ok p.1 S else .bad := rfl
@[simp] theorem x_mutR {ty : String} {m : Mu} : dMutR ty m w ml S = if tyW ty w S then bindR (ml S) fun args S => mutW m w args S else .bad := rfl
@[simp] theorem x_tyW1 {xs : List D} : tyW "list" (.ow (.lst xs)) S = true := rfl
@[simp] theorem x_tyW2 {xs : List (Key × D)} : tyW "dict" (.ow (.dct xs)) S = true := rfl
def mutR1 (o : Option (SO × D)) (S : Store) : R (Wv × D) := match o with
  | some (so, d) => .ok (.ow so, d) S
  | none => .bad
@[simp] theorem x_mutW {m : Mu} {so : SO} {args : List D} : mutW m (.ow so) args S = mutR1 (m so args) S := by
  unfold mutW mutR1
  dsimp only <;> (cases m so args <;> rfl)
@[simp] theorem x_mutR1 {so : SO} : mutR1 (some (so, d)) S = .ok (.ow so, d) S := rfl
@[simp] theorem x_put {fv fk : M D} : dPut w fv fk S = bindR (fv S) fun v S => if tyW "dict" w S then bindR (fk S) fun k S => bindR (mutW mPut w [k, v] S) fun p S => .ok p.1 S else .bad := rfl
def putO (kvs : List (Key × D)) (o : Option Key) (v : D) : Option (SO × D) := match o with
  | some k => if szOk (kvs.length + 1) then some (.dct (putD kvs k v), .non) else none
  | none => none
@[simp] theorem x_mPut {kvs : List (Key × D)} {k v : D} : mPut (.dct kvs) [k, v] = putO kvs (keyD k) v := by
  unfold mPut putO
  dsimp only <;> (cases keyD k <;> rfl)
@[simp] theorem x_putO {kvs : List (Key × D)} {k : Key} {v : D} : putO kvs (some k) v = if szOk (kvs.length + 1) then some (.dct (putD kvs k v), .non) else none := rfl
@[simp] theorem x_keyI {i : Int} : keyD (.int i) = some (.inl i) := rfl
@[simp] theorem x_keyS {z : Str} : keyD (.str z) = some (.inr z) := rfl
def get1O (o : Option (List (Key × D))) (k : Option Key) (S : Store) : R Wv := match o, k with
  | some kvs, some k => .ok (.fz ((lkD kvs k).getD .non)) S
  | _, _ => .bad
def get2O (o : Option (List (Key × D))) (k : Option Key) (d : D) (S : Store) : R Wv := match o, k with
  | some kvs, some k => .ok (.fz ((lkD kvs k).getD d)) S
  | _, _ => .bad
@[simp] theorem x_get1 : dGet1 a b S = bindR (a S) fun w1 S => if (viewK S w1).isSome then bindR (b S) fun w2 S => get1O (viewK S w1) (keyW w2) S else .bad := by
  unfold dGet1 cGet1 opGet1 get1O
  rfl
@[simp] theorem x_get2 {e : M D} : dGet2 a b e S = bindR (a S) fun w1 S => if (viewK S w1).isSome then bindR (b S) fun w2 S => bindR (e S) fun d S => get2O (viewK S w1) (keyW w2) d S else .bad := by
  unfold dGet2 cGet2 opGet2 get2O
  rfl
@[simp] theorem x_get1O {kvs : List (Key × D)} {k : Key} : get1O (some kvs) (some k) S = .ok (.fz ((lkD kvs k).getD .non)) S := rfl
@[simp] theorem x_get2O {kvs : List (Key × D)} {k : Key} : get2O (some kvs) (some k) d S = .ok (.fz ((lkD kvs k).getD d)) S := rfl
def augW (k : Wv → Wv → M Wv) (a : M Wv) (w : Wv) (S : Store) : R Wv := bindR (a S) fun w2 S => k w w2 S
@[simp] theorem x_aug {k : Wv → Wv → M Wv} : dAug k (.fz d) a S = bindR (a S) fun w2 S => k (.fz d) w2 S := rfl
@[simp] theorem x_lend {ok : α → Bool} {d : Wv → M α} {xs : List D} : dLend (.ow (.lst xs)) ok d S = lendR ok (d (.fz (.lst xs)) S) := rfl
@[simp] theorem x_lendR {ok : α → Bool} {y : α} : lendR ok (.ok y S) = if ok y && noLstS S then .ok y S else .bad := rfl
@[simp] theorem x_raise {c : Nat} : (dRaise c : M α) S = .ex (c, none) S := rfl
@[simp] theorem x_raiseN {c : Nat} {f : Str} : (dRaiseN c f a : M α) S = bindR (a S) (rzN c f) := rfl
@[simp] theorem x_rzN {c : Nat} {f : Str} {i : Int} : (rzN c f (.fz (.int i)) S : R α) = .ex (c, some (f, i)) S := rfl
@[simp] theorem x_rev {xs : List D} : opRev (.fz (.lst xs)) S = .ok (.ow (.lst xs.reverse)) S := rfl
@[simp] theorem x_revo {xs : List D} : opRev (.ow (.lst xs)) S = .ok (.ow (.lst xs.reverse)) S := rfl
def srtO (xs : List D) (S : Store) : R Wv := if okSrt xs then .ok (.ow (.lst (xs.mergeSort leD))) S else .bad
@[simp] theorem x_lt2 {a b c d : Int} : opLt2 (.fz (.tup [.int a, .int b])) (.fz (.tup [.int c, .int d])) S = .ok (lt2 a b c d) S := rfl
@[simp] theorem x_sortK1 {m : Fn} {xs : List D} : bSortK m [.fz (.lst xs)] S = srtKO m xs S := rfl
@[simp] theorem x_sortK2 {m : Fn} {xs : List D} : bSortK m [.ow (.lst xs)] S = srtKO m xs S := rfl
@[simp] theorem x_sorted1 {xs : List D} : bSorted [.fz (.lst xs)] S = srtO xs S := rfl
@[simp] theorem x_sorted2 {xs : List D} : bSorted [.ow (.lst xs)] S = srtO xs S := rfl
/-- try -/
def trO (tst : Option Bool) (E : Env) (h : Xn → M α) (x : Xn) (S : Store) : R α := match tst with
  | some true => if noXc E then noEx (h x S) else .bad
  | some false => .ex x S
  | none => .bad
def trR (tst : Nat → Option Bool) (E : Env) (h : Xn → M α) : R α → R α
  | .ex x S => trO (tst x.1) E h x S
  | r => r
@[simp] theorem x_try {tst : Nat → Option Bool} {E : Env} {m : M α} {h : Xn → M α} : dTry tst E m h S = trR tst E h (m S) := by
  unfold dTry trR
  cases m S with
  | ex x S => unfold trO; cases tst x.1 with
    | none => rfl
    | some b => cases b <;> rfl
  | _ => rfl
@[simp] theorem x_tryok {tst : Nat → Option Bool} {E : Env} {h : Xn → M α} {y : α} : trR tst E h (.ok y S) = .ok y S := rfl
@[simp] theorem x_tryex {tst : Nat → Option Bool} {E : Env} {h : Xn → M α} : trR tst E h (.ex x S) = trO (tst x.1) E h x S := rfl
@[simp] theorem x_tryO1 {E : Env} {h : Xn → M α} : trO (some true) E h x S = if noXc E then noEx (h x S) else .bad := rfl
@[simp] theorem x_tryO2 {E : Env} {h : Xn → M α} : trO (some false) E h x S = .ex x S := rfl
@[simp] theorem x_noEx {y : α} : noEx (.ok y S) = .ok y S := rfl
@[simp] theorem x_tab1 {c : Nat} {b : Bool} {l : List (Nat × Bool)} : tab ((c, b) :: l) c = some b := by
  unfold tab List.lookup
  simp
@[simp] theorem x_noXc0 : noXc [] = true := rfl
@[simp] theorem x_noXc1 {r : Env} : noXc (none :: r) = noXc r := by simp [noXc]
@[simp] theorem x_noXc2 {r : Env} : noXc (some (.fz d) :: r) = noXc r := by simp [noXc]
@[simp] theorem x_noXc3 {so : SO} {r : Env} : noXc (some (.ow so) :: r) = noXc r := by simp [noXc]
def xsO (o : Option Bool) (S : Store) : R Wv := match o with
  | some b => .ok (.fz (.bl b)) S
  | none => .bad
@[simp] theorem x_xis {tst : Nat → Option Bool} {y : Xn} : dXis tst y S = xsO (tst y.1) S := by
  unfold dXis cXis xsO
  cases tst y.1 <;> rfl
@[simp] theorem x_xisO {b : Bool} : xsO (some b) S = .ok (.fz (.bl b)) S := rfl
theorem x_xf {f : Str} {cs : List Nat} {c : Nat} {i : Int} (h : cs.contains c = true) : dXf f cs (c, some (f, i)) S = .ok (.fz (.int i)) S := by
  unfold dXf cXf
  simp only [h, xcAt, List.getElem?_cons_zero, Bool.and_self, if_true]
/-- a comprehension -/
@[simp] theorem x_lcStep {t : M Bool} {e : M D} : lcStep t e S = bindR (noEx (t S)) fun b S => if b then bindR (noEx (e S)) (fun y S => .ok (some y) S) else .ok none S := rfl
theorem lcS_fm {α : Type} {f : D → M (Option D)} {g : α → Option D} (enc : α → D) : ∀ (xs : List α) (acc : List D), (∀ x ∈ xs, f (enc x) S = .ok (g x) S) → acc.length + xs.length ≤ 16777216 → lcS f (xs.map enc) acc S = .ok (.ow (.lst (acc ++ xs.filterMap g))) S
  | [], acc, _, _ => by simp [lcS]
  | x :: r, acc, h, hl => by
    have hx := h x List.mem_cons_self
    unfold lcS
    rw [List.map_cons]
    dsimp only
    rw [hx]
    rw [List.length_cons] at hl
    cases q : g x with
    | none =>
      show lcS f (r.map enc) acc S = _
      rw [lcS_fm enc r acc (fun y hy => h y (List.mem_cons_of_mem _ hy)) (by omega), List.filterMap_cons, q]
    | some y =>
      show (if szOk (acc.length + 1) = true then lcS f (r.map enc) (acc ++ [y]) S else .bad) = _
      rw [if_pos (szOk_le (by omega)), lcS_fm enc r (acc ++ [y]) (fun y hy => h y (List.mem_cons_of_mem _ hy)) (by rw [List.length_append, List.length_singleton]; omega), List.filterMap_cons, q, List.append_assoc]
      rfl
theorem lcS_map {α : Type} {f : D → M (Option D)} {g : α → D} (enc : α → D) (xs : List α) (h : ∀ x ∈ xs, f (enc x) S = .ok (some (g x)) S) (hl : xs.length ≤ 16777216) : lcS f (xs.map enc) [] S = .ok (.ow (.lst (xs.map g))) S := by
  rw [lcS_fm (g := fun x => some (g x)) enc xs [] h (by simpa using hl), List.nil_append]
  have e : xs.filterMap (fun x => some (g x)) = xs.map g := by simp [List.filterMap_eq_map]
  rw [e]
theorem lcS_filter {α : Type} {f : D → M (Option D)} {g : α → D} {t : α → Bool} (enc : α → D) (xs : List α) (h : ∀ x ∈ xs, f (enc x) S = .ok (if t x then some (g x) else none) S) (hl : xs.length ≤ 16777216) : lcS f (xs.map enc) [] S = .ok (.ow (.lst ((xs.filter t).map g))) S := by
  rw [lcS_fm (g := fun x => if t x then some (g x) else none) enc xs [] h (by simpa using hl), List.nil_append]
  congr 3
  clear h hl
  induction xs with
  | nil => rfl
  | cons x r ih =>
    rw [List.filterMap_cons, List.filter_cons]
    cases t x with
    | true => simp [ih]
    | false => simp [ih]
/-- loops -/
theorem forD_nil {body : D → σ → M σ} {s : σ} : forD body [] s S = .ok s S := rfl
theorem forD_cons {body : D → σ → M σ} {r : List D} {s s' : σ} (h : body d s S = .ok s' S) : forD body (d :: r) s S = forD body r s' S := by
  show bindR (body d s S) (forD body r) = _
  rw [h]
  rfl
theorem forO_nil {body : D → σ → M (Out σ)} {s : σ} : forO body [] s S = .ok (.nx s) S := rfl
theorem forO_cons {body : D → σ → M (Out σ)} {r : List D} {s s' : σ} (h : body d s S = .ok (.nx s') S) : forO body (d :: r) s S = forO body r s' S := by
  show bindR (body d s S) (onO (forO body r)) = _
  rw [h]
  rfl
/-- the state by what has been walked -/
theorem forD_pre {α : Type} {body : D → σ → M σ} (enc : α → D) (st : List α → σ) (xs : List α) (h : ∀ l x r, xs = l ++ x :: r → body (enc x) (st l) S = .ok (st (l ++ [x])) S) : forD body (xs.map enc) (st []) S = .ok (st xs) S := by
  have go : ∀ (r l : List α), xs = l ++ r → forD body (r.map enc) (st l) S = .ok (st xs) S := by
    intro r
    induction r with
    | nil =>
      intro l e
      rw [e, List.append_nil]
      rfl
    | cons x r ih =>
      intro l e
      rw [List.map_cons, forD_cons (h l x r e)]
      exact ih (l ++ [x]) (by rw [e, List.append_assoc]; rfl)
  exact go xs [] rfl
theorem forO_pre {α : Type} {body : D → σ → M (Out σ)} (enc : α → D) (st : List α → σ) (xs : List α) (h : ∀ l x r, xs = l ++ x :: r → body (enc x) (st l) S = .ok (.nx (st (l ++ [x]))) S) : forO body (xs.map enc) (st []) S = .ok (.nx (st xs)) S := by
  have go : ∀ (r l : List α), xs = l ++ r → forO body (r.map enc) (st l) S = .ok (.nx (st xs)) S := by
    intro r
    induction r with
    | nil =>
      intro l e
      rw [e, List.append_nil]
      rfl
    | cons x r ih =>
      intro l e
      rw [List.map_cons, forO_cons (h l x r e)]
      exact ih (l ++ [x]) (by rw [e, List.append_assoc]; rfl)
  exact go xs [] rfl
/-- an invariant of what is left and the state -/
theorem forD_inv {α : Type} {body : D → σ → M σ} (enc : α → D) (I : List α → σ → Prop) (h : ∀ x r s, I (x :: r) s → ∃ s', body (enc x) s S = .ok s' S ∧ I r s') : ∀ (xs : List α) (s : σ), I xs s → ∃ s', forD body (xs.map enc) s S = .ok s' S ∧ I [] s'
  | [], s, i => ⟨s, rfl, i⟩
  | x :: r, s, i => by
    obtain ⟨s1, h1, i1⟩ := h x r s i
    obtain ⟨s2, h2, i2⟩ := forD_inv enc I h r s1 i1
    exact ⟨s2, by rw [List.map_cons, forD_cons h1]; exact h2, i2⟩
theorem forO_inv {α : Type} {body : D → σ → M (Out σ)} (enc : α → D) (I : List α → σ → Prop) (h : ∀ x r s, I (x :: r) s → ∃ s', body (enc x) s S = .ok (.nx s') S ∧ I r s') : ∀ (xs : List α) (s : σ), I xs s → ∃ s', forO body (xs.map enc) s S = .ok (.nx s') S ∧ I [] s'
  | [], s, i => ⟨s, rfl, i⟩
  | x :: r, s, i => by
    obtain ⟨s1, h1, i1⟩ := h x r s i
    obtain ⟨s2, h2, i2⟩ := forO_inv enc I h r s1 i1
    exact ⟨s2, by rw [List.map_cons, forO_cons h1]; exact h2, i2⟩
theorem rngD_map (lo : Int) (n : Nat) : rngD lo n = (List.range n).map fun i => D.int (lo + (i : Nat)) := rfl
theorem rngD_succ (n : Nat) : rngD 0 (n + 1) = rngD 0 n ++ [.int (n : Nat)] := by
  unfold rngD
  rw [List.range_succ, List.map_append]
  simp
theorem forD_rng {body : D → σ → M σ} (st : Nat → σ) (n : Nat) (h : ∀ k, k < n → body (.int (k : Nat)) (st k) S = .ok (st (k + 1)) S) : forD body (rngD 0 n) (st 0) S = .ok (st n) S := by
  have go : ∀ (m k : Nat), k + m = n → forD body ((List.range' k m).map fun i => D.int (i : Nat)) (st k) S = .ok (st n) S := by
    intro m
    induction m with
    | zero =>
      intro k e
      have : k = n := by omega
      subst this
      rfl
    | succ m ih =>
      intro k e
      rw [List.range'_succ, List.map_cons, forD_cons (h k (by omega))]
      exact ih (k + 1) (by omega)
  have := go n 0 (by omega)
  rw [← List.range_eq_range'] at this
  have e : rngD 0 n = (List.range n).map fun i => D.int (i : Nat) := by
    unfold rngD
    simp
  rw [e]
  exact this
theorem forO_rng {body : D → σ → M (Out σ)} (st : Nat → σ) (n : Nat) (h : ∀ k, k < n → body (.int (k : Nat)) (st k) S = .ok (.nx (st (k + 1))) S) : forO body (rngD 0 n) (st 0) S = .ok (.nx (st n)) S := by
  have go : ∀ (m k : Nat), k + m = n → forO body ((List.range' k m).map fun i => D.int (i : Nat)) (st k) S = .ok (.nx (st n)) S := by
    intro m
    induction m with
    | zero =>
      intro k e
      have : k = n := by omega
      subst this
      rfl
    | succ m ih =>
      intro k e
      rw [List.range'_succ, List.map_cons, forO_cons (h k (by omega))]
      exact ih (k + 1) (by omega)
  have := go n 0 (by omega)
  rw [← List.range_eq_range'] at this
  have e : rngD 0 n = (List.range n).map fun i => D.int (i : Nat) := by
    unfold rngD
    simp
  rw [e]
  exact this
/-- a range with an invariant -/
theorem forD_rngI {body : D → σ → M σ} (I : Nat → σ → Prop) (n : Nat) (h : ∀ k s, k < n → I k s → ∃ s', body (.int (k : Nat)) s S = .ok s' S ∧ I (k + 1) s') {s : σ} (h0 : I 0 s) : ∃ s', forD body (rngD 0 n) s S = .ok s' S ∧ I n s' := by
  have go : ∀ (m k : Nat) (s : σ), k + m = n → I k s → ∃ s', forD body ((List.range' k m).map fun i => D.int (i : Nat)) s S = .ok s' S ∧ I n s' := by
    intro m
    induction m with
    | zero =>
      intro k s e i
      have : k = n := by omega
      subst this
      exact ⟨s, rfl, i⟩
    | succ m ih =>
      intro k s e i
      obtain ⟨s1, h1, i1⟩ := h k s (by omega) i
      obtain ⟨s2, h2, i2⟩ := ih (k + 1) s1 (by omega) i1
      exact ⟨s2, by rw [List.range'_succ, List.map_cons, forD_cons h1]; exact h2, i2⟩
  have := go n 0 s (by omega) h0
  rw [← List.range_eq_range'] at this
  have e : rngD 0 n = (List.range n).map fun i => D.int (i : Nat) := by
    unfold rngD
    simp
  rw [e]
  exact this
theorem forO_rngI {body : D → σ → M (Out σ)} (I : Nat → σ → Prop) (n : Nat) (h : ∀ k s, k < n → I k s → ∃ s', body (.int (k : Nat)) s S = .ok (.nx s') S ∧ I (k + 1) s') {s : σ} (h0 : I 0 s) : ∃ s', forO body (rngD 0 n) s S = .ok (.nx s') S ∧ I n s' := by
  have go : ∀ (m k : Nat) (s : σ), k + m = n → I k s → ∃ s', forO body ((List.range' k m).map fun i => D.int (i : Nat)) s S = .ok (.nx s') S ∧ I n s' := by
    intro m
    induction m with
    | zero =>
      intro k s e i
      have : k = n := by omega
      subst this
      exact ⟨s, rfl, i⟩
    | succ m ih =>
      intro k s e i
      obtain ⟨s1, h1, i1⟩ := h k s (by omega) i
      obtain ⟨s2, h2, i2⟩ := ih (k + 1) s1 (by omega) i1
      exact ⟨s2, by rw [List.range'_succ, List.map_cons, forO_cons h1]; exact h2, i2⟩
  have := go n 0 s (by omega) h0
  rw [← List.range_eq_range'] at this
  have e : rngD 0 n = (List.range n).map fun i => D.int (i : Nat) := by
    unfold rngD
    simp
  rw [e]
  exact this
/-- while -/
theorem whD_stop {t : σ → M Bool} {body : σ → M σ} {n : Nat} {s : σ} (h : t s S = .ok false S) : whD t body (n + 1) s S = .ok s S := by
  show bindR (t s S) _ = _
  rw [h]
  rfl
theorem whD_step {t : σ → M Bool} {body : σ → M σ} {n : Nat} {s s' : σ} (h : t s S = .ok true S) (hb : body s S = .ok s' S) : whD t body (n + 1) s S = whD t body n s' S := by
  show bindR (t s S) _ = _
  rw [h]
  show bindR (body s S) (whD t body n) = _
  rw [hb]
  rfl
@[simp] theorem x_un1 {k : D → M β} {x0 : D} : un1 (.fz (.tup [x0])) k S = k x0 S := rfl
@[simp] theorem x_unl1 {k : D → M β} {x0 : D} : un1 (.fz (.lst [x0])) k S = k x0 S := rfl
@[simp] theorem x_uno1 {k : D → M β} {x0 : D} : un1 (.ow (.lst [x0])) k S = k x0 S := rfl
@[simp] theorem x_un2 {k : D → D → M β} {x0 x1 : D} : un2 (.fz (.tup [x0, x1])) k S = k x0 x1 S := rfl
@[simp] theorem x_unl2 {k : D → D → M β} {x0 x1 : D} : un2 (.fz (.lst [x0, x1])) k S = k x0 x1 S := rfl
@[simp] theorem x_uno2 {k : D → D → M β} {x0 x1 : D} : un2 (.ow (.lst [x0, x1])) k S = k x0 x1 S := rfl
@[simp] theorem x_un3 {k : D → D → D → M β} {x0 x1 x2 : D} : un3 (.fz (.tup [x0, x1, x2])) k S = k x0 x1 x2 S := rfl
@[simp] theorem x_unl3 {k : D → D → D → M β} {x0 x1 x2 : D} : un3 (.fz (.lst [x0, x1, x2])) k S = k x0 x1 x2 S := rfl
@[simp] theorem x_uno3 {k : D → D → D → M β} {x0 x1 x2 : D} : un3 (.ow (.lst [x0, x1, x2])) k S = k x0 x1 x2 S := rfl
@[simp] theorem x_un4 {k : D → D → D → D → M β} {x0 x1 x2 x3 : D} : un4 (.fz (.tup [x0, x1, x2, x3])) k S = k x0 x1 x2 x3 S := rfl
@[simp] theorem x_unl4 {k : D → D → D → D → M β} {x0 x1 x2 x3 : D} : un4 (.fz (.lst [x0, x1, x2, x3])) k S = k x0 x1 x2 x3 S := rfl
@[simp] theorem x_uno4 {k : D → D → D → D → M β} {x0 x1 x2 x3 : D} : un4 (.ow (.lst [x0, x1, x2, x3])) k S = k x0 x1 x2 x3 S := rfl
@[simp] theorem x_un5 {k : D → D → D → D → D → M β} {x0 x1 x2 x3 x4 : D} : un5 (.fz (.tup [x0, x1, x2, x3, x4])) k S = k x0 x1 x2 x3 x4 S := rfl
@[simp] theorem x_unl5 {k : D → D → D → D → D → M β} {x0 x1 x2 x3 x4 : D} : un5 (.fz (.lst [x0, x1, x2, x3, x4])) k S = k x0 x1 x2 x3 x4 S := rfl
@[simp] theorem x_uno5 {k : D → D → D → D → D → M β} {x0 x1 x2 x3 x4 : D} : un5 (.ow (.lst [x0, x1, x2, x3, x4])) k S = k x0 x1 x2 x3 x4 S := rfl
@[simp] theorem x_un6 {k : D → D → D → D → D → D → M β} {x0 x1 x2 x3 x4 x5 : D} : un6 (.fz (.tup [x0, x1, x2, x3, x4, x5])) k S = k x0 x1 x2 x3 x4 x5 S := rfl
@[simp] theorem x_unl6 {k : D → D → D → D → D → D → M β} {x0 x1 x2 x3 x4 x5 : D} : un6 (.fz (.lst [x0, x1, x2, x3, x4, x5])) k S = k x0 x1 x2 x3 x4 x5 S := rfl
@[simp] theorem x_uno6 {k : D → D → D → D → D → D → M β} {x0 x1 x2 x3 x4 x5 : D} : un6 (.ow (.lst [x0, x1, x2, x3, x4, x5])) k S = k x0 x1 x2 x3 x4 x5 S := rfl
@[simp] theorem x_un7 {k : D → D → D → D → D → D → D → M β} {x0 x1 x2 x3 x4 x5 x6 : D} : un7 (.fz (.tup [x0, x1, x2, x3, x4, x5, x6])) k S = k x0 x1 x2 x3 x4 x5 x6 S := rfl
@[simp] theorem x_unl7 {k : D → D → D → D → D → D → D → M β} {x0 x1 x2 x3 x4 x5 x6 : D} : un7 (.fz (.lst [x0, x1, x2, x3, x4, x5, x6])) k S = k x0 x1 x2 x3 x4 x5 x6 S := rfl
@[simp] theorem x_uno7 {k : D → D → D → D → D → D → D → M β} {x0 x1 x2 x3 x4 x5 x6 : D} : un7 (.ow (.lst [x0, x1, x2, x3, x4, x5, x6])) k S = k x0 x1 x2 x3 x4 x5 x6 S := rfl
@[simp] theorem x_un8 {k : D → D → D → D → D → D → D → D → M β} {x0 x1 x2 x3 x4 x5 x6 x7 : D} : un8 (.fz (.tup [x0, x1, x2, x3, x4, x5, x6, x7])) k S = k x0 x1 x2 x3 x4 x5 x6 x7 S := rfl
@[simp] theorem x_unl8 {k : D → D → D → D → D → D → D → D → M β} {x0 x1 x2 x3 x4 x5 x6 x7 : D} : un8 (.fz (.lst [x0, x1, x2, x3, x4, x5, x6, x7])) k S = k x0 x1 x2 x3 x4 x5 x6 x7 S := rfl
@[simp] theorem x_uno8 {k : D → D → D → D → D → D → D → D → M β} {x0 x1 x2 x3 x4 x5 x6 x7 : D} : un8 (.ow (.lst [x0, x1, x2, x3, x4, x5, x6, x7])) k S = k x0 x1 x2 x3 x4 x5 x6 x7 S := rfl
end
end Mir
set_option Elab.async false
set_option linter.all false
set_option maxRecDepth 100000
set_option maxHeartbeats 4000000
/-! G_k20: mirrors and code, printed by gen2.py -/
namespace G

open PySem L2 Mir
-- _law_cell
def m_cell_k20 : CS :=
    (cSeq (cKill [] (cIfS (cBin opLt (cBor 1) (cBlt bLen (bCons (cBor 0) bNil)))
      (cRet (cBin opSub2 (cBor 0) (cBor 1)))
      cSkip))
    (cSeq (cKill [] (cIfS (cBin opEq (cBor 0) (cLst cNil))
      (cRet (cUp (cC (.int 0))))
      cSkip))
    (cRet (cBin opMod (cBin opMul (cBin opMod (cBin opMul (cBin opAdd (cBin opSub2 (cBor 0) (cBin opMod (cBor 1) (cBlt bLen (bCons (cBor 0) bNil)))) (cBor 1)) (cUp (cC (.int 48271)))) (cUp (cC (.int 2147483647)))) (cUp (cC (.int 69621)))) (cUp (cC (.int 2147483629)))))))
def f_cell_k20 : Fn := runF 2 m_cell_k20
def g_cell_k20 (script_1 : D) (k_2 : D) : M Wv :=
 (ift (dBin opLt (pur (Wv.fz k_2)) (bLen [(Wv.fz script_1)]))
 (opSub2 (Wv.fz script_1) (Wv.fz k_2))
 (ift (dBin opEq (pur (Wv.fz script_1)) (dLst (pur [])))
 (pur (Wv.fz (D.int 0)))
 (dBin opMod (dBin opMul (dBin opMod (dBin opMul (dBin opAdd (dBin opSub2 (pur (Wv.fz script_1)) (dBin opMod (pur (Wv.fz k_2)) (bLen [(Wv.fz script_1)]))) (pur (Wv.fz k_2))) (pur (Wv.fz (D.int 48271)))) (pur (Wv.fz (D.int 2147483647)))) (pur (Wv.fz (D.int 69621)))) (pur (Wv.fz (D.int 2147483629))))))
theorem t_cell_k20 (script_1 : D) (k_2 : D) : Tl m_cell_k20 ([some (.fz script_1), some (.fz k_2)] : Mir.Env) (g_cell_k20 script_1 k_2) :=
 (tl_ifx (E0 := ([some (.fz script_1), some (.fz k_2)] : Mir.Env)) xt_ret rfl rfl (tl_ret rfl) (tl_ifx (E0 := ([some (.fz script_1), some (.fz k_2)] : Mir.Env)) xt_ret rfl rfl (tl_ret rfl) (tl_ret rfl)))
theorem c_cell_k20 (script_1 : D) (k_2 : D) (S : Store) : f_cell_k20 [script_1, k_2] S = g_cell_k20 script_1 k_2 S := fn_code rfl (t_cell_k20 script_1 k_2) S
-- _law_row
def m_row_k20 : CS :=
    (cSeq (cSet 3 (cBin opMod (cCall f_cell_k20 (cCons (cVar 0) (cCons (cC (.int 0)) cNil))) (cUp (cC (.int 3)))))
    (cSeq (cSet 4 (cLst cNil))
    (cSeq (cSet 5 (cLst cNil))
    (cSeq (cKill [0, 1, 2, 3, 5, 6, 7, 8, 9, 10, 11, 12] (cFor (cRng rng1 (cCons (cFz (cBin opMod (cCall f_cell_k20 (cCons (cVar 0) (cCons (cVar 1) cNil))) (cBin opAdd (cBor 2) (cUp (cC (.int 1)))))) cNil)) (.nm 6) (cSeq (cSet 7 (cLst cNil))
      (cSeq (cKill [6, 8, 10, 11, 12] (cFor (cRng rng1 (cCons (cC (.int 4)) cNil)) (.nm 8) (cSeq (cSet 10 (cCall f_cell_k20 (cCons (cVar 0) (cCons (cFz (cBin opAdd (cBin opAdd (cBin opAdd (cBor 1) (cUp (cC (.int 1)))) (cBin opMul (cUp (cC (.int 4))) (cBor 6))) (cBor 8))) cNil))))
        (cSeq (cSet 11 (cOrV (cBl (cBin opEq (cBor 3) (cUp (cC (.int 0))))) (cAndV (cBl (cBin opEq (cBor 3) (cUp (cC (.int 2))))) (cBl (cBin opEq (cBin opMod (cBor 10) (cUp (cC (.int 2)))) (cUp (cC (.int 0))))))))
        (cSeq (cKill [8, 11] (cSet 12 (cBin opSub2 (cBin opSub2 (cLst (cCons (cFz (cLst (cCons (cC (.int 9)) (cCons (cFz (cBin opAdd (cBin opPow (cUp (cC (.int 10))) (cUp (cC (.int 6)))) (cUp (cC (.int 1))))) cNil)))) (cCons (cFz (cLst (cCons (cC (.int 5)) (cCons (cFz (cBin opAdd (cBin opPow (cUp (cC (.int 10))) (cUp (cC (.int 6)))) (cUp (cC (.int 1))))) cNil)))) (cCons (cFz (cLst (cCons (cC (.int 6)) (cCons (cFz (cBin opPow (cUp (cC (.int 10))) (cUp (cC (.int 9))))) cNil)))) (cCons (cFz (cLst (cCons (cC (.int 30)) (cCons (cFz (cBin opAdd (cBin opPow (cUp (cC (.int 10))) (cUp (cC (.int 18)))) (cUp (cC (.int 1))))) cNil)))) cNil))))) (cBor 8)) (cBlt bInt (bCons (cNotV (cBor 11)) bNil)))))
        (cKill [10, 12] (cMut 7 "list" mAppend (cCons (cFz (cBin opMod (cBin opDiv (cBor 10) (cBin opSub2 (cLst (cCons (cC (.int 1)) (cCons (cC (.int 2)) cNil))) (cBlt bInt (bCons (cBl (cBin opEq (cBor 3) (cUp (cC (.int 2))))) bNil)))) (cBor 12))) cNil))))))))
      (cSeq (cSet 9 (cBin opSub2 (cBor 7) (cUp (cC (.int 0)))))
      (cSeq (cWhile (fun _ => 100000) (cBin opIn (cBor 9) (cBor 5)) (cSet 9 (cBin opMod (cBin opAdd (cBor 9) (cUp (cC (.int 1)))) (cBin opAdd (cBin opPow (cUp (cC (.int 10))) (cUp (cC (.int 6)))) (cUp (cC (.int 1)))))))
      (cSeq (cMut 5 "list" mAppend (cCons (cVar 9) cNil))
      (cKill [7, 9] (cMut 4 "list" mAppend (cCons (cTup (cCons (cFz (cBin opSub2 (cBor 7) (cUp (cC (.int 1))))) (cCons (cVar 9) (cCons (cFz (cBin opAdd (cUp (cC (.int 1))) (cBin opSub2 (cBor 7) (cUp (cC (.int 2)))))) (cCons (cFz (cBin opSub2 (cBor 7) (cUp (cC (.int 3))))) cNil))))) cNil))))))))))
    (cRet (cLc [13, 9, 14, 15] (.tp [13, 9, 14, 15]) cYes (cTup (cCons (cVar 9) (cCons (cVar 13) (cCons (cVar 14) (cCons (cVar 15) cNil))))) (cItems (cFz (cBlt bSorted (bCons (cBor 4) bNil))))))))))
def f_row_k20 : Fn := runF 16 m_row_k20
def g_row_k20_l1 (script_1 : D) (start_2 : D) (style_4 : Wv) (k_12 : D) : D → Wv → M (Wv) := fun (j_18 : D) (s_17 : Wv) => (bnd (dCall f_cell_k20 (dCons (pur script_1) (dCons (dFz (dBin opAdd (dBin opAdd (opAdd (Wv.fz start_2) (Wv.fz (D.int 1))) (opMul (Wv.fz (D.int 4)) (Wv.fz k_12))) (pur (Wv.fz j_18)))) (pur [])))) fun cell_here_19 =>
 (bnd (dOrV (dBl (dBin opEq (rd style_4) (pur (Wv.fz (D.int 0))))) (dAndV (dBl (dBin opEq (rd style_4) (pur (Wv.fz (D.int 2))))) (dBl (dBin opEq (dBin opMod (rd cell_here_19) (pur (Wv.fz (D.int 2)))) (pur (Wv.fz (D.int 0))))))) fun small_20 =>
 (bnd (dBin opSub2 (dBin opSub2 (dLst (dCons (dFz (dLst (dCons (pur (D.int 9)) (dCons (dFz (dBin opAdd (opPow (Wv.fz (D.int 10)) (Wv.fz (D.int 6))) (pur (Wv.fz (D.int 1))))) (pur []))))) (dCons (dFz (dLst (dCons (pur (D.int 5)) (dCons (dFz (dBin opAdd (opPow (Wv.fz (D.int 10)) (Wv.fz (D.int 6))) (pur (Wv.fz (D.int 1))))) (pur []))))) (dCons (dFz (dLst (dCons (pur (D.int 6)) (dCons (dFz (opPow (Wv.fz (D.int 10)) (Wv.fz (D.int 9)))) (pur []))))) (dCons (dFz (dLst (dCons (pur (D.int 30)) (dCons (dFz (dBin opAdd (opPow (Wv.fz (D.int 10)) (Wv.fz (D.int 18))) (pur (Wv.fz (D.int 1))))) (pur []))))) (pur [])))))) (pur (Wv.fz j_18))) (bnd (dConsB (dNotV (rd small_20)) (pur [])) bInt)) fun top_21 =>
 (bnd (dMut "list" mAppend s_17 (dCons (dFz (dBin opMod (dBin opDiv (rd cell_here_19) (dBin opSub2 (dLst (pur ((D.int 1) :: [(D.int 2)]))) (bnd (dConsB (dBl (dBin opEq (rd style_4) (pur (Wv.fz (D.int 2))))) (pur [])) bInt))) (rd top_21))) (pur []))) fun parts_22 => pur parts_22))))
def g_row_k20_l2 : Wv → M (Wv) := fun (s_26 : Wv) => (bnd (dBin opMod (dBin opAdd (rd s_26) (pur (Wv.fz (D.int 1)))) (dBin opAdd (opPow (Wv.fz (D.int 10)) (Wv.fz (D.int 6))) (pur (Wv.fz (D.int 1))))) fun number_27 => pur number_27)
def g_row_k20_l3 (script_1 : D) (start_2 : D) (style_4 : Wv) : D → (Wv × Wv) → M (Wv × Wv) := fun (k_12 : D) (s_11 : Wv × Wv) => (bnd (dLst (pur [])) fun parts_13 =>
 (bnd (bnd (rng1 [(D.int 4)]) fun items => forD (g_row_k20_l1 script_1 start_2 style_4 k_12) items parts_13) fun s_23 =>
 (bnd (dBin opSub2 (rd s_23) (pur (Wv.fz (D.int 0)))) fun number_24 =>
 (bnd (whD (fun (s_26 : Wv) => (dBin opIn (rd s_26) (rd s_11.2))) g_row_k20_l2 100000 number_24) fun s_28 =>
 (bnd (dMut "list" mAppend s_11.2 (dCons (rdD s_28) (pur []))) fun known_29 =>
 (bnd (dMut "list" mAppend s_11.1 (dCons (dTup (dCons (dFz (dBin opSub2 (rd s_23) (pur (Wv.fz (D.int 1))))) (dCons (rdD s_28) (dCons (dFz (dBin opAdd (pur (Wv.fz (D.int 1))) (dBin opSub2 (rd s_23) (pur (Wv.fz (D.int 2)))))) (dCons (dFz (dBin opSub2 (rd s_23) (pur (Wv.fz (D.int 3))))) (pur [])))))) (pur []))) fun rows_30 => pur (rows_30, known_29)))))))
def g_row_k20 (script_1 : D) (start_2 : D) (most_3 : D) : M Wv :=
 (bnd (dBin opMod (f_cell_k20 (script_1 :: [(D.int 0)])) (pur (Wv.fz (D.int 3)))) fun style_4 =>
 (bnd (dLst (pur [])) fun rows_5 =>
 (bnd (dLst (pur [])) fun known_6 =>
 (bnd (bnd (bnd (dCons (dFz (dBin opMod (f_cell_k20 (script_1 :: [start_2])) (opAdd (Wv.fz most_3) (Wv.fz (D.int 1))))) (pur [])) rng1) fun items => forD (g_row_k20_l3 script_1 start_2 style_4) items (rows_5, known_6)) fun s_31 =>
 (bnd (dItems (dFz (bnd (dConsB (rd s_31.1) (pur [])) bSorted))) fun items => lcS (fun d => un4 (.fz d) fun since_32 number_33 pieces_34 cost_35 => lcStep (pur true) (dTup (pur (number_33 :: (since_32 :: (pieces_34 :: [cost_35])))))) items [])))))
theorem t_row_k20 (script_1 : D) (start_2 : D) (most_3 : D) : Tl m_row_k20 ([some (.fz script_1), some (.fz start_2), some (.fz most_3), none, none, none, none, none, none, none, none, none, none, none, none, none] : Mir.Env) (g_row_k20 script_1 start_2 most_3) :=
 (tl_seq1 (E1 := (fun style_4 => ([some (.fz script_1), some (.fz start_2), some (.fz most_3), some style_4, none, none, none, none, none, none, none, none, none, none, none, none] : Mir.Env))) (bl_set (E1 := (fun style_4 => ([some (.fz script_1), some (.fz start_2), some (.fz most_3), some style_4, none, none, none, none, none, none, none, none, none, none, none, none] : Mir.Env))) (Nat.le_of_ble_eq_true rfl) rfl (fun _ => rfl)) (fun style_4 => (tl_seq1 (E1 := (fun rows_5 => ([some (.fz script_1), some (.fz start_2), some (.fz most_3), some style_4, some rows_5, none, none, none, none, none, none, none, none, none, none, none] : Mir.Env))) (bl_set (E1 := (fun rows_5 => ([some (.fz script_1), some (.fz start_2), some (.fz most_3), some style_4, some rows_5, none, none, none, none, none, none, none, none, none, none, none] : Mir.Env))) (Nat.le_of_ble_eq_true rfl) rfl (fun _ => rfl)) (fun rows_5 => (tl_seq1 (E1 := (fun known_6 => ([some (.fz script_1), some (.fz start_2), some (.fz most_3), some style_4, some rows_5, some known_6, none, none, none, none, none, none, none, none, none, none] : Mir.Env))) (bl_set (E1 := (fun known_6 => ([some (.fz script_1), some (.fz start_2), some (.fz most_3), some style_4, some rows_5, some known_6, none, none, none, none, none, none, none, none, none, none] : Mir.Env))) (Nat.le_of_ble_eq_true rfl) rfl (fun _ => rfl)) (fun known_6 => (tl_seq1 (E1 := (fun (s_31 : (Wv × Wv)) => ([none, none, none, none, some s_31.1, none, none, none, none, none, none, none, none, none, none, none] : Mir.Env))) (bl_kill (E1 := (fun (s_31 : Wv × Wv) => ([some (.fz script_1), some (.fz start_2), some (.fz most_3), some style_4, some s_31.1, some s_31.2, none, none, none, none, none, none, none, none, none, none] : Mir.Env))) (E3 := (fun (s_31 : (Wv × Wv)) => ([none, none, none, none, some s_31.1, none, none, none, none, none, none, none, none, none, none, none] : Mir.Env))) (bl_for (Es := (fun (s_11 : Wv × Wv) => ([some (.fz script_1), some (.fz start_2), some (.fz most_3), some style_4, some s_11.1, some s_11.2, none, none, none, none, none, none, none, none, none, none] : Mir.Env))) (rows_5, known_6) rfl rfl (sb_nm (E3 := fun k_12 (s_11 : (Wv × Wv)) => ([some (.fz script_1), some (.fz start_2), some (.fz most_3), some style_4, some s_11.1, some s_11.2, some (.fz k_12), none, none, none, none, none, none, none, none, none] : Mir.Env)) (fun _ => (Nat.le_of_ble_eq_true rfl)) (fun _ _ => rfl) (fun k_12 s_11 => (bl_seq (E1 := (fun parts_13 => ([some (.fz script_1), some (.fz start_2), some (.fz most_3), some style_4, some s_11.1, some s_11.2, some (.fz k_12), some parts_13, none, none, none, none, none, none, none, none] : Mir.Env))) (bl_set (E1 := (fun parts_13 => ([some (.fz script_1), some (.fz start_2), some (.fz most_3), some style_4, some s_11.1, some s_11.2, some (.fz k_12), some parts_13, none, none, none, none, none, none, none, none] : Mir.Env))) (Nat.le_of_ble_eq_true rfl) rfl (fun _ => rfl)) (fun parts_13 => (bl_seq (E1 := (fun (s_23 : (Wv)) => ([some (.fz script_1), some (.fz start_2), some (.fz most_3), some style_4, some s_11.1, some s_11.2, none, some s_23, none, none, none, none, none, none, none, none] : Mir.Env))) (bl_kill (E1 := (fun (s_23 : Wv) => ([some (.fz script_1), some (.fz start_2), some (.fz most_3), some style_4, some s_11.1, some s_11.2, some (.fz k_12), some s_23, none, none, none, none, none, none, none, none] : Mir.Env))) (E3 := (fun (s_23 : (Wv)) => ([some (.fz script_1), some (.fz start_2), some (.fz most_3), some style_4, some s_11.1, some s_11.2, none, some s_23, none, none, none, none, none, none, none, none] : Mir.Env))) (bl_for (Es := (fun (s_17 : Wv) => ([some (.fz script_1), some (.fz start_2), some (.fz most_3), some style_4, some s_11.1, some s_11.2, some (.fz k_12), some s_17, none, none, none, none, none, none, none, none] : Mir.Env))) parts_13 rfl rfl (sb_nm (E3 := fun j_18 (s_17 : (Wv)) => ([some (.fz script_1), some (.fz start_2), some (.fz most_3), some style_4, some s_11.1, some s_11.2, some (.fz k_12), some s_17, some (.fz j_18), none, none, none, none, none, none, none] : Mir.Env)) (fun _ => (Nat.le_of_ble_eq_true rfl)) (fun _ _ => rfl) (fun j_18 s_17 => (bl_seq (E1 := (fun cell_here_19 => ([some (.fz script_1), some (.fz start_2), some (.fz most_3), some style_4, some s_11.1, some s_11.2, some (.fz k_12), some s_17, some (.fz j_18), none, some cell_here_19, none, none, none, none, none] : Mir.Env))) (bl_set (E1 := (fun cell_here_19 => ([some (.fz script_1), some (.fz start_2), some (.fz most_3), some style_4, some s_11.1, some s_11.2, some (.fz k_12), some s_17, some (.fz j_18), none, some cell_here_19, none, none, none, none, none] : Mir.Env))) (Nat.le_of_ble_eq_true rfl) rfl (fun _ => rfl)) (fun cell_here_19 => (bl_seq (E1 := (fun small_20 => ([some (.fz script_1), some (.fz start_2), some (.fz most_3), some style_4, some s_11.1, some s_11.2, some (.fz k_12), some s_17, some (.fz j_18), none, some cell_here_19, some small_20, none, none, none, none] : Mir.Env))) (bl_set (E1 := (fun small_20 => ([some (.fz script_1), some (.fz start_2), some (.fz most_3), some style_4, some s_11.1, some s_11.2, some (.fz k_12), some s_17, some (.fz j_18), none, some cell_here_19, some small_20, none, none, none, none] : Mir.Env))) (Nat.le_of_ble_eq_true rfl) rfl (fun _ => rfl)) (fun small_20 => (bl_seq (E1 := (fun (top_21 : Wv) => ([some (.fz script_1), some (.fz start_2), some (.fz most_3), some style_4, some s_11.1, some s_11.2, some (.fz k_12), some s_17, none, none, some cell_here_19, none, some top_21, none, none, none] : Mir.Env))) (bl_kill (E1 := (fun top_21 => ([some (.fz script_1), some (.fz start_2), some (.fz most_3), some style_4, some s_11.1, some s_11.2, some (.fz k_12), some s_17, some (.fz j_18), none, some cell_here_19, some small_20, some top_21, none, none, none] : Mir.Env))) (E3 := (fun (top_21 : Wv) => ([some (.fz script_1), some (.fz start_2), some (.fz most_3), some style_4, some s_11.1, some s_11.2, some (.fz k_12), some s_17, none, none, some cell_here_19, none, some top_21, none, none, none] : Mir.Env))) (bl_set (E1 := (fun top_21 => ([some (.fz script_1), some (.fz start_2), some (.fz most_3), some style_4, some s_11.1, some s_11.2, some (.fz k_12), some s_17, some (.fz j_18), none, some cell_here_19, some small_20, some top_21, none, none, none] : Mir.Env))) (Nat.le_of_ble_eq_true rfl) rfl (fun _ => rfl)) (fun _ => rfl)) (fun top_21 => (bl_last (E1 := (fun (parts_22 : Wv) => ([some (.fz script_1), some (.fz start_2), some (.fz most_3), some style_4, some s_11.1, some s_11.2, some (.fz k_12), some parts_22, none, none, none, none, none, none, none, none] : Mir.Env))) (bl_kill (E1 := (fun parts_22 => ([some (.fz script_1), some (.fz start_2), some (.fz most_3), some style_4, some s_11.1, some s_11.2, some (.fz k_12), some parts_22, none, none, some cell_here_19, none, some top_21, none, none, none] : Mir.Env))) (E3 := (fun (parts_22 : Wv) => ([some (.fz script_1), some (.fz start_2), some (.fz most_3), some style_4, some s_11.1, some s_11.2, some (.fz k_12), some parts_22, none, none, none, none, none, none, none, none] : Mir.Env))) (bl_mut (w := s_17) (E1 := (fun parts_22 => ([some (.fz script_1), some (.fz start_2), some (.fz most_3), some style_4, some s_11.1, some s_11.2, some (.fz k_12), some parts_22, none, none, some cell_here_19, none, some top_21, none, none, none] : Mir.Env))) rfl rfl (fun _ => rfl)) (fun _ => rfl)) (fun _ => rfl))))))))))) (fun _ => rfl)) (fun s_23 => (bl_seq (E1 := (fun number_24 => ([some (.fz script_1), some (.fz start_2), some (.fz most_3), some style_4, some s_11.1, some s_11.2, none, some s_23, none, some number_24, none, none, none, none, none, none] : Mir.Env))) (bl_set (E1 := (fun number_24 => ([some (.fz script_1), some (.fz start_2), some (.fz most_3), some style_4, some s_11.1, some s_11.2, none, some s_23, none, some number_24, none, none, none, none, none, none] : Mir.Env))) (Nat.le_of_ble_eq_true rfl) rfl (fun _ => rfl)) (fun number_24 => (bl_seq (E1 := (fun (s_28 : Wv) => ([some (.fz script_1), some (.fz start_2), some (.fz most_3), some style_4, some s_11.1, some s_11.2, none, some s_23, none, some s_28, none, none, none, none, none, none] : Mir.Env))) (bl_while (Es := (fun (s_26 : Wv) => ([some (.fz script_1), some (.fz start_2), some (.fz most_3), some style_4, some s_11.1, some s_11.2, none, some s_23, none, some s_26, none, none, none, none, none, none] : Mir.Env))) number_24 rfl (fun s_26 => rfl) (fun s_26 => (bl_last (E1 := (fun number_27 => ([some (.fz script_1), some (.fz start_2), some (.fz most_3), some style_4, some s_11.1, some s_11.2, none, some s_23, none, some number_27, none, none, none, none, none, none] : Mir.Env))) (bl_set (E1 := (fun number_27 => ([some (.fz script_1), some (.fz start_2), some (.fz most_3), some style_4, some s_11.1, some s_11.2, none, some s_23, none, some number_27, none, none, none, none, none, none] : Mir.Env))) (Nat.le_of_ble_eq_true rfl) rfl (fun _ => rfl)) (fun _ => rfl)))) (fun s_28 => (bl_seq (E1 := (fun known_29 => ([some (.fz script_1), some (.fz start_2), some (.fz most_3), some style_4, some s_11.1, some known_29, none, some s_23, none, some s_28, none, none, none, none, none, none] : Mir.Env))) (bl_mut (w := s_11.2) (E1 := (fun known_29 => ([some (.fz script_1), some (.fz start_2), some (.fz most_3), some style_4, some s_11.1, some known_29, none, some s_23, none, some s_28, none, none, none, none, none, none] : Mir.Env))) rfl rfl (fun _ => rfl)) (fun known_29 => (bl_last (E1 := (fun (rows_30 : Wv) => ([some (.fz script_1), some (.fz start_2), some (.fz most_3), some style_4, some rows_30, some known_29, none, none, none, none, none, none, none, none, none, none] : Mir.Env))) (bl_kill (E1 := (fun rows_30 => ([some (.fz script_1), some (.fz start_2), some (.fz most_3), some style_4, some rows_30, some known_29, none, some s_23, none, some s_28, none, none, none, none, none, none] : Mir.Env))) (E3 := (fun (rows_30 : Wv) => ([some (.fz script_1), some (.fz start_2), some (.fz most_3), some style_4, some rows_30, some known_29, none, none, none, none, none, none, none, none, none, none] : Mir.Env))) (bl_mut (w := s_11.1) (E1 := (fun rows_30 => ([some (.fz script_1), some (.fz start_2), some (.fz most_3), some style_4, some rows_30, some known_29, none, some s_23, none, some s_28, none, none, none, none, none, none] : Mir.Env))) rfl rfl (fun _ => rfl)) (fun _ => rfl)) (fun _ => rfl))))))))))))))) (fun _ => rfl)) (fun s_31 => (tl_ret (congrArg (fun h_36 => h_36) (show ((cLc [13, 9, 14, 15] (.tp [13, 9, 14, 15]) cYes (cTup (cCons (cVar 9) (cCons (cVar 13) (cCons (cVar 14) (cCons (cVar 15) cNil))))) (cItems (cFz (cBlt bSorted (bCons (cBor 4) bNil))))) : CE) ([none, none, none, none, some s_31.1, none, none, none, none, none, none, none, none, none, none, none] : Mir.Env) = (bnd (dItems (dFz (bnd (dConsB (rd s_31.1) (pur [])) bSorted))) fun items => lcS (fun d => un4 (.fz d) fun since_32 number_33 pieces_34 cost_35 => lcStep (pur true) (dTup (pur (number_33 :: (since_32 :: (pieces_34 :: [cost_35])))))) items []) from (lc_tp4 (E3 := fun since_32 number_33 pieces_34 cost_35 => ([none, none, none, none, some s_31.1, none, none, none, none, some (.fz number_33), none, none, none, some (.fz since_32), some (.fz pieces_34), some (.fz cost_35)] : Mir.Env)) (Nat.le_of_ble_eq_true rfl) (Nat.le_of_ble_eq_true rfl) (Nat.le_of_ble_eq_true rfl) (Nat.le_of_ble_eq_true rfl) (fun _ _ _ _ => rfl) rfl (fun since_32 number_33 pieces_34 cost_35 => rfl) (fun since_32 number_33 pieces_34 cost_35 => rfl)))))))))))))
theorem c_row_k20 (script_1 : D) (start_2 : D) (most_3 : D) (S : Store) : f_row_k20 [script_1, start_2, most_3] S = g_row_k20 script_1 start_2 most_3 S := fn_code rfl (t_row_k20 script_1 start_2 most_3) S
-- Lot.__init__
def m_Lot_init : CI :=
    (iSeq (iSet "number" (cVar 1))
    (iSeq (iSet "since" (cVar 2))
    (iSeq (iSet "pieces" (cVar 3))
    (iSeq (iSet "cost" (cVar 4))
    iNil))))
def f_Lot_init : FnI := runI 5 m_Lot_init
-- _law_lots
def m_lots_k20 : CS :=
    (cRet (cLc [1, 2, 3, 4] (.tp [1, 2, 3, 4]) cYes (cFz (cMk 18 f_Lot_init (cCons (cVar 1) (cCons (cVar 2) (cCons (cVar 3) (cCons (cVar 4) cNil)))))) (cItems (cVar 0))))
def f_lots_k20 : Fn := runF 5 m_lots_k20
def g_lots_k20 (row_here_1 : D) : M Wv :=
 (bnd (dItems (pur row_here_1)) fun items => lcS (fun d => un4 (.fz d) fun number_2 since_3 pieces_4 cost_5 => lcStep (pur true) (dFz (dMk 18 f_Lot_init (pur (number_2 :: (since_3 :: (pieces_4 :: [cost_5]))))))) items [])
theorem t_lots_k20 (row_here_1 : D) : Tl m_lots_k20 ([some (.fz row_here_1), none, none, none, none] : Mir.Env) (g_lots_k20 row_here_1) :=
 (tl_ret (congrArg (fun h_6 => h_6) (show ((cLc [1, 2, 3, 4] (.tp [1, 2, 3, 4]) cYes (cFz (cMk 18 f_Lot_init (cCons (cVar 1) (cCons (cVar 2) (cCons (cVar 3) (cCons (cVar 4) cNil)))))) (cItems (cVar 0))) : CE) ([some (.fz row_here_1), none, none, none, none] : Mir.Env) = (bnd (dItems (pur row_here_1)) fun items => lcS (fun d => un4 (.fz d) fun number_2 since_3 pieces_4 cost_5 => lcStep (pur true) (dFz (dMk 18 f_Lot_init (pur (number_2 :: (since_3 :: (pieces_4 :: [cost_5]))))))) items []) from (lc_tp4 (E3 := fun number_2 since_3 pieces_4 cost_5 => ([some (.fz row_here_1), some (.fz number_2), some (.fz since_3), some (.fz pieces_4), some (.fz cost_5)] : Mir.Env)) (Nat.le_of_ble_eq_true rfl) (Nat.le_of_ble_eq_true rfl) (Nat.le_of_ble_eq_true rfl) (Nat.le_of_ble_eq_true rfl) (fun _ _ _ _ => rfl) rfl (fun number_2 since_3 pieces_4 cost_5 => rfl) (fun number_2 since_3 pieces_4 cost_5 => rfl)))))
theorem c_lots_k20 (row_here_1 : D) (S : Store) : f_lots_k20 [row_here_1] S = g_lots_k20 row_here_1 S := fn_code rfl (t_lots_k20 row_here_1) S
-- Lot.told
def m_Lot_told : CS :=
    (cRet (cUp (cTup (cCons (cFld "number" [18] (cBor 0)) (cCons (cFld "since" [18] (cBor 0)) (cCons (cFld "pieces" [18] (cBor 0)) (cCons (cFld "cost" [18] (cBor 0)) cNil)))))))
def f_Lot_told : Fn := runF 1 m_Lot_told
def g_Lot_told (self_1 : D) : M Wv :=
 (dUp (dTup (dCons (dFld "number" [18] (pur (Wv.fz self_1))) (dCons (dFld "since" [18] (pur (Wv.fz self_1))) (dCons (dFld "pieces" [18] (pur (Wv.fz self_1))) (dCons (dFld "cost" [18] (pur (Wv.fz self_1))) (pur [])))))))
theorem t_Lot_told (self_1 : D) : Tl m_Lot_told ([some (.fz self_1)] : Mir.Env) (g_Lot_told self_1) :=
 (tl_ret rfl)
theorem c_Lot_told (self_1 : D) (S : Store) : f_Lot_told [self_1] S = g_Lot_told self_1 S := fn_code rfl (t_Lot_told self_1) S
-- _law_are
def m_are_k20 : CS :=
    (cSeq (cKill [] (cIfS (cOr (cNot (cTst (cUn (opIsTy "list") (cBor 0)))) (cBin (notM opEq) (cBlt bLen (bCons (cBor 0) bNil)) (cBlt bLen (bCons (cBor 1) bNil))))
      (cRet (cUp (cC (.bl false))))
      cSkip))
    (cSeq (cKill [0, 1, 2, 3, 4] (cFor (cZip (cCons (cVar 0) (cCons (cVar 1) cNil))) (.tp [2, 3]) (cSeq (cSet 4 (cMeth "told" (tabF [(18, f_Lot_told)]) (cVar 2) cNil))
      (cSeq (cKill [] (cIfS (cOr (cNot (cTst (cIsO (tab [(18, true)]) (cBor 2)))) (cOr (cNot (cTst (cUn (opIsTy "tuple") (cBor 4)))) (cBin (notM opEq) (cBor 4) (cBor 3))))
        (cRet (cUp (cC (.bl false))))
        cSkip))
      (cFrz 4 (cKill [2, 3, 4] (cIfS (cOr (cBin (notM opEq) (cUp (cTup (cCons (cFld "number" [18] (cBor 2)) (cCons (cFld "since" [18] (cBor 2)) (cCons (cFld "pieces" [18] (cBor 2)) (cCons (cFld "cost" [18] (cBor 2)) cNil)))))) (cBor 3)) (cNot (cTst (cBlt bAll (bCons (cLc [5] (.nm 5) cYes (cFz (cCall f_whole_k01 (cCons (cVar 5) cNil))) (cItems (cVar 4))) bNil)))))
        (cRet (cUp (cC (.bl false))))
        cSkip)))))))
    (cRet (cUp (cC (.bl true))))))
def f_are_k20 : Fn := runF 6 m_are_k20
def g_are_k20_l1 : D → Unit → M (Out (Unit)) := fun (d : D) (s_5 : Unit) => un2 (Wv.fz d) fun lot_6 due_7 => (bnd (dMeth "told" (tabF [(18, f_Lot_told)]) (pur lot_6) (pur [])) fun told_8 =>
 (ift (dOr (dNot (dTst (dIsO (tab [(18, true)]) (pur (Wv.fz lot_6))))) (dOr (dNot (dTst (dUn (opIsTy "tuple") (rd told_8)))) (dBin (notM opEq) (rd told_8) (pur (Wv.fz due_7)))))
 (bnd (pur (Wv.fz (D.bl false))) fun w => pur (.rt w))
 (bnO (ift (dOr (dBin (notM opEq) (dUp (dTup (dCons (dFld "number" [18] (pur (Wv.fz lot_6))) (dCons (dFld "since" [18] (pur (Wv.fz lot_6))) (dCons (dFld "pieces" [18] (pur (Wv.fz lot_6))) (dCons (dFld "cost" [18] (pur (Wv.fz lot_6))) (pur []))))))) (pur (Wv.fz due_7))) (dNot (dTst (bnd (dConsB (bnd (dItems (rdD told_8.fzn)) fun items => lcS (fun part_10 => lcStep (pur true) (dFz (f_whole_k01 [part_10]))) items []) (pur [])) bAll))))
 (bnd (pur (Wv.fz (D.bl false))) fun w => pur (.rt w))
 (pur (.nx ()))) fun s_9 => pur (.nx ()))))
def g_are_k20 (lots_here_1 : D) (row_here_2 : D) : M Wv :=
 (ift (dOr (dNot (dTst ((opIsTy "list") (Wv.fz lots_here_1)))) (dBin (notM opEq) (bLen [(Wv.fz lots_here_1)]) (bLen [(Wv.fz row_here_2)])))
 (pur (Wv.fz (D.bl false)))
 (bnT (bnd (bnd (pur (lots_here_1 :: [row_here_2])) zipO) fun items => forO g_are_k20_l1 items ()) fun s_12 =>
 (pur (Wv.fz (D.bl true)))))
theorem t_are_k20 (lots_here_1 : D) (row_here_2 : D) : Tl m_are_k20 ([some (.fz lots_here_1), some (.fz row_here_2), none, none, none, none] : Mir.Env) (g_are_k20 lots_here_1 row_here_2) :=
 (tl_ifx (E0 := ([some (.fz lots_here_1), some (.fz row_here_2), none, none, none, none] : Mir.Env)) xt_ret rfl rfl (tl_ret rfl) (tl_seq (E1 := (fun (s_12 : (Unit)) => ([none, none, none, none, none, none] : Mir.Env))) (bo_kill (E1 := (fun (s_12 : Unit) => ([some (.fz lots_here_1), some (.fz row_here_2), none, none, none, none] : Mir.Env))) (E3 := (fun (s_12 : (Unit)) => ([none, none, none, none, none, none] : Mir.Env))) (bo_for (Es := (fun (s_5 : Unit) => ([some (.fz lots_here_1), some (.fz row_here_2), none, none, none, none] : Mir.Env))) () rfl rfl (so_tp2 (E3 := fun lot_6 due_7 (s_5 : (Unit)) => ([some (.fz lots_here_1), some (.fz row_here_2), some (.fz lot_6), some (.fz due_7), none, none] : Mir.Env)) (bd := fun lot_6 due_7 (s_5 : (Unit)) => (bnd (dMeth "told" (tabF [(18, f_Lot_told)]) (pur lot_6) (pur [])) fun told_8 =>
 (ift (dOr (dNot (dTst (dIsO (tab [(18, true)]) (pur (Wv.fz lot_6))))) (dOr (dNot (dTst (dUn (opIsTy "tuple") (rd told_8)))) (dBin (notM opEq) (rd told_8) (pur (Wv.fz due_7)))))
 (bnd (pur (Wv.fz (D.bl false))) fun w => pur (.rt w))
 (bnO (ift (dOr (dBin (notM opEq) (dUp (dTup (dCons (dFld "number" [18] (pur (Wv.fz lot_6))) (dCons (dFld "since" [18] (pur (Wv.fz lot_6))) (dCons (dFld "pieces" [18] (pur (Wv.fz lot_6))) (dCons (dFld "cost" [18] (pur (Wv.fz lot_6))) (pur []))))))) (pur (Wv.fz due_7))) (dNot (dTst (bnd (dConsB (bnd (dItems (rdD told_8.fzn)) fun items => lcS (fun part_10 => lcStep (pur true) (dFz (f_whole_k01 [part_10]))) items []) (pur [])) bAll))))
 (bnd (pur (Wv.fz (D.bl false))) fun w => pur (.rt w))
 (pur (.nx ()))) fun s_9 => pur (.nx ()))))) (fun _ => ⟨(Nat.le_of_ble_eq_true rfl), (Nat.le_of_ble_eq_true rfl)⟩) (fun _ _ _ => rfl) (fun lot_6 due_7 s_5 => (bo_seq1 (E1 := (fun told_8 => ([some (.fz lots_here_1), some (.fz row_here_2), some (.fz lot_6), some (.fz due_7), some told_8, none] : Mir.Env))) (bl_set (E1 := (fun told_8 => ([some (.fz lots_here_1), some (.fz row_here_2), some (.fz lot_6), some (.fz due_7), some told_8, none] : Mir.Env))) (Nat.le_of_ble_eq_true rfl) rfl (fun _ => rfl)) (fun told_8 => (bo_ifx (E0 := ([some (.fz lots_here_1), some (.fz row_here_2), some (.fz lot_6), some (.fz due_7), some told_8, none] : Mir.Env)) xt_ret rfl rfl (bo_ret rfl) (bo_frz (E0 := ([some (.fz lots_here_1), some (.fz row_here_2), some (.fz lot_6), some (.fz due_7), some told_8.fzn, none] : Mir.Env)) told_8 rfl rfl (bo_last (E1 := (fun (s_9 : Unit) => ([some (.fz lots_here_1), some (.fz row_here_2), none, none, none, none] : Mir.Env))) (bo_kif (bo_if (congrArg (fun h_11 => (dOr (dBin (notM opEq) (dUp (dTup (dCons (dFld "number" [18] (pur (Wv.fz lot_6))) (dCons (dFld "since" [18] (pur (Wv.fz lot_6))) (dCons (dFld "pieces" [18] (pur (Wv.fz lot_6))) (dCons (dFld "cost" [18] (pur (Wv.fz lot_6))) (pur []))))))) (pur (Wv.fz due_7))) (dNot (dTst (bnd (dConsB h_11 (pur [])) bAll))))) (show ((cLc [5] (.nm 5) cYes (cFz (cCall f_whole_k01 (cCons (cVar 5) cNil))) (cItems (cVar 4))) : CE) ([some (.fz lots_here_1), some (.fz row_here_2), some (.fz lot_6), some (.fz due_7), some told_8.fzn, none] : Mir.Env) = (bnd (dItems (rdD told_8.fzn)) fun items => lcS (fun part_10 => lcStep (pur true) (dFz (f_whole_k01 [part_10]))) items []) from (lc_nm (E3 := fun part_10 => ([some (.fz lots_here_1), some (.fz row_here_2), some (.fz lot_6), some (.fz due_7), some told_8.fzn, some (.fz part_10)] : Mir.Env)) (Nat.le_of_ble_eq_true rfl) (fun _ => rfl) rfl (fun part_10 => rfl) (fun part_10 => rfl)))) (bo_kx xt_ret (bo_ret rfl)) (bo_kskip rfl))) (fun _ => rfl))))))))) (fun _ => rfl)) (fun s_12 => (tl_ret rfl))))
theorem c_are_k20 (lots_here_1 : D) (row_here_2 : D) (S : Store) : f_are_k20 [lots_here_1, row_here_2] S = g_are_k20 lots_here_1 row_here_2 S := fn_code rfl (t_are_k20 lots_here_1 row_here_2) S
-- Lot.is_dearer
def m_Lot_is_dearer : CS :=
    (cRet (cBl (cBin opGt (cBin opMul (cUp (cFld "cost" [18] (cBor 0))) (cUp (cFld "pieces" [18] (cBor 1)))) (cBin opMul (cUp (cFld "cost" [18] (cBor 1))) (cUp (cFld "pieces" [18] (cBor 0)))))))
def f_Lot_is_dearer : Fn := runF 2 m_Lot_is_dearer
def g_Lot_is_dearer (self_1 : D) (other_2 : D) : M Wv :=
 (dBl (dBin opGt (dBin opMul (dUp (dFld "cost" [18] (pur (Wv.fz self_1)))) (dUp (dFld "pieces" [18] (pur (Wv.fz other_2))))) (dBin opMul (dUp (dFld "cost" [18] (pur (Wv.fz other_2)))) (dUp (dFld "pieces" [18] (pur (Wv.fz self_1)))))))
theorem t_Lot_is_dearer (self_1 : D) (other_2 : D) : Tl m_Lot_is_dearer ([some (.fz self_1), some (.fz other_2)] : Mir.Env) (g_Lot_is_dearer self_1 other_2) :=
 (tl_ret rfl)
theorem c_Lot_is_dearer (self_1 : D) (other_2 : D) (S : Store) : f_Lot_is_dearer [self_1, other_2] S = g_Lot_is_dearer self_1 other_2 S := fn_code rfl (t_Lot_is_dearer self_1 other_2) S
-- Lot.with_more
def m_Lot_with_more : CS :=
    (cRet (cMk 18 f_Lot_init (cCons (cFld "number" [18] (cBor 0)) (cCons (cFld "since" [18] (cBor 0)) (cCons (cFz (cBin opAdd (cUp (cFld "pieces" [18] (cBor 0))) (cBor 1))) (cCons (cFz (cBin opAdd (cUp (cFld "cost" [18] (cBor 0))) (cBor 2))) cNil))))))
def f_Lot_with_more : Fn := runF 3 m_Lot_with_more
def g_Lot_with_more (self_1 : D) (pieces_2 : D) (cost_3 : D) : M Wv :=
 (dMk 18 f_Lot_init (dCons (dFld "number" [18] (pur (Wv.fz self_1))) (dCons (dFld "since" [18] (pur (Wv.fz self_1))) (dCons (dFz (dBin opAdd (dUp (dFld "pieces" [18] (pur (Wv.fz self_1)))) (pur (Wv.fz pieces_2)))) (dCons (dFz (dBin opAdd (dUp (dFld "cost" [18] (pur (Wv.fz self_1)))) (pur (Wv.fz cost_3)))) (pur []))))))
theorem t_Lot_with_more (self_1 : D) (pieces_2 : D) (cost_3 : D) : Tl m_Lot_with_more ([some (.fz self_1), some (.fz pieces_2), some (.fz cost_3)] : Mir.Env) (g_Lot_with_more self_1 pieces_2 cost_3) :=
 (tl_ret rfl)
theorem c_Lot_with_more (self_1 : D) (pieces_2 : D) (cost_3 : D) (S : Store) : f_Lot_with_more [self_1, pieces_2, cost_3] S = g_Lot_with_more self_1 pieces_2 cost_3 S := fn_code rfl (t_Lot_with_more self_1 pieces_2 cost_3) S
end G
set_option Elab.async false
set_option linter.all false
set_option maxRecDepth 100000
set_option exponentiation.threshold 100000
/-! M_row: the cells, the row of lots that a script tells, and what looks at rows. -/
namespace G
open PySem L2 Mir
variable {S : Store}
/-! ### cells -/
def cel (ns : List Int) (k : Nat) : Int := if k < ns.length then MirC.cl ns k else if ns = [] then 0 else (MirC.cl ns (k % ns.length) + k) * 48271 % 2147483647 * 69621 % 2147483629
theorem eqv_scr (ns : List Int) : eqvD (.scr ns) (.lst []) = decide (ns = []) := by
  cases ns with
  | nil => rfl
  | cons n r =>
    unfold eqvD
    rw [toPd, toPd, toPds, PyData.eqv, List.map_cons, PyData.eqvAll]
    simp
theorem cell_eq (ns : List Int) (k : Nat) : f_cell_k20 [.scr ns, .int (k : Nat)] S = .ok (.fz (.int (cel ns k))) S := by
  have e0 : opEq (.fz (.scr ns)) (.ow (.lst [])) S = .ok (decide (ns = [])) S := by rw [s_eqFO rfl rfl, eqv_scr]
  rw [c_cell_k20]
  by_cases h : k < ns.length
  · have e : atD (ns.map D.int) (k : Int) = some (.int (MirC.cl ns k)) := MirC.getD_scr ns k h
    have h' : (k : Int) < (ns.length : Int) := by omega
    have q : cel ns k = MirC.cl ns k := if_pos h
    rw [q]
    simp -implicitDefEqProofs [g_cell_k20, h', e, -atD_int]
  · have h' : ¬ (k : Int) < (ns.length : Int) := by omega
    by_cases hn : ns = []
    · subst hn
      have h2 : ¬ (k : Int) < 0 := by omega
      simp -implicitDefEqProofs [g_cell_k20, cel, e0, h2]
    · have hp : 0 < ns.length := List.length_pos_iff.mpr hn
      have q : cel ns k = (MirC.cl ns (k % ns.length) + k) * 48271 % 2147483647 * 69621 % 2147483629 := by
        unfold cel
        rw [if_neg h, if_neg hn]
      have e1 : ((k : Int) % (ns.length : Int)) = ((k % ns.length : Nat) : Int) := by omega
      have e : atD (ns.map D.int) ((k : Int) % (ns.length : Int)) = some (.int (MirC.cl ns (k % ns.length))) := by
        rw [e1]
        exact MirC.getD_scr ns _ (Nat.mod_lt _ hp)
      have h1 : modOk (k : Int) (ns.length : Int) = true := modOk_p (by omega)
      have m1 : ∀ x, mulOk x 48271 = true := fun x => mulOk_r (by decide) (by decide)
      have m2 : ∀ x, mulOk x 69621 = true := fun x => mulOk_r (by decide) (by decide)
      have d1 : ∀ x, modOk x 2147483647 = true := fun x => modOk_p (by decide)
      have d2 : ∀ x, modOk x 2147483629 = true := fun x => modOk_p (by decide)
      rw [q]
      simp -implicitDefEqProofs [g_cell_k20, h', e0, hn, h1, e, m1, m2, d1, d2, -atD_int]
/-! ### sorting tuples of ints -/
theorem toPds_map (ns : List Int) : toPds (ns.map D.int) = ns.map PyData.int := toPds_ints ns
theorem leD_tup (a b : List Int) : leD (tupD a) (tupD b) = decide (a ≤ b) := by
  unfold leD tupD
  rw [toPd, toPd, toPds_map, toPds_map, PySem.W.dataLt_tuple]
  show (!PySem.W.rowLt (b.map .int) (a.map .int)) = _
  rw [PySem.W.dataLt_ints]
  by_cases h : b < a
  · have : ¬ a ≤ b := fun z => z h
    simp [h, this]
  · have : a ≤ b := h
    simp [h, this]
/-! one part -/
def small (st c : Int) : Bool := decide (st = 0) || (decide (st = 2) && decide (c % 2 = 0))
def topS : Nat → Int
  | 0 => 9
  | 1 => 5
  | 2 => 6
  | _ => 30
def topL : Nat → Int
  | 0 => 1000001
  | 1 => 1000001
  | 2 => 1000000000
  | _ => 1000000000000000001
def prt (st : Int) (j : Nat) (c : Int) : Int := c / (if st = 2 then 2 else 1) % (if small st c then topS j else topL j)
theorem prt_b (st : Int) (j : Nat) (c : Int) : 0 ≤ prt st j c ∧ prt st j c < topL j := by
  have p : 0 < topS j ∧ topS j ≤ topL j := by
    rcases j with _ | _ | _ | j
    · decide
    · decide
    · decide
    · exact ⟨show (0 : Int) < 30 by decide, show (30 : Int) ≤ 1000000000000000001 by decide⟩
  have q : 0 < (if small st c then topS j else topL j) ∧ (if small st c then topS j else topL j) ≤ topL j := by
    split <;> omega
  unfold prt
  generalize (if small st c then topS j else topL j) = m at *
  have h1 := Int.emod_nonneg (c / (if st = 2 then 2 else 1)) (show m ≠ 0 by omega)
  have h2 := Int.emod_lt_of_pos (c / (if st = 2 then 2 else 1)) (show 0 < m by omega)
  omega
theorem free_at (M : Nat) : ∀ (L : Nat) (kn : List Int) (n : Int), kn.length ≤ L → L < M → 0 ≤ n → n < M → ∃ i : Nat, i ≤ L ∧ (n + i) % M ∉ kn ∧ ∀ j : Nat, j < i → (n + j) % M ∈ kn
  | L, kn, n, hl, hM, h0, h1 => by
    by_cases hn : n ∈ kn
    · cases L with
      | zero =>
        have : kn = [] := List.length_eq_zero_iff.mp (Nat.le_zero.mp hl)
        subst this
        cases hn
      | succ L =>
        have hs : ∃ m : Int, m = (n + 1) % M := ⟨_, rfl⟩
        obtain ⟨m, hm⟩ := hs
        have hMp : (0 : Int) < M := by omega
        have m0 : 0 ≤ m := by rw [hm]; exact Int.emod_nonneg _ (by omega)
        have m1 : m < M := by rw [hm]; exact Int.emod_lt_of_pos _ hMp
        have sh : ∀ i : Nat, (m + i) % M = (n + (i + 1 : Nat)) % M := fun i => by
          rw [hm, Int.emod_add_emod]
          congr 1
          push_cast
          omega
        obtain ⟨i, i1, i2, i3⟩ := free_at M L (kn.filter fun x => decide (x ≠ n)) m (by
          have : (kn.filter fun x => decide (x ≠ n)).length < kn.length := by
            apply List.length_filter_lt_length_iff_exists.mpr
            exact ⟨n, hn, by simp⟩
          omega) (by omega) m0 m1
        have nn : ∀ j : Nat, j ≤ L → (m + j) % M ≠ n := fun j hj z => by
          rw [sh] at z
          have hz : n % M = n := Int.emod_eq_of_lt h0 h1
          have : ((n + (j + 1 : Nat)) % M - n % M) % M = 0 := by rw [z, hz]; simp
          rw [← Int.sub_emod] at this
          have e : n + ((j + 1 : Nat) : Int) - n = ((j + 1 : Nat) : Int) := by omega
          rw [e, Int.emod_eq_of_lt (by omega) (by omega)] at this
          omega
        refine ⟨i + 1, by omega, ?_, fun j hj => ?_⟩
        · rw [← sh]
          intro z
          exact i2 (List.mem_filter.mpr ⟨z, by simpa using nn i i1⟩)
        · cases j with
          | zero =>
            rw [Int.natCast_zero, Int.add_zero, Int.emod_eq_of_lt h0 h1]
            exact hn
          | succ j =>
            rw [← sh]
            exact (List.mem_filter.mp (i3 j (by omega))).1
    · refine ⟨0, Nat.zero_le _, ?_, fun j hj => absurd hj (Nat.not_lt_zero _)⟩
      rw [Int.natCast_zero, Int.add_zero, Int.emod_eq_of_lt h0 h1]
      exact hn
/-! one row -/
structure Lt where
  n : Int
  s : Int
  p : Int
  c : Int
abbrev Lt.row (l : Lt) : List Int := [l.s, l.n, l.p, l.c]
abbrev Lt.quad (l : Lt) : List Int := [l.n, l.s, l.p, l.c]
def Lt.of : List Int → Lt
  | [s, n, p, c] => ⟨n, s, p, c⟩
  | _ => ⟨0, 0, 0, 0⟩
structure Lt.Good (l : Lt) : Prop where
  s0 : 0 ≤ l.s
  s1 : l.s ≤ 1000000
  n0 : 0 ≤ l.n
  n1 : l.n ≤ 1000000
  p0 : 1 ≤ l.p
  p1 : l.p ≤ 1000000000
  c0 : 0 ≤ l.c
  c1 : l.c ≤ 1000000000000000000
/-- ahead in a row -/
def Lt.Bef (a b : Lt) : Prop := a.s < b.s ∨ (a.s = b.s ∧ a.n < b.n)
/-- a row of lots -/
structure Row (R : List Lt) : Prop where
  good : ∀ l ∈ R, l.Good
  nd : (R.map Lt.n).Nodup
  pw : R.Pairwise Lt.Bef

theorem turn1 {ns : List Int} {a k : Nat} {st : Int} {acc : List Int} (hk : k < 1000) (hst : st = 0 ∨ st = 1 ∨ st = 2) (hl : acc.length < 1000) (j : Nat) (hj : j < 4) :
    g_row_k20_l1 (.scr ns) (.int (a : Nat)) (.fz (.int st)) (.int (k : Nat)) (.int (j : Nat)) (.ow (.lst (acc.map D.int))) S = .ok (.ow (.lst ((acc ++ [prt st j (cel ns (a + 1 + 4 * k + j))]).map D.int))) S := by
  have ce := cell_eq (S := S) ns (a + 1 + 4 * k + j)
  have e : (((a + 1 + 4 * k + j : Nat) : Nat) : Int) = (a : Int) + 1 + 4 * (k : Int) + (j : Int) := by omega
  rw [e] at ce
  have m4 : mulOk 4 (k : Int) = true := mulOk_l (by decide) (by decide)
  have p6 : powOk 10 6 = true := by decide
  have p9 : powOk 10 9 = true := by decide
  have p18 : powOk 10 18 = true := by decide
  have sz : szOk (acc.length + 1) = true := szOk_le (by omega)
  have o2 : ∀ x, modOk x 2 = true := fun x => modOk_p (by decide)
  have dv1 : ∀ x, divOk x 1 = true := fun x => divOk_s (by decide) (by decide)
  have dv2 : ∀ x, divOk x 2 = true := fun x => divOk_s (by decide) (by decide)
  have t1 : ∀ x y : D, atD [x, y] 1 = some y := fun x y => atD_nat (n := 1) rfl
  have u1 : ∀ x y z t : D, atD [x, y, z, t] 1 = some y := fun x y z t => atD_nat (n := 1) rfl
  have u2 : ∀ x y z t : D, atD [x, y, z, t] 2 = some z := fun x y z t => atD_nat (n := 2) rfl
  have u3 : ∀ x y z t : D, atD [x, y, z, t] 3 = some t := fun x y z t => atD_nat (n := 3) rfl
  generalize cel ns (a + 1 + 4 * k + j) = c at *
  have jj : j = 0 ∨ j = 1 ∨ j = 2 ∨ j = 3 := by omega
  have c2 : c % 2 = 0 ∨ c % 2 = 1 := by omega
  rcases jj with rfl | rfl | rfl | rfl <;> rcases hst with rfl | rfl | rfl <;> rcases c2 with c2 | c2 <;>
    simp -implicitDefEqProofs [g_row_k20_l1, m4, ce, p6, p9, p18, sz, o2, dv1, dv2, t1, u1, u2, u3, small, prt, topS, topL, modOk, c2] at ce ⊢ <;> simp -implicitDefEqProofs [ce, o2, c2, p6, p9, p18, dv1, dv2, t1, u1, u2, u3, modOk, sz]
theorem while_at {kn : List Int} : ∀ (i : Nat) (n : Int) (f : Nat), 0 ≤ n → n < 1000001 → (∀ j : Nat, j < i → (n + j) % 1000001 ∈ kn) → (n + i) % 1000001 ∉ kn → i < f →
    whD (fun s => dBin opIn (rd s) (rd (Wv.ow (.lst (kn.map D.int))))) g_row_k20_l2 f (.fz (.int n)) S = .ok (.fz (.int ((n + i) % 1000001))) S
  | 0, n, f + 1, h0, h1, _, hn, _ => by
    rw [Int.natCast_zero, Int.add_zero, Int.emod_eq_of_lt h0 h1] at hn ⊢
    exact whD_stop (by simp -implicitDefEqProofs [hn])
  | i + 1, n, f + 1, h0, h1, hj, hn, hf => by
    have hin : n ∈ kn := by
      have := hj 0 (by omega)
      rw [Int.natCast_zero, Int.add_zero, Int.emod_eq_of_lt h0 h1] at this
      exact this
    have p6 : powOk 10 6 = true := by decide
    have sh : ∀ k : Nat, ((n + 1) % 1000001 + k) % 1000001 = (n + (k + 1 : Nat)) % 1000001 := fun k => by
      rw [Int.emod_add_emod]
      congr 1
      push_cast
      omega
    have ih := while_at (kn := kn) i ((n + 1) % 1000001) f (Int.emod_nonneg _ (by decide)) (Int.emod_lt_of_pos _ (by decide)) (fun j h => by rw [sh]; exact hj (j + 1) (by omega)) (by rw [sh]; exact hn) (by omega)
    rw [sh] at ih
    rw [← ih]
    exact whD_step (by simp -implicitDefEqProofs [hin]) (by simp -implicitDefEqProofs [g_row_k20_l2, p6, modOk])
abbrev rowD (l : Lt) : D := tupD l.row
/-- a quadruple, a lot -/
abbrev qd (l : Lt) : D := .tup [.int l.n, .int l.s, .int l.p, .int l.c]
theorem turn3 {ns : List Int} {a k : Nat} {st : Int} {rows : List Lt} (hk : k < 1000) (hst : st = 0 ∨ st = 1 ∨ st = 2) (hl : rows.length < 1000) : ∃ l : Lt, l.Good ∧ l.n ∉ rows.map Lt.n ∧
    g_row_k20_l3 (.scr ns) (.int (a : Nat)) (.fz (.int st)) (.int (k : Nat)) (.ow (.lst (rows.map rowD)), .ow (.lst ((rows.map Lt.n).map D.int))) S = .ok (.ow (.lst ((rows ++ [l]).map rowD)), .ow (.lst (((rows ++ [l]).map Lt.n).map D.int))) S := by
  obtain ⟨x0, hx0⟩ : ∃ x, x = prt st 0 (cel ns (a + 1 + 4 * k + 0)) := ⟨_, rfl⟩
  obtain ⟨x1, hx1⟩ : ∃ x, x = prt st 1 (cel ns (a + 1 + 4 * k + 1)) := ⟨_, rfl⟩
  obtain ⟨x2, hx2⟩ : ∃ x, x = prt st 2 (cel ns (a + 1 + 4 * k + 2)) := ⟨_, rfl⟩
  obtain ⟨x3, hx3⟩ : ∃ x, x = prt st 3 (cel ns (a + 1 + 4 * k + 3)) := ⟨_, rfl⟩
  have b0 : 0 ≤ x0 ∧ x0 < 1000001 := hx0 ▸ prt_b st 0 _
  have b1 : 0 ≤ x1 ∧ x1 < 1000001 := hx1 ▸ prt_b st 1 _
  have b2 : 0 ≤ x2 ∧ x2 < 1000000000 := hx2 ▸ prt_b st 2 _
  have b3 : 0 ≤ x3 ∧ x3 < 1000000000000000001 := hx3 ▸ prt_b st 3 _
  obtain ⟨i, i1, i2, i3⟩ := free_at 1000001 1000 (rows.map Lt.n) x0 (by rw [List.length_map]; omega) (by decide) b0.1 (by omega)
  have lp : forD (g_row_k20_l1 (.scr ns) (.int (a : Nat)) (.fz (.int st)) (.int (k : Nat))) (rngD 0 4) (.ow (.lst [])) S = .ok (.ow (.lst [.int x0, .int x1, .int x2, .int x3])) S := by
    have t0 := turn1 (S := S) (ns := ns) (a := a) (k := k) (st := st) (acc := []) hk hst (by simp) 0 (by decide)
    have t1 := turn1 (S := S) (ns := ns) (a := a) (k := k) (st := st) (acc := [x0]) hk hst (by simp) 1 (by decide)
    have t2 := turn1 (S := S) (ns := ns) (a := a) (k := k) (st := st) (acc := [x0, x1]) hk hst (by simp) 2 (by decide)
    have t3 := turn1 (S := S) (ns := ns) (a := a) (k := k) (st := st) (acc := [x0, x1, x2]) hk hst (by simp) 3 (by decide)
    rw [← hx0] at t0
    rw [← hx1] at t1
    rw [← hx2] at t2
    rw [← hx3] at t3
    show forD _ [.int 0, .int 1, .int 2, .int 3] _ S = _
    exact (forD_cons t0).trans ((forD_cons t1).trans ((forD_cons t2).trans ((forD_cons t3).trans rfl)))
  have M : ((1000001 : Nat) : Int) = 1000001 := rfl
  rw [M] at i2 i3
  have wh := while_at (S := S) (kn := rows.map Lt.n) i x0 100000 b0.1 b0.2 i3 i2 (by omega)
  have n0 := Int.emod_nonneg (x0 + i) (show (1000001 : Int) ≠ 0 by decide)
  have n1 := Int.emod_lt_of_pos (x0 + i) (show (0 : Int) < 1000001 by decide)
  generalize (x0 + (i : Int)) % 1000001 = n at *
  refine ⟨⟨n, x1, 1 + x2, x3⟩, ⟨b1.1, by show x1 ≤ 1000000; omega, n0, by show n ≤ 1000000; omega, by show 1 ≤ 1 + x2; omega, by show 1 + x2 ≤ 1000000000; omega, b3.1, by show x3 ≤ 1000000000000000000; omega⟩, i2, ?_⟩
  have r4 : rng1 [.int 4] S = .ok (rngD 0 4) S := rfl
  have sz : szOk (rows.length + 1) = true := szOk_le (by omega)
  have at1 : atD [D.int x0, D.int x1, D.int x2, D.int x3] 1 = some (.int x1) := atD_nat (n := 1) rfl
  have at2 : atD [D.int x0, D.int x1, D.int x2, D.int x3] 2 = some (.int x2) := atD_nat (n := 2) rfl
  have at3 : atD [D.int x0, D.int x1, D.int x2, D.int x3] 3 = some (.int x3) := atD_nat (n := 3) rfl
  simp -implicitDefEqProofs only [List.map_map] at wh ⊢
  simp -implicitDefEqProofs [g_row_k20_l3, r4, lp, sz, at1, at2, at3, wh, -s_rng1]
end G
set_option Elab.async false
set_option linter.all false
set_option maxRecDepth 100000
set_option exponentiation.threshold 100000
/-! M_row2: rows sorted, lots made, looked at. -/
namespace G
open PySem L2 Mir
variable {S : Store}
theorem alike_ints : ∀ (a b : List Int), PySem.W.alikeAll (a.map PyData.int) (b.map PyData.int) = true := PySem.W.alike_ints
/-- rows of ints can be sorted -/
theorem okSrt_tup {α : Type} (f : α → List Int) (xs : List α) (h : ∀ x ∈ xs, ∃ y r, f x = y :: r) : okSrt (xs.map fun x => tupD (f x)) = true := by
  unfold okSrt
  have h1 : isPds (xs.map fun x => tupD (f x)) = true := by
    clear h
    induction xs with
    | nil => rfl
    | cons x r ih =>
      have q : ∀ ns : List Int, isPds (ns.map D.int) = true := isPds_ints
      rw [List.map_cons, isPds, ih, Bool.and_true]
      show isPd (.tup ((f x).map D.int)) = true
      rw [isPd]
      exact q _
  have h2 : alikeAllD (xs.map fun x => tupD (f x)) = true := by
    unfold alikeAllD
    rw [List.all_eq_true]
    intro a ha
    rw [List.all_eq_true]
    intro b hb
    obtain ⟨x, _, rfl⟩ := List.mem_map.mp ha
    obtain ⟨y, _, rfl⟩ := List.mem_map.mp hb
    show PySem.W.alike (toPd (.tup _)) (toPd (.tup _)) = true
    rw [toPd, toPd, toPds_map, toPds_map, PySem.W.alike]
    exact alike_ints _ _
  have h3 : tupAll (xs.map fun x => tupD (f x)) = true := by
    unfold tupAll
    rw [List.all_eq_true]
    intro a ha
    obtain ⟨x, hx, rfl⟩ := List.mem_map.mp ha
    obtain ⟨y, r, e⟩ := h x hx
    show (match toPd (.tup ((f x).map D.int)) with
      | .tuple (_ :: _) => true
      | _ => false) = true
    rw [toPd, toPds_map, e]
    rfl
  have h4 : ((xs.map fun x => tupD (f x)).all fun a => decide ((toPd a).depth < 100)) = true := by
    rw [List.all_eq_true]
    intro a ha
    obtain ⟨x, hx, rfl⟩ := List.mem_map.mp ha
    refine decide_eq_true ?_
    show (toPd (.tup ((f x).map D.int))).depth < 100
    rw [toPd, toPds_map, PyData.depth, PySem.W.depth_ints]
    decide
  rw [h1, h2, h3, h4]
  rfl
theorem sort_tup {α : Type} (f : α → List Int) (xs : List α) : (xs.map fun x => tupD (f x)).mergeSort leD = (xs.mergeSort fun a b => decide (f a ≤ f b)).map fun x => tupD (f x) := by
  symm
  exact List.map_mergeSort fun a _ b _ => (leD_tup _ _).symm
theorem le_trans_l {a b c : List Int} (h1 : a ≤ b) (h2 : b ≤ c) : a ≤ c := List.le_trans h1 h2
theorem pw_sort {α : Type} (f : α → List Int) (xs : List α) : (xs.mergeSort fun a b => decide (f a ≤ f b)).Pairwise fun a b => f a ≤ f b := by
  refine (List.pairwise_mergeSort (le := fun a b => decide (f a ≤ f b)) (fun a b c h1 h2 => ?_) (fun a b => ?_) xs).imp fun h => of_decide_eq_true h
  · exact decide_eq_true (List.le_trans (of_decide_eq_true h1) (of_decide_eq_true h2))
  · rcases List.le_total (f a) (f b) with h | h
    · simp [h]
    · simp [h]
theorem lt_cons {x y : Int} {a b : List Int} : x :: a < y :: b ↔ x < y ∨ (x = y ∧ a < b) := List.cons_lt_cons_iff
theorem le_cons {x y : Int} {a b : List Int} : x :: a ≤ y :: b ↔ x < y ∨ (x = y ∧ a ≤ b) := List.cons_le_cons_iff
/-- a row of lots -/
theorem sort_rows {rows : List Lt} (hg : ∀ l ∈ rows, l.Good) (hn : (rows.map Lt.n).Nodup) : Row (rows.mergeSort fun a b => decide (a.row ≤ b.row)) := by
  have pm := List.mergeSort_perm rows fun a b => decide (a.row ≤ b.row)
  have pw := pw_sort Lt.row rows
  generalize (rows.mergeSort fun a b => decide (a.row ≤ b.row)) = R at *
  refine ⟨fun l hl => hg l (pm.mem_iff.mp hl), (pm.map Lt.n).nodup_iff.mpr hn, ?_⟩
  have nd : (R.map Lt.n).Nodup := (pm.map Lt.n).nodup_iff.mpr hn
  have nd2 : R.Pairwise fun a b => a.n ≠ b.n := by
    unfold List.Nodup at nd
    rw [List.pairwise_map] at nd
    exact nd
  refine (pw.and nd2).imp fun {a b} h => ?_
  obtain ⟨h1, h2⟩ := h
  have h1 : a.s :: [a.n, a.p, a.c] ≤ b.s :: [b.n, b.p, b.c] := h1
  rcases le_cons.mp h1 with q | ⟨q, h1⟩
  · exact .inl q
  · rcases le_cons.mp h1 with z | ⟨z, _⟩
    · exact .inr ⟨q, z⟩
    · exact (h2 z).elim
theorem row_eq (ns : List Int) (a most : Nat) (hm : most < 60) : ∃ R : List Lt, f_row_k20 [.scr ns, .int (a : Nat), .int (most : Nat)] S = .ok (.ow (.lst (R.map qd))) S ∧ Row R ∧ (R.length : Int) = cel ns a % (most + 1) := by
  have c0 : f_cell_k20 [.scr ns, .int 0] S = .ok (.fz (.int (cel ns 0))) S := cell_eq ns 0
  have ca := cell_eq (S := S) ns a
  have o3 : ∀ x, modOk x 3 = true := fun x => modOk_p (by decide)
  have om : ∀ x, modOk x ((most : Int) + 1) = true := fun x => modOk_p (by omega)
  have s0 := Int.emod_nonneg (cel ns 0) (show (3 : Int) ≠ 0 by decide)
  have s1 := Int.emod_lt_of_pos (cel ns 0) (show (0 : Int) < 3 by decide)
  have k0 := Int.emod_nonneg (cel ns a) (show (most : Int) + 1 ≠ 0 by omega)
  have k1 := Int.emod_lt_of_pos (cel ns a) (show (0 : Int) < (most : Int) + 1 by omega)
  obtain ⟨k, hk⟩ : ∃ k : Nat, cel ns a % (most + 1) = (k : Int) := ⟨(cel ns a % (most + 1)).toNat, by omega⟩
  obtain ⟨s, lp, rows, h1, h2, h3, rfl⟩ := forD_rngI (S := S) (body := g_row_k20_l3 (.scr ns) (.int (a : Nat)) (.fz (.int (cel ns 0 % 3)))) (fun j s => ∃ rows : List Lt, rows.length = j ∧ (∀ l ∈ rows, l.Good) ∧ (rows.map Lt.n).Nodup ∧ s = (Wv.ow (.lst (rows.map rowD)), Wv.ow (.lst ((rows.map Lt.n).map D.int)))) k (by
    rintro j s hj ⟨rows, h1, h2, h3, rfl⟩
    obtain ⟨l, g, f, q⟩ := turn3 (S := S) (ns := ns) (a := a) (k := j) (st := cel ns 0 % 3) (rows := rows) (by omega) (by omega) (by omega)
    refine ⟨_, q, rows ++ [l], by rw [List.length_append, h1]; rfl, fun x hx => ?_, ?_, rfl⟩
    · rcases List.mem_append.mp hx with hx | hx
      · exact h2 x hx
      · rw [List.mem_singleton.mp hx]
        exact g
    · rw [List.map_append, List.map_cons, List.map_nil, List.nodup_append]
      refine ⟨h3, by simp, fun x hx y hy => ?_⟩
      rw [List.mem_singleton.mp hy]
      exact fun z => f (z ▸ hx)) (s := (.ow (.lst []), .ow (.lst []))) ⟨[], rfl, by simp, by simp, rfl⟩
  have R := sort_rows h2 h3
  have len : (rows.mergeSort fun a b => decide (a.row ≤ b.row)).length = k := by rw [List.length_mergeSort, h1]
  have ok : srtO (rows.map rowD) S = .ok (.ow (.lst ((rows.mergeSort fun a b => decide (a.row ≤ b.row)).map rowD))) S := by
    unfold srtO
    rw [if_pos (okSrt_tup Lt.row rows fun x _ => ⟨_, _, rfl⟩), sort_tup]
  have lc : ∀ R : List Lt, R.length ≤ 1000 → lcS (fun d => un4 (.fz d) fun since_32 number_33 pieces_34 cost_35 => lcStep (pur true) (dTup (pur (number_33 :: (since_32 :: (pieces_34 :: [cost_35])))))) (R.map rowD) [] S = .ok (.ow (.lst (R.map qd))) S := fun R hR => by
    refine lcS_map rowD R (fun l _ => ?_) (by omega)
    simp -implicitDefEqProofs [rowD, tupD]
  refine ⟨_, ?_, R, by rw [len, hk]⟩
  have rg : rng1 [.int (k : Int)] S = .ok (rngD 0 k) S := by
    rw [s_rng1, if_pos (rngOk_s (by omega) (by omega))]
    rfl
  rw [c_row_k20]
  simp -implicitDefEqProofs only [g_row_k20, x_bnd, x_bin, x_pur, bindR_ok, c0, s_mod, o3, if_true, x_lst, List.length_nil, show szOk 0 = true from rfl, x_cons, x_fz, ca, s_add, om, hk, s_frz1, rg, lp, x_items, x_consB, x_rdo, x_sorted2, ok, s_frz2, s_itD2, s_itD1, s_itO, lc _ (show (rows.mergeSort fun a b => decide (a.row ≤ b.row)).length ≤ 1000 by omega)]
/-! ### lots -/
def lotF (n s p c : Int) : List (Str × D) := [("number", .int n), ("since", .int s), ("pieces", .int p), ("cost", .int c)]
abbrev lotD (l : Lt) : D := .ins 18 (lotF l.n l.s l.p l.c)
theorem Lot_init_eq (n s p c : Int) : f_Lot_init [.int n, .int s, .int p, .int c] [] S = .ok (lotF n s p c) S := rfl
@[simp] theorem lk_n {n s p c : Int} : (lotF n s p c).lookup ("number" : Str) = some (.int n) := rfl
@[simp] theorem lk_s {n s p c : Int} : (lotF n s p c).lookup ("since" : Str) = some (.int s) := by rfl
@[simp] theorem lk_p {n s p c : Int} : (lotF n s p c).lookup ("pieces" : Str) = some (.int p) := by rfl
@[simp] theorem lk_c {n s p c : Int} : (lotF n s p c).lookup ("cost" : Str) = some (.int c) := by rfl
@[simp] theorem lk_told {n s p c : Int} : (lotF n s p c).lookup ("told" : Str) = none := by rfl
@[simp] theorem lk_taken {n s p c : Int} : (lotF n s p c).lookup ("taken" : Str) = none := by rfl
@[simp] theorem lk_more {n s p c : Int} : (lotF n s p c).lookup ("with_more" : Str) = none := by rfl
@[simp] theorem lk_dear {n s p c : Int} : (lotF n s p c).lookup ("is_dearer" : Str) = none := by rfl
theorem lots_eq (R : List Lt) (hl : R.length ≤ 1000) : f_lots_k20 [.lst (R.map qd)] S = .ok (.ow (.lst (R.map lotD))) S := by
  rw [c_lots_k20]
  unfold g_lots_k20
  have lc : ∀ (f : D → M (Option D)), (∀ l ∈ R, f (qd l) S = .ok (some (lotD l)) S) → lcS f (R.map qd) [] S = .ok (.ow (.lst (R.map lotD))) S := fun f h => lcS_map qd R h (by omega)
  simp -implicitDefEqProofs only [x_bnd, x_items, x_pur, bindR_ok, s_itD1, s_itO]
  exact lc _ fun l _ => by simp -implicitDefEqProofs [Lot_init_eq]
theorem whole_eq (i : Int) : f_whole_k01 [.int i] S = .ok (.fz (.bl true)) S := by
  rw [c_whole_k01]
  simp -implicitDefEqProofs [g_whole_k01]
theorem told_eq (l : Lt) : f_Lot_told [lotD l] S = .ok (.fz (qd l)) S := by
  rw [c_Lot_told]
  simp -implicitDefEqProofs [g_Lot_told, lk_n, lk_s, lk_p, lk_c]
end G
set_option Elab.async false
set_option linter.all false
set_option maxRecDepth 100000
set_option maxHeartbeats 4000000
/-! G_k21: mirrors and code, printed by gen2.py -/
namespace G

open PySem L2 Mir
-- Lot.taken
def m_Lot_taken : CS :=
    (cSeq (cSet 2 (cCall f_part_of (cCons (cFld "cost" [18] (cBor 0)) (cCons (cVar 1) (cCons (cFld "pieces" [18] (cBor 0)) cNil)))))
    (cSeq (cSet 3 (cMk 18 f_Lot_init (cCons (cFld "number" [18] (cBor 0)) (cCons (cFld "since" [18] (cBor 0)) (cCons (cVar 1) (cCons (cVar 2) cNil))))))
    (cSeq (cKill [] (cIfS (cBin opEq (cBor 1) (cUp (cFld "pieces" [18] (cBor 0))))
      (cFrz 3 (cRet (cUp (cTup (cCons (cVar 3) (cCons (cC .non) cNil))))))
      cSkip))
    (cFrz 3 (cRet (cUp (cTup (cCons (cVar 3) (cCons (cFz (cMk 18 f_Lot_init (cCons (cFld "number" [18] (cBor 0)) (cCons (cFld "since" [18] (cBor 0)) (cCons (cFz (cBin opSub (cUp (cFld "pieces" [18] (cBor 0))) (cBor 1))) (cCons (cFz (cBin opSub (cUp (cFld "cost" [18] (cBor 0))) (cBor 2))) cNil)))))) cNil)))))))))
def f_Lot_taken : Fn := runF 4 m_Lot_taken
def g_Lot_taken (self_1 : D) (pieces_2 : D) : M Wv :=
 (bnd (dCall f_part_of (dCons (dFld "cost" [18] (pur (Wv.fz self_1))) (dCons (pur pieces_2) (dCons (dFld "pieces" [18] (pur (Wv.fz self_1))) (pur []))))) fun cost_3 =>
 (bnd (dMk 18 f_Lot_init (dCons (dFld "number" [18] (pur (Wv.fz self_1))) (dCons (dFld "since" [18] (pur (Wv.fz self_1))) (dCons (pur pieces_2) (dCons (rdD cost_3) (pur [])))))) fun some_4 =>
 (ift (dBin opEq (pur (Wv.fz pieces_2)) (dUp (dFld "pieces" [18] (pur (Wv.fz self_1)))))
 (dUp (dTup (dCons (rdD some_4.fzn) (pur [D.non]))))
 (dUp (dTup (dCons (rdD some_4.fzn) (dCons (dFz (dMk 18 f_Lot_init (dCons (dFld "number" [18] (pur (Wv.fz self_1))) (dCons (dFld "since" [18] (pur (Wv.fz self_1))) (dCons (dFz (dBin opSub (dUp (dFld "pieces" [18] (pur (Wv.fz self_1)))) (pur (Wv.fz pieces_2)))) (dCons (dFz (dBin opSub (dUp (dFld "cost" [18] (pur (Wv.fz self_1)))) (rd cost_3))) (pur []))))))) (pur []))))))))
theorem t_Lot_taken (self_1 : D) (pieces_2 : D) : Tl m_Lot_taken ([some (.fz self_1), some (.fz pieces_2), none, none] : Mir.Env) (g_Lot_taken self_1 pieces_2) :=
 (tl_seq1 (E1 := (fun cost_3 => ([some (.fz self_1), some (.fz pieces_2), some cost_3, none] : Mir.Env))) (bl_set (E1 := (fun cost_3 => ([some (.fz self_1), some (.fz pieces_2), some cost_3, none] : Mir.Env))) (Nat.le_of_ble_eq_true rfl) rfl (fun _ => rfl)) (fun cost_3 => (tl_seq1 (E1 := (fun some_4 => ([some (.fz self_1), some (.fz pieces_2), some cost_3, some some_4] : Mir.Env))) (bl_set (E1 := (fun some_4 => ([some (.fz self_1), some (.fz pieces_2), some cost_3, some some_4] : Mir.Env))) (Nat.le_of_ble_eq_true rfl) rfl (fun _ => rfl)) (fun some_4 => (tl_ifx (E0 := ([some (.fz self_1), some (.fz pieces_2), some cost_3, some some_4] : Mir.Env)) (xt_frz xt_ret) rfl rfl (tl_frz (E0 := ([some (.fz self_1), some (.fz pieces_2), some cost_3, some some_4.fzn] : Mir.Env)) some_4 rfl rfl (tl_ret rfl)) (tl_frz (E0 := ([some (.fz self_1), some (.fz pieces_2), some cost_3, some some_4.fzn] : Mir.Env)) some_4 rfl rfl (tl_ret rfl)))))))
theorem c_Lot_taken (self_1 : D) (pieces_2 : D) (S : Store) : f_Lot_taken [self_1, pieces_2] S = g_Lot_taken self_1 pieces_2 S := fn_code rfl (t_Lot_taken self_1 pieces_2) S
end G
set_option Elab.async false
set_option linter.all false
set_option maxRecDepth 100000
set_option exponentiation.threshold 100000
/-! M_lots: what looks at lots; a lot's parts. -/
namespace G
open PySem L2 Mir
variable {S : Store}
theorem qd_ok (l : Lt) : okN 60 (qd l) = true := rfl
theorem qd_eq (l : Lt) : opEq (.fz (qd l)) (.fz (qd l)) S = .ok true S := by rw [s_eqF (qd_ok l) (qd_ok l), eqv_same (qd_ok l)]
theorem are_turn (l : Lt) : g_are_k20_l1 (.tup [lotD l, qd l]) () S = .ok (.nx ()) S := by
  have t := told_eq (S := S) l
  have e := qd_eq (S := S) l
  have lc : ∀ f : D → M (Option D), (∀ i : Int, f (.int i) S = .ok (some (.bl true)) S) → lcS f [.int l.n, .int l.s, .int l.p, .int l.c] [] S = .ok (.ow (.lst [.bl true, .bl true, .bl true, .bl true])) S := fun f h =>
    lcS_map (g := fun _ => D.bl true) D.int [l.n, l.s, l.p, l.c] (fun i _ => h i) (show 4 ≤ 16777216 by decide)
  have lc := lc (fun part_10 => lcStep (pur true) (dFz (f_whole_k01 [part_10]))) (fun i => by simp -implicitDefEqProofs [whole_eq])
  have bs : blsD [D.bl true, D.bl true, D.bl true, D.bl true] = some [true, true, true, true] := rfl
  simp -implicitDefEqProofs [g_are_k20_l1, t, e, lc, bs, lk_n, lk_s, lk_p, lk_c]
theorem are_eq (R : List Lt) : f_are_k20 [.lst (R.map lotD), .lst (R.map qd)] S = .ok (.fz (.bl true)) S := by
  have z : zipD (R.map lotD) (R.map qd) = R.map fun l => D.tup [lotD l, qd l] := by
    unfold zipD
    induction R with
    | nil => rfl
    | cons l r ih => rw [List.map_cons, List.map_cons, List.zipWith_cons_cons, ih]; rfl
  have lp := forO_pre (S := S) (body := g_are_k20_l1) (fun l : Lt => D.tup [lotD l, qd l]) (fun _ => ()) R (fun _ x _ _ => are_turn x)
  rw [c_are_k20]
  simp -implicitDefEqProofs [g_are_k20, z, lp]
/-- numbers that may be multiplied -/
def Lt.Ok (l : Lt) : Prop := l.p.natAbs < 2 ^ 300 ∧ l.c.natAbs < 2 ^ 300
theorem Lt.Ok.mul {a b : Lt} (ha : a.Ok) (hb : b.Ok) : mulOk a.c b.p = true := mulOk_b 300 300 ha.2 hb.1 (by decide) (by decide) (by decide)
theorem good_ok {l : Lt} (h : l.Good) : l.Ok := by
  obtain ⟨s0, s1, n0, n1, p0, p1, c0, c1⟩ := h
  have B : (2 : Nat) ^ 300 > 1000000000000000000 := by decide
  unfold Lt.Ok
  generalize (2 : Nat) ^ 300 = b at *
  constructor <;> omega
theorem dear_eq {a b : Lt} (ha : a.Ok) (hb : b.Ok) : f_Lot_is_dearer [lotD a, lotD b] S = .ok (.fz (.bl (decide (b.c * a.p < a.c * b.p)))) S := by
  have m1 := ha.mul hb
  have m2 := hb.mul ha
  rw [c_Lot_is_dearer]
  simp -implicitDefEqProofs [g_Lot_is_dearer, m1, m2, lk_p, lk_c]
theorem more_eq (l : Lt) (p q : Int) : f_Lot_with_more [lotD l, .int p, .int q] S = .ok (.ow (.ins 18 (lotF l.n l.s (l.p + p) (l.c + q)))) S := by
  rw [c_Lot_with_more]
  simp -implicitDefEqProofs [g_Lot_with_more, Lot_init_eq, lk_n, lk_s, lk_p, lk_c]
theorem part_eq {a p w : Int} (h1 : mulOk a p = true) (h2 : divOk (a * p) w = true) : f_part_of [.int a, .int p, .int w] S = .ok (.fz (.int (a * p / w))) S := by
  rw [c_part_of]
  simp -implicitDefEqProofs [g_part_of, h1, h2]
/-- some pieces of a lot, and the rest -/
def Lt.cut (l : Lt) (q : Int) : Int := l.c * q / l.p
def Lt.got (l : Lt) (q : Int) : Lt := ⟨l.n, l.s, q, l.cut q⟩
def Lt.rest (l : Lt) (q : Int) : Lt := ⟨l.n, l.s, l.p - q, l.c - l.cut q⟩
def Lt.left (l : Lt) (q : Int) : D := if q = l.p then .non else lotD (l.rest q)
theorem cut_ok {l : Lt} (h : l.Ok) (hp : 0 < l.p) {q : Int} (hq : q.natAbs < 2 ^ 300) : mulOk l.c q = true ∧ divOk (l.c * q) l.p = true :=
  ⟨mulOk_b 300 300 h.2 hq (by decide) (by decide) (by decide), divOk_b 300 hp h.1 (by decide) (by decide)⟩
theorem taken_eq {l : Lt} (h : l.Ok) (hp : 0 < l.p) {q : Int} (hq : q.natAbs < 2 ^ 300) : f_Lot_taken [lotD l, .int q] S = .ok (.fz (.tup [lotD (l.got q), l.left q])) S := by
  obtain ⟨h1, h2⟩ := cut_ok h hp hq
  have pe := part_eq (S := S) h1 h2
  rw [c_Lot_taken]
  unfold Lt.left
  by_cases e : q = l.p
  · subst e
    simp -implicitDefEqProofs [g_Lot_taken, Lot_init_eq, pe, Lt.got, Lt.cut]
  · simp -implicitDefEqProofs [g_Lot_taken, Lot_init_eq, lk_n, lk_s, lk_p, lk_c, pe, e, Lt.got, Lt.cut, Lt.rest]
end G
set_option Elab.async false
set_option linter.all false
set_option maxRecDepth 100000
set_option maxHeartbeats 4000000
/-! G_k22: mirrors and code, printed by gen2.py -/
namespace G

open PySem L2 Mir
-- cost_in
def m_cost_in : CS :=
    (cRet (cBlt bSum (bCons (cLc [1] (.nm 1) cYes (cFld "cost" [18] (cBor 1)) (cItems (cVar 0))) bNil)))
def f_cost_in : Fn := runF 2 m_cost_in
def g_cost_in (lots_1 : D) : M Wv :=
 (bnd (dConsB (bnd (dItems (pur lots_1)) fun items => lcS (fun lot_2 => lcStep (pur true) (dFld "cost" [18] (pur (Wv.fz lot_2)))) items []) (pur [])) bSum)
theorem t_cost_in (lots_1 : D) : Tl m_cost_in ([some (.fz lots_1), none] : Mir.Env) (g_cost_in lots_1) :=
 (tl_ret (congrArg (fun h_3 => (bnd (dConsB h_3 (pur [])) bSum)) (show ((cLc [1] (.nm 1) cYes (cFld "cost" [18] (cBor 1)) (cItems (cVar 0))) : CE) ([some (.fz lots_1), none] : Mir.Env) = (bnd (dItems (pur lots_1)) fun items => lcS (fun lot_2 => lcStep (pur true) (dFld "cost" [18] (pur (Wv.fz lot_2)))) items []) from (lc_nm (E3 := fun lot_2 => ([some (.fz lots_1), some (.fz lot_2)] : Mir.Env)) (Nat.le_of_ble_eq_true rfl) (fun _ => rfl) rfl (fun lot_2 => rfl) (fun lot_2 => rfl)))))
theorem c_cost_in (lots_1 : D) (S : Store) : f_cost_in [lots_1] S = g_cost_in lots_1 S := fn_code rfl (t_cost_in lots_1) S
end G
set_option Elab.async false
set_option linter.all false
set_option maxRecDepth 100000
set_option maxHeartbeats 4000000
/-! G_k23: mirrors and code, printed by gen2.py -/
namespace G

open PySem L2 Mir
-- _law_picks
def m_picks_k23 : CS :=
    (cSeq (cSet 3 (cBlt bList (bCons (cBor 2) bNil)))
    (cSeq (cSet 4 (cLst cNil))
    (cSeq (cKill [0, 1, 2, 3, 5, 6, 7, 8] (cFor (cRng rng1 (cCons (cFz (cBin opMod (cCall f_cell_k20 (cCons (cVar 0) (cCons (cVar 1) cNil))) (cBin opAdd (cBlt bLen (bCons (cBor 2) bNil)) (cUp (cC (.int 1)))))) cNil)) (.nm 5) (cSeq (cKill [5] (cSet 6 (cCall f_cell_k20 (cCons (cVar 0) (cCons (cFz (cBin opAdd (cBin opAdd (cBor 1) (cUp (cC (.int 1)))) (cBor 5))) cNil)))))
      (cSeq (cMutA (.nm 7) 3 "list" mPopAt (cCons (cFz (cBin opMod (cBor 6) (cBlt bLen (bCons (cBor 3) bNil)))) cNil))
      (cSeq (cSet 8 (cBin opAdd (cUp (cC (.int 1))) (cBin opMod (cBin opDiv (cBor 6) (cUp (cC (.int 16)))) (cBin opSub2 (cBor 7) (cUp (cC (.int 2)))))))
      (cSeq (cKill [6] (cIfS (cBin opEq (cBin opMod (cBin opDiv (cBor 6) (cUp (cC (.int 4)))) (cUp (cC (.int 4)))) (cUp (cC (.int 1))))
        (cKill [6] (cSet 8 (cBin opSub2 (cBor 7) (cUp (cC (.int 2))))))
        cSkip))
      (cKill [7, 8] (cMut 4 "list" mAppend (cCons (cTup (cCons (cFz (cBin opSub2 (cBor 7) (cUp (cC (.int 0))))) (cCons (cVar 8) cNil))) cNil)))))))))
    (cRetV 4))))
def f_picks_k23 : Fn := runF 9 m_picks_k23
def g_picks_k23_l1 (script_1 : D) (start_2 : D) : D → (Wv × Wv) → M (Wv × Wv) := fun (k_11 : D) (s_10 : Wv × Wv) => (bnd (dCall f_cell_k20 (dCons (pur script_1) (dCons (dFz (dBin opAdd (opAdd (Wv.fz start_2) (Wv.fz (D.int 1))) (pur (Wv.fz k_11)))) (pur [])))) fun cell_here_12 =>
 (bnd (dMutR "list" mPopAt s_10.1 (dCons (dFz (dBin opMod (rd cell_here_12) (bnd (dConsB (rd s_10.1) (pur [])) bLen))) (pur []))) fun s_13 =>
 (bnd (dBin opAdd (pur (Wv.fz (D.int 1))) (dBin opMod (dBin opDiv (rd cell_here_12) (pur (Wv.fz (D.int 16)))) (opSub2 (Wv.fz s_13.2) (Wv.fz (D.int 2))))) fun wanted_14 =>
 (bnd (ift (dBin opEq (dBin opMod (dBin opDiv (rd cell_here_12) (pur (Wv.fz (D.int 4)))) (pur (Wv.fz (D.int 4)))) (pur (Wv.fz (D.int 1))))
 (bnd (opSub2 (Wv.fz s_13.2) (Wv.fz (D.int 2))) fun wanted_17 => pur wanted_17)
 (pur wanted_14)) fun s_16 =>
 (bnd (dMut "list" mAppend s_10.2 (dCons (dTup (dCons (dFz (opSub2 (Wv.fz s_13.2) (Wv.fz (D.int 0)))) (dCons (rdD s_16) (pur [])))) (pur []))) fun picks_here_18 => pur (s_13.1, picks_here_18))))))
def g_picks_k23 (script_1 : D) (start_2 : D) (row_here_3 : D) : M Wv :=
 (bnd (bList [(Wv.fz row_here_3)]) fun left_4 =>
 (bnd (dLst (pur [])) fun picks_here_5 =>
 (bnd (bnd (bnd (dCons (dFz (dBin opMod (f_cell_k20 (script_1 :: [start_2])) (dBin opAdd (bLen [(Wv.fz row_here_3)]) (pur (Wv.fz (D.int 1)))))) (pur [])) rng1) fun items => forD (g_picks_k23_l1 script_1 start_2) items (left_4, picks_here_5)) fun s_19 =>
 (rd s_19.2))))
theorem t_picks_k23 (script_1 : D) (start_2 : D) (row_here_3 : D) : Tl m_picks_k23 ([some (.fz script_1), some (.fz start_2), some (.fz row_here_3), none, none, none, none, none, none] : Mir.Env) (g_picks_k23 script_1 start_2 row_here_3) :=
 (tl_seq1 (E1 := (fun left_4 => ([some (.fz script_1), some (.fz start_2), some (.fz row_here_3), some left_4, none, none, none, none, none] : Mir.Env))) (bl_set (E1 := (fun left_4 => ([some (.fz script_1), some (.fz start_2), some (.fz row_here_3), some left_4, none, none, none, none, none] : Mir.Env))) (Nat.le_of_ble_eq_true rfl) rfl (fun _ => rfl)) (fun left_4 => (tl_seq1 (E1 := (fun picks_here_5 => ([some (.fz script_1), some (.fz start_2), some (.fz row_here_3), some left_4, some picks_here_5, none, none, none, none] : Mir.Env))) (bl_set (E1 := (fun picks_here_5 => ([some (.fz script_1), some (.fz start_2), some (.fz row_here_3), some left_4, some picks_here_5, none, none, none, none] : Mir.Env))) (Nat.le_of_ble_eq_true rfl) rfl (fun _ => rfl)) (fun picks_here_5 => (tl_seq1 (E1 := (fun (s_19 : (Wv × Wv)) => ([none, none, none, none, some s_19.2, none, none, none, none] : Mir.Env))) (bl_kill (E1 := (fun (s_19 : Wv × Wv) => ([some (.fz script_1), some (.fz start_2), some (.fz row_here_3), some s_19.1, some s_19.2, none, none, none, none] : Mir.Env))) (E3 := (fun (s_19 : (Wv × Wv)) => ([none, none, none, none, some s_19.2, none, none, none, none] : Mir.Env))) (bl_for (Es := (fun (s_10 : Wv × Wv) => ([some (.fz script_1), some (.fz start_2), some (.fz row_here_3), some s_10.1, some s_10.2, none, none, none, none] : Mir.Env))) (left_4, picks_here_5) rfl rfl (sb_nm (E3 := fun k_11 (s_10 : (Wv × Wv)) => ([some (.fz script_1), some (.fz start_2), some (.fz row_here_3), some s_10.1, some s_10.2, some (.fz k_11), none, none, none] : Mir.Env)) (fun _ => (Nat.le_of_ble_eq_true rfl)) (fun _ _ => rfl) (fun k_11 s_10 => (bl_seq (E1 := (fun (cell_here_12 : Wv) => ([some (.fz script_1), some (.fz start_2), some (.fz row_here_3), some s_10.1, some s_10.2, none, some cell_here_12, none, none] : Mir.Env))) (bl_kill (E1 := (fun cell_here_12 => ([some (.fz script_1), some (.fz start_2), some (.fz row_here_3), some s_10.1, some s_10.2, some (.fz k_11), some cell_here_12, none, none] : Mir.Env))) (E3 := (fun (cell_here_12 : Wv) => ([some (.fz script_1), some (.fz start_2), some (.fz row_here_3), some s_10.1, some s_10.2, none, some cell_here_12, none, none] : Mir.Env))) (bl_set (E1 := (fun cell_here_12 => ([some (.fz script_1), some (.fz start_2), some (.fz row_here_3), some s_10.1, some s_10.2, some (.fz k_11), some cell_here_12, none, none] : Mir.Env))) (Nat.le_of_ble_eq_true rfl) rfl (fun _ => rfl)) (fun _ => rfl)) (fun cell_here_12 => (bl_seq (E1 := (fun (s_13 : Wv × D) => ([some (.fz script_1), some (.fz start_2), some (.fz row_here_3), some s_13.1, some s_10.2, none, some cell_here_12, some (.fz s_13.2), none] : Mir.Env))) (bl_mutA (w := s_10.1) (E1 := (fun (s_13 : Wv × D) => ([some (.fz script_1), some (.fz start_2), some (.fz row_here_3), some s_13.1, some s_10.2, none, some cell_here_12, some (.fz s_13.2), none] : Mir.Env))) rfl (Nat.le_of_ble_eq_true rfl) rfl (fun _ _ => rfl)) (fun s_13 => (bl_seq (E1 := (fun wanted_14 => ([some (.fz script_1), some (.fz start_2), some (.fz row_here_3), some s_13.1, some s_10.2, none, some cell_here_12, some (.fz s_13.2), some wanted_14] : Mir.Env))) (bl_set (E1 := (fun wanted_14 => ([some (.fz script_1), some (.fz start_2), some (.fz row_here_3), some s_13.1, some s_10.2, none, some cell_here_12, some (.fz s_13.2), some wanted_14] : Mir.Env))) (Nat.le_of_ble_eq_true rfl) rfl (fun _ => rfl)) (fun wanted_14 => (bl_seq (E1 := (fun (s_16 : Wv) => ([some (.fz script_1), some (.fz start_2), some (.fz row_here_3), some s_13.1, some s_10.2, none, none, some (.fz s_13.2), some s_16] : Mir.Env))) (bl_kif (bl_if rfl (bl_last (E1 := fun wanted_17 => ([some (.fz script_1), some (.fz start_2), some (.fz row_here_3), some s_13.1, some s_10.2, none, none, some (.fz s_13.2), some wanted_17] : Mir.Env)) (bl_kill (E1 := (fun (wanted_17 : Wv) => ([some (.fz script_1), some (.fz start_2), some (.fz row_here_3), some s_13.1, some s_10.2, none, none, some (.fz s_13.2), some wanted_17] : Mir.Env))) (E3 := fun wanted_17 => ([some (.fz script_1), some (.fz start_2), some (.fz row_here_3), some s_13.1, some s_10.2, none, none, some (.fz s_13.2), some wanted_17] : Mir.Env)) (bl_kill (E1 := (fun wanted_17 => ([some (.fz script_1), some (.fz start_2), some (.fz row_here_3), some s_13.1, some s_10.2, none, some cell_here_12, some (.fz s_13.2), some wanted_17] : Mir.Env))) (E3 := (fun (wanted_17 : Wv) => ([some (.fz script_1), some (.fz start_2), some (.fz row_here_3), some s_13.1, some s_10.2, none, none, some (.fz s_13.2), some wanted_17] : Mir.Env))) (bl_set (E1 := (fun wanted_17 => ([some (.fz script_1), some (.fz start_2), some (.fz row_here_3), some s_13.1, some s_10.2, none, some cell_here_12, some (.fz s_13.2), some wanted_17] : Mir.Env))) (Nat.le_of_ble_eq_true rfl) rfl (fun _ => rfl)) (fun _ => rfl)) (fun _ => rfl)) (fun _ => rfl)) (bl_kskip rfl))) (fun s_16 => (bl_last (E1 := (fun (picks_here_18 : Wv) => ([some (.fz script_1), some (.fz start_2), some (.fz row_here_3), some s_13.1, some picks_here_18, none, none, none, none] : Mir.Env))) (bl_kill (E1 := (fun picks_here_18 => ([some (.fz script_1), some (.fz start_2), some (.fz row_here_3), some s_13.1, some picks_here_18, none, none, some (.fz s_13.2), some s_16] : Mir.Env))) (E3 := (fun (picks_here_18 : Wv) => ([some (.fz script_1), some (.fz start_2), some (.fz row_here_3), some s_13.1, some picks_here_18, none, none, none, none] : Mir.Env))) (bl_mut (w := s_10.2) (E1 := (fun picks_here_18 => ([some (.fz script_1), some (.fz start_2), some (.fz row_here_3), some s_13.1, some picks_here_18, none, none, some (.fz s_13.2), some s_16] : Mir.Env))) rfl rfl (fun _ => rfl)) (fun _ => rfl)) (fun _ => rfl))))))))))))) (fun _ => rfl)) (fun s_19 => (tl_retV (w := s_19.2) rfl)))))))
theorem c_picks_k23 (script_1 : D) (start_2 : D) (row_here_3 : D) (S : Store) : f_picks_k23 [script_1, start_2, row_here_3] S = g_picks_k23 script_1 start_2 row_here_3 S := fn_code rfl (t_picks_k23 script_1 start_2 row_here_3) S
-- row_without
def m_row_without : CS :=
    (cSeq (cSet 2 cDct0)
    (cSeq (cKill [3] (cFor (cItems (cVar 0)) (.nm 3) (cKill [3] (cPut 2 (cVar 3) (cFld "number" [18] (cBor 3))))))
    (cSeq (cSet 4 (cLst cNil))
    (cSeq (cKill [1, 3, 5, 6, 7, 8] (cFor (cItems (cVar 1)) (.tp [5, 6]) (cSeq (cSet 3 (cGet1 (cBor 2) (cBor 5)))
      (cSeq (cKill [] (cIfS (cOr (cBin opIsN (cBor 3) (cUp (cC .non))) (cBin opLt (cUp (cFld "pieces" [18] (cBor 3))) (cBor 6)))
        (cRaiseN 5 "number" (cUp (cVar 5)))
        cSkip))
      (cSeq (cKill [3, 6] (cAsg (.tp [7, 8]) (cMeth "taken" (tabF [(18, f_Lot_taken)]) (cVar 3) (cCons (cVar 6) cNil))))
      (cSeq (cKill [7] (cMut 4 "list" mAppend (cCons (cVar 7) cNil)))
      (cKill [5, 8] (cPut 2 (cVar 8) (cVar 5)))))))))
    (cFrz 4 (cRet (cUp (cTup (cCons (cVar 4) (cCons (cFz (cLc [3] (.nm 3) (cBin (notM opIsN) (cBin opSub2 (cBor 2) (cUp (cFld "number" [18] (cBor 3)))) (cUp (cC .non))) (cFz (cBin opSub2 (cBor 2) (cUp (cFld "number" [18] (cBor 3))))) (cItems (cVar 0)))) cNil))))))))))
def f_row_without : Fn := runF 9 m_row_without
def g_row_without_l1 : D → Wv → M (Wv) := fun (lot_8 : D) (s_7 : Wv) => (bnd (dPut s_7 (pur lot_8) (dFld "number" [18] (pur (Wv.fz lot_8)))) fun known_9 => pur known_9)
def g_row_without_l2 : D → (Wv × Wv) → M (Wv × Wv) := fun (d : D) (s_18 : Wv × Wv) => un2 (Wv.fz d) fun number_19 pieces_20 => (bnd (dGet1 (rd s_18.1) (pur (Wv.fz number_19))) fun lot_21 =>
 (ift (dOr (dBin opIsN (rd lot_21) (pur (Wv.fz D.non))) (dBin opLt (dUp (dFld "pieces" [18] (rd lot_21))) (pur (Wv.fz pieces_20))))
 (dRaiseN 5 "number" (pur (Wv.fz number_19)))
 (bnd (bnd (dMeth "taken" (tabF [(18, f_Lot_taken)]) (rdD lot_21) (pur [pieces_20])) fun w => un2 w fun gone_23 left_24 => pur (gone_23, left_24)) fun s_22 =>
 (bnd (dMut "list" mAppend s_18.2 (pur [s_22.1])) fun some_25 =>
 (bnd (dPut s_18.1 (pur s_22.2) (pur number_19)) fun known_26 => pur (known_26, some_25))))))
def g_row_without (lots_1 : D) (picks_2 : D) : M Wv :=
 (bnd (pur (Wv.ow (.dct []))) fun known_3 =>
 (bnd (bnd (dItems (pur lots_1)) fun items => forD g_row_without_l1 items known_3) fun s_10 =>
 (bnd (dLst (pur [])) fun some_11 =>
 (bnd (bnd (dItems (pur picks_2)) fun items => forD g_row_without_l2 items (s_10, some_11)) fun s_27 =>
 (dUp (dTup (dCons (rdD s_27.2.fzn) (dCons (dFz (bnd (dItems (pur lots_1)) fun items => lcS (fun lot_28 => lcStep (dBin (notM opIsN) (dBin opSub2 (rd s_27.1) (dUp (dFld "number" [18] (pur (Wv.fz lot_28))))) (pur (Wv.fz D.non))) (dFz (dBin opSub2 (rd s_27.1) (dUp (dFld "number" [18] (pur (Wv.fz lot_28))))))) items [])) (pur [])))))))))
theorem t_row_without (lots_1 : D) (picks_2 : D) : Tl m_row_without ([some (.fz lots_1), some (.fz picks_2), none, none, none, none, none, none, none] : Mir.Env) (g_row_without lots_1 picks_2) :=
 (tl_seq1 (E1 := (fun known_3 => ([some (.fz lots_1), some (.fz picks_2), some known_3, none, none, none, none, none, none] : Mir.Env))) (bl_set (E1 := (fun known_3 => ([some (.fz lots_1), some (.fz picks_2), some known_3, none, none, none, none, none, none] : Mir.Env))) (Nat.le_of_ble_eq_true rfl) rfl (fun _ => rfl)) (fun known_3 => (tl_seq1 (E1 := (fun (s_10 : (Wv)) => ([some (.fz lots_1), some (.fz picks_2), some s_10, none, none, none, none, none, none] : Mir.Env))) (bl_kill (E1 := (fun (s_10 : Wv) => ([some (.fz lots_1), some (.fz picks_2), some s_10, none, none, none, none, none, none] : Mir.Env))) (E3 := (fun (s_10 : (Wv)) => ([some (.fz lots_1), some (.fz picks_2), some s_10, none, none, none, none, none, none] : Mir.Env))) (bl_for (Es := (fun (s_7 : Wv) => ([some (.fz lots_1), some (.fz picks_2), some s_7, none, none, none, none, none, none] : Mir.Env))) known_3 rfl rfl (sb_nm (E3 := fun lot_8 (s_7 : (Wv)) => ([some (.fz lots_1), some (.fz picks_2), some s_7, some (.fz lot_8), none, none, none, none, none] : Mir.Env)) (fun _ => (Nat.le_of_ble_eq_true rfl)) (fun _ _ => rfl) (fun lot_8 s_7 => (bl_last (E1 := (fun (known_9 : Wv) => ([some (.fz lots_1), some (.fz picks_2), some known_9, none, none, none, none, none, none] : Mir.Env))) (bl_kill (E1 := (fun known_9 => ([some (.fz lots_1), some (.fz picks_2), some known_9, some (.fz lot_8), none, none, none, none, none] : Mir.Env))) (E3 := (fun (known_9 : Wv) => ([some (.fz lots_1), some (.fz picks_2), some known_9, none, none, none, none, none, none] : Mir.Env))) (bl_put (w := s_7) (E1 := (fun known_9 => ([some (.fz lots_1), some (.fz picks_2), some known_9, some (.fz lot_8), none, none, none, none, none] : Mir.Env))) rfl rfl rfl (fun _ => rfl)) (fun _ => rfl)) (fun _ => rfl))))) (fun _ => rfl)) (fun s_10 => (tl_seq1 (E1 := (fun some_11 => ([some (.fz lots_1), some (.fz picks_2), some s_10, none, some some_11, none, none, none, none] : Mir.Env))) (bl_set (E1 := (fun some_11 => ([some (.fz lots_1), some (.fz picks_2), some s_10, none, some some_11, none, none, none, none] : Mir.Env))) (Nat.le_of_ble_eq_true rfl) rfl (fun _ => rfl)) (fun some_11 => (tl_seq1 (E1 := (fun (s_27 : (Wv × Wv)) => ([some (.fz lots_1), none, some s_27.1, none, some s_27.2, none, none, none, none] : Mir.Env))) (bl_kill (E1 := (fun (s_27 : Wv × Wv) => ([some (.fz lots_1), some (.fz picks_2), some s_27.1, none, some s_27.2, none, none, none, none] : Mir.Env))) (E3 := (fun (s_27 : (Wv × Wv)) => ([some (.fz lots_1), none, some s_27.1, none, some s_27.2, none, none, none, none] : Mir.Env))) (bl_for (Es := (fun (s_18 : Wv × Wv) => ([some (.fz lots_1), some (.fz picks_2), some s_18.1, none, some s_18.2, none, none, none, none] : Mir.Env))) (s_10, some_11) rfl rfl (sb_tp2 (E3 := fun number_19 pieces_20 (s_18 : (Wv × Wv)) => ([some (.fz lots_1), some (.fz picks_2), some s_18.1, none, some s_18.2, some (.fz number_19), some (.fz pieces_20), none, none] : Mir.Env)) (bd := fun number_19 pieces_20 (s_18 : (Wv × Wv)) => (bnd (dGet1 (rd s_18.1) (pur (Wv.fz number_19))) fun lot_21 =>
 (ift (dOr (dBin opIsN (rd lot_21) (pur (Wv.fz D.non))) (dBin opLt (dUp (dFld "pieces" [18] (rd lot_21))) (pur (Wv.fz pieces_20))))
 (dRaiseN 5 "number" (pur (Wv.fz number_19)))
 (bnd (bnd (dMeth "taken" (tabF [(18, f_Lot_taken)]) (rdD lot_21) (pur [pieces_20])) fun w => un2 w fun gone_23 left_24 => pur (gone_23, left_24)) fun s_22 =>
 (bnd (dMut "list" mAppend s_18.2 (pur [s_22.1])) fun some_25 =>
 (bnd (dPut s_18.1 (pur s_22.2) (pur number_19)) fun known_26 => pur (known_26, some_25))))))) (fun _ => ⟨(Nat.le_of_ble_eq_true rfl), (Nat.le_of_ble_eq_true rfl)⟩) (fun _ _ _ => rfl) (fun number_19 pieces_20 s_18 => (bl_seq (E1 := (fun lot_21 => ([some (.fz lots_1), some (.fz picks_2), some s_18.1, some lot_21, some s_18.2, some (.fz number_19), some (.fz pieces_20), none, none] : Mir.Env))) (bl_set (E1 := (fun lot_21 => ([some (.fz lots_1), some (.fz picks_2), some s_18.1, some lot_21, some s_18.2, some (.fz number_19), some (.fz pieces_20), none, none] : Mir.Env))) (Nat.le_of_ble_eq_true rfl) rfl (fun _ => rfl)) (fun lot_21 => (bl_ifx (E0 := ([some (.fz lots_1), some (.fz picks_2), some s_18.1, some lot_21, some s_18.2, some (.fz number_19), some (.fz pieces_20), none, none] : Mir.Env)) xt_raiseN rfl rfl (bl_raiseN rfl) (bl_seq (E1 := (fun (s_22 : (D × D)) => ([some (.fz lots_1), some (.fz picks_2), some s_18.1, none, some s_18.2, some (.fz number_19), none, some (.fz s_22.1), some (.fz s_22.2)] : Mir.Env))) (bl_kill (E1 := (fun (s_22 : D × D) => ([some (.fz lots_1), some (.fz picks_2), some s_18.1, some lot_21, some s_18.2, some (.fz number_19), some (.fz pieces_20), some (.fz s_22.1), some (.fz s_22.2)] : Mir.Env))) (E3 := (fun (s_22 : (D × D)) => ([some (.fz lots_1), some (.fz picks_2), some s_18.1, none, some s_18.2, some (.fz number_19), none, some (.fz s_22.1), some (.fz s_22.2)] : Mir.Env))) (bl_asg2 (E3 := (fun (s_22 : D × D) => ([some (.fz lots_1), some (.fz picks_2), some s_18.1, some lot_21, some s_18.2, some (.fz number_19), some (.fz pieces_20), some (.fz s_22.1), some (.fz s_22.2)] : Mir.Env))) (Nat.le_of_ble_eq_true rfl) (Nat.le_of_ble_eq_true rfl) rfl (fun _ _ => rfl)) (fun _ => rfl)) (fun s_22 => (bl_seq (E1 := (fun (some_25 : Wv) => ([some (.fz lots_1), some (.fz picks_2), some s_18.1, none, some some_25, some (.fz number_19), none, none, some (.fz s_22.2)] : Mir.Env))) (bl_kill (E1 := (fun some_25 => ([some (.fz lots_1), some (.fz picks_2), some s_18.1, none, some some_25, some (.fz number_19), none, some (.fz s_22.1), some (.fz s_22.2)] : Mir.Env))) (E3 := (fun (some_25 : Wv) => ([some (.fz lots_1), some (.fz picks_2), some s_18.1, none, some some_25, some (.fz number_19), none, none, some (.fz s_22.2)] : Mir.Env))) (bl_mut (w := s_18.2) (E1 := (fun some_25 => ([some (.fz lots_1), some (.fz picks_2), some s_18.1, none, some some_25, some (.fz number_19), none, some (.fz s_22.1), some (.fz s_22.2)] : Mir.Env))) rfl rfl (fun _ => rfl)) (fun _ => rfl)) (fun some_25 => (bl_last (E1 := (fun (known_26 : Wv) => ([some (.fz lots_1), some (.fz picks_2), some known_26, none, some some_25, none, none, none, none] : Mir.Env))) (bl_kill (E1 := (fun known_26 => ([some (.fz lots_1), some (.fz picks_2), some known_26, none, some some_25, some (.fz number_19), none, none, some (.fz s_22.2)] : Mir.Env))) (E3 := (fun (known_26 : Wv) => ([some (.fz lots_1), some (.fz picks_2), some known_26, none, some some_25, none, none, none, none] : Mir.Env))) (bl_put (w := s_18.1) (E1 := (fun known_26 => ([some (.fz lots_1), some (.fz picks_2), some known_26, none, some some_25, some (.fz number_19), none, none, some (.fz s_22.2)] : Mir.Env))) rfl rfl rfl (fun _ => rfl)) (fun _ => rfl)) (fun _ => rfl)))))))))))) (fun _ => rfl)) (fun s_27 => (tl_frz (E0 := ([some (.fz lots_1), none, some s_27.1, none, some s_27.2.fzn, none, none, none, none] : Mir.Env)) s_27.2 rfl rfl (tl_ret (congrArg (fun h_29 => (dUp (dTup (dCons (rdD s_27.2.fzn) (dCons (dFz h_29) (pur [])))))) (show ((cLc [3] (.nm 3) (cBin (notM opIsN) (cBin opSub2 (cBor 2) (cUp (cFld "number" [18] (cBor 3)))) (cUp (cC .non))) (cFz (cBin opSub2 (cBor 2) (cUp (cFld "number" [18] (cBor 3))))) (cItems (cVar 0))) : CE) ([some (.fz lots_1), none, some s_27.1, none, some s_27.2.fzn, none, none, none, none] : Mir.Env) = (bnd (dItems (pur lots_1)) fun items => lcS (fun lot_28 => lcStep (dBin (notM opIsN) (dBin opSub2 (rd s_27.1) (dUp (dFld "number" [18] (pur (Wv.fz lot_28))))) (pur (Wv.fz D.non))) (dFz (dBin opSub2 (rd s_27.1) (dUp (dFld "number" [18] (pur (Wv.fz lot_28))))))) items []) from (lc_nm (E3 := fun lot_28 => ([some (.fz lots_1), none, some s_27.1, some (.fz lot_28), some s_27.2.fzn, none, none, none, none] : Mir.Env)) (Nat.le_of_ble_eq_true rfl) (fun _ => rfl) rfl (fun lot_28 => rfl) (fun lot_28 => rfl))))))))))))))
theorem c_row_without (lots_1 : D) (picks_2 : D) (S : Store) : f_row_without [lots_1, picks_2] S = g_row_without lots_1 picks_2 S := fn_code rfl (t_row_without lots_1 picks_2) S
-- _law_taken
def m_taken_k23 : CS :=
    (cSeq (cSet 2 cDct0)
    (cSeq (cKill [3] (cFor (cItems (cVar 0)) (.nm 3) (cKill [3] (cPut 2 (cVar 3) (cFz (cBin opSub2 (cBor 3) (cUp (cC (.int 0)))))))))
    (cSeq (cSet 4 (cLst cNil))
    (cSeq (cKill [1, 5, 6, 7, 8, 9, 10, 11] (cFor (cItems (cVar 1)) (.tp [5, 6]) (cSeq (cKill [7] (cAsg (.tp [7, 8, 9, 10]) (cBin opSub2 (cBor 2) (cBor 5))))
      (cSeq (cSet 11 (cBin opDiv (cBin opMul (cBor 10) (cBor 6)) (cBor 9)))
      (cSeq (cMut 4 "list" mAppend (cCons (cTup (cCons (cVar 5) (cCons (cVar 8) (cCons (cVar 6) (cCons (cVar 11) cNil))))) cNil))
      (cKill [5, 6, 8, 9, 10, 11] (cPut 2 (cTup (cCons (cVar 5) (cCons (cVar 8) (cCons (cFz (cBin opSub (cBor 9) (cBor 6))) (cCons (cFz (cBin opSub (cBor 10) (cBor 11))) cNil))))) (cVar 5))))))))
    (cFrz 4 (cRet (cUp (cTup (cCons (cVar 4) (cCons (cFz (cLc [3] (.nm 3) (cBin opGt (cBin opSub2 (cBin opSub2 (cBor 2) (cBin opSub2 (cBor 3) (cUp (cC (.int 0))))) (cUp (cC (.int 2)))) (cUp (cC (.int 0)))) (cFz (cBin opSub2 (cBor 2) (cBin opSub2 (cBor 3) (cUp (cC (.int 0)))))) (cItems (cVar 0)))) cNil))))))))))
def f_taken_k23 : Fn := runF 12 m_taken_k23
def g_taken_k23_l1 : D → Wv → M (Wv) := fun (lot_8 : D) (s_7 : Wv) => (bnd (dPut s_7 (pur lot_8) (dFz (opSub2 (Wv.fz lot_8) (Wv.fz (D.int 0))))) fun known_9 => pur known_9)
def g_taken_k23_l2 : D → (Wv × Wv) → M (Wv × Wv) := fun (d : D) (s_18 : Wv × Wv) => un2 (Wv.fz d) fun number_19 wanted_20 => (bnd (bnd (dBin opSub2 (rd s_18.1) (pur (Wv.fz number_19))) fun w => un4 w fun here_22 since_23 pieces_24 cost_25 => pur (here_22, since_23, pieces_24, cost_25)) fun s_21 =>
 (bnd (dBin opDiv (opMul (Wv.fz s_21.2.2.2) (Wv.fz wanted_20)) (pur (Wv.fz s_21.2.2.1))) fun part_26 =>
 (bnd (dMut "list" mAppend s_18.2 (dCons (dTup (dCons (pur number_19) (dCons (pur s_21.2.1) (dCons (pur wanted_20) (dCons (rdD part_26) (pur [])))))) (pur []))) fun some_27 =>
 (bnd (dPut s_18.1 (dTup (dCons (pur number_19) (dCons (pur s_21.2.1) (dCons (dFz (opSub (Wv.fz s_21.2.2.1) (Wv.fz wanted_20))) (dCons (dFz (dBin opSub (pur (Wv.fz s_21.2.2.2)) (rd part_26))) (pur [])))))) (pur number_19)) fun known_28 => pur (known_28, some_27)))))
def g_taken_k23 (row_here_1 : D) (picks_here_2 : D) : M Wv :=
 (bnd (pur (Wv.ow (.dct []))) fun known_3 =>
 (bnd (bnd (dItems (pur row_here_1)) fun items => forD g_taken_k23_l1 items known_3) fun s_10 =>
 (bnd (dLst (pur [])) fun some_11 =>
 (bnd (bnd (dItems (pur picks_here_2)) fun items => forD g_taken_k23_l2 items (s_10, some_11)) fun s_29 =>
 (dUp (dTup (dCons (rdD s_29.2.fzn) (dCons (dFz (bnd (dItems (pur row_here_1)) fun items => lcS (fun lot_30 => lcStep (dBin opGt (dBin opSub2 (dBin opSub2 (rd s_29.1) (opSub2 (Wv.fz lot_30) (Wv.fz (D.int 0)))) (pur (Wv.fz (D.int 2)))) (pur (Wv.fz (D.int 0)))) (dFz (dBin opSub2 (rd s_29.1) (opSub2 (Wv.fz lot_30) (Wv.fz (D.int 0)))))) items [])) (pur [])))))))))
theorem t_taken_k23 (row_here_1 : D) (picks_here_2 : D) : Tl m_taken_k23 ([some (.fz row_here_1), some (.fz picks_here_2), none, none, none, none, none, none, none, none, none, none] : Mir.Env) (g_taken_k23 row_here_1 picks_here_2) :=
 (tl_seq1 (E1 := (fun known_3 => ([some (.fz row_here_1), some (.fz picks_here_2), some known_3, none, none, none, none, none, none, none, none, none] : Mir.Env))) (bl_set (E1 := (fun known_3 => ([some (.fz row_here_1), some (.fz picks_here_2), some known_3, none, none, none, none, none, none, none, none, none] : Mir.Env))) (Nat.le_of_ble_eq_true rfl) rfl (fun _ => rfl)) (fun known_3 => (tl_seq1 (E1 := (fun (s_10 : (Wv)) => ([some (.fz row_here_1), some (.fz picks_here_2), some s_10, none, none, none, none, none, none, none, none, none] : Mir.Env))) (bl_kill (E1 := (fun (s_10 : Wv) => ([some (.fz row_here_1), some (.fz picks_here_2), some s_10, none, none, none, none, none, none, none, none, none] : Mir.Env))) (E3 := (fun (s_10 : (Wv)) => ([some (.fz row_here_1), some (.fz picks_here_2), some s_10, none, none, none, none, none, none, none, none, none] : Mir.Env))) (bl_for (Es := (fun (s_7 : Wv) => ([some (.fz row_here_1), some (.fz picks_here_2), some s_7, none, none, none, none, none, none, none, none, none] : Mir.Env))) known_3 rfl rfl (sb_nm (E3 := fun lot_8 (s_7 : (Wv)) => ([some (.fz row_here_1), some (.fz picks_here_2), some s_7, some (.fz lot_8), none, none, none, none, none, none, none, none] : Mir.Env)) (fun _ => (Nat.le_of_ble_eq_true rfl)) (fun _ _ => rfl) (fun lot_8 s_7 => (bl_last (E1 := (fun (known_9 : Wv) => ([some (.fz row_here_1), some (.fz picks_here_2), some known_9, none, none, none, none, none, none, none, none, none] : Mir.Env))) (bl_kill (E1 := (fun known_9 => ([some (.fz row_here_1), some (.fz picks_here_2), some known_9, some (.fz lot_8), none, none, none, none, none, none, none, none] : Mir.Env))) (E3 := (fun (known_9 : Wv) => ([some (.fz row_here_1), some (.fz picks_here_2), some known_9, none, none, none, none, none, none, none, none, none] : Mir.Env))) (bl_put (w := s_7) (E1 := (fun known_9 => ([some (.fz row_here_1), some (.fz picks_here_2), some known_9, some (.fz lot_8), none, none, none, none, none, none, none, none] : Mir.Env))) rfl rfl rfl (fun _ => rfl)) (fun _ => rfl)) (fun _ => rfl))))) (fun _ => rfl)) (fun s_10 => (tl_seq1 (E1 := (fun some_11 => ([some (.fz row_here_1), some (.fz picks_here_2), some s_10, none, some some_11, none, none, none, none, none, none, none] : Mir.Env))) (bl_set (E1 := (fun some_11 => ([some (.fz row_here_1), some (.fz picks_here_2), some s_10, none, some some_11, none, none, none, none, none, none, none] : Mir.Env))) (Nat.le_of_ble_eq_true rfl) rfl (fun _ => rfl)) (fun some_11 => (tl_seq1 (E1 := (fun (s_29 : (Wv × Wv)) => ([some (.fz row_here_1), none, some s_29.1, none, some s_29.2, none, none, none, none, none, none, none] : Mir.Env))) (bl_kill (E1 := (fun (s_29 : Wv × Wv) => ([some (.fz row_here_1), some (.fz picks_here_2), some s_29.1, none, some s_29.2, none, none, none, none, none, none, none] : Mir.Env))) (E3 := (fun (s_29 : (Wv × Wv)) => ([some (.fz row_here_1), none, some s_29.1, none, some s_29.2, none, none, none, none, none, none, none] : Mir.Env))) (bl_for (Es := (fun (s_18 : Wv × Wv) => ([some (.fz row_here_1), some (.fz picks_here_2), some s_18.1, none, some s_18.2, none, none, none, none, none, none, none] : Mir.Env))) (s_10, some_11) rfl rfl (sb_tp2 (E3 := fun number_19 wanted_20 (s_18 : (Wv × Wv)) => ([some (.fz row_here_1), some (.fz picks_here_2), some s_18.1, none, some s_18.2, some (.fz number_19), some (.fz wanted_20), none, none, none, none, none] : Mir.Env)) (bd := fun number_19 wanted_20 (s_18 : (Wv × Wv)) => (bnd (bnd (dBin opSub2 (rd s_18.1) (pur (Wv.fz number_19))) fun w => un4 w fun here_22 since_23 pieces_24 cost_25 => pur (here_22, since_23, pieces_24, cost_25)) fun s_21 =>
 (bnd (dBin opDiv (opMul (Wv.fz s_21.2.2.2) (Wv.fz wanted_20)) (pur (Wv.fz s_21.2.2.1))) fun part_26 =>
 (bnd (dMut "list" mAppend s_18.2 (dCons (dTup (dCons (pur number_19) (dCons (pur s_21.2.1) (dCons (pur wanted_20) (dCons (rdD part_26) (pur [])))))) (pur []))) fun some_27 =>
 (bnd (dPut s_18.1 (dTup (dCons (pur number_19) (dCons (pur s_21.2.1) (dCons (dFz (opSub (Wv.fz s_21.2.2.1) (Wv.fz wanted_20))) (dCons (dFz (dBin opSub (pur (Wv.fz s_21.2.2.2)) (rd part_26))) (pur [])))))) (pur number_19)) fun known_28 => pur (known_28, some_27)))))) (fun _ => ⟨(Nat.le_of_ble_eq_true rfl), (Nat.le_of_ble_eq_true rfl)⟩) (fun _ _ _ => rfl) (fun number_19 wanted_20 s_18 => (bl_seq (E1 := (fun (s_21 : (D × D × D × D)) => ([some (.fz row_here_1), some (.fz picks_here_2), some s_18.1, none, some s_18.2, some (.fz number_19), some (.fz wanted_20), none, some (.fz s_21.2.1), some (.fz s_21.2.2.1), some (.fz s_21.2.2.2), none] : Mir.Env))) (bl_kill (E1 := (fun (s_21 : D × D × D × D) => ([some (.fz row_here_1), some (.fz picks_here_2), some s_18.1, none, some s_18.2, some (.fz number_19), some (.fz wanted_20), some (.fz s_21.1), some (.fz s_21.2.1), some (.fz s_21.2.2.1), some (.fz s_21.2.2.2), none] : Mir.Env))) (E3 := (fun (s_21 : (D × D × D × D)) => ([some (.fz row_here_1), some (.fz picks_here_2), some s_18.1, none, some s_18.2, some (.fz number_19), some (.fz wanted_20), none, some (.fz s_21.2.1), some (.fz s_21.2.2.1), some (.fz s_21.2.2.2), none] : Mir.Env))) (bl_asg4 (E3 := (fun (s_21 : D × D × D × D) => ([some (.fz row_here_1), some (.fz picks_here_2), some s_18.1, none, some s_18.2, some (.fz number_19), some (.fz wanted_20), some (.fz s_21.1), some (.fz s_21.2.1), some (.fz s_21.2.2.1), some (.fz s_21.2.2.2), none] : Mir.Env))) (Nat.le_of_ble_eq_true rfl) (Nat.le_of_ble_eq_true rfl) (Nat.le_of_ble_eq_true rfl) (Nat.le_of_ble_eq_true rfl) rfl (fun _ _ _ _ => rfl)) (fun _ => rfl)) (fun s_21 => (bl_seq (E1 := (fun part_26 => ([some (.fz row_here_1), some (.fz picks_here_2), some s_18.1, none, some s_18.2, some (.fz number_19), some (.fz wanted_20), none, some (.fz s_21.2.1), some (.fz s_21.2.2.1), some (.fz s_21.2.2.2), some part_26] : Mir.Env))) (bl_set (E1 := (fun part_26 => ([some (.fz row_here_1), some (.fz picks_here_2), some s_18.1, none, some s_18.2, some (.fz number_19), some (.fz wanted_20), none, some (.fz s_21.2.1), some (.fz s_21.2.2.1), some (.fz s_21.2.2.2), some part_26] : Mir.Env))) (Nat.le_of_ble_eq_true rfl) rfl (fun _ => rfl)) (fun part_26 => (bl_seq (E1 := (fun some_27 => ([some (.fz row_here_1), some (.fz picks_here_2), some s_18.1, none, some some_27, some (.fz number_19), some (.fz wanted_20), none, some (.fz s_21.2.1), some (.fz s_21.2.2.1), some (.fz s_21.2.2.2), some part_26] : Mir.Env))) (bl_mut (w := s_18.2) (E1 := (fun some_27 => ([some (.fz row_here_1), some (.fz picks_here_2), some s_18.1, none, some some_27, some (.fz number_19), some (.fz wanted_20), none, some (.fz s_21.2.1), some (.fz s_21.2.2.1), some (.fz s_21.2.2.2), some part_26] : Mir.Env))) rfl rfl (fun _ => rfl)) (fun some_27 => (bl_last (E1 := (fun (known_28 : Wv) => ([some (.fz row_here_1), some (.fz picks_here_2), some known_28, none, some some_27, none, none, none, none, none, none, none] : Mir.Env))) (bl_kill (E1 := (fun known_28 => ([some (.fz row_here_1), some (.fz picks_here_2), some known_28, none, some some_27, some (.fz number_19), some (.fz wanted_20), none, some (.fz s_21.2.1), some (.fz s_21.2.2.1), some (.fz s_21.2.2.2), some part_26] : Mir.Env))) (E3 := (fun (known_28 : Wv) => ([some (.fz row_here_1), some (.fz picks_here_2), some known_28, none, some some_27, none, none, none, none, none, none, none] : Mir.Env))) (bl_put (w := s_18.1) (E1 := (fun known_28 => ([some (.fz row_here_1), some (.fz picks_here_2), some known_28, none, some some_27, some (.fz number_19), some (.fz wanted_20), none, some (.fz s_21.2.1), some (.fz s_21.2.2.1), some (.fz s_21.2.2.2), some part_26] : Mir.Env))) rfl rfl rfl (fun _ => rfl)) (fun _ => rfl)) (fun _ => rfl))))))))))) (fun _ => rfl)) (fun s_29 => (tl_frz (E0 := ([some (.fz row_here_1), none, some s_29.1, none, some s_29.2.fzn, none, none, none, none, none, none, none] : Mir.Env)) s_29.2 rfl rfl (tl_ret (congrArg (fun h_31 => (dUp (dTup (dCons (rdD s_29.2.fzn) (dCons (dFz h_31) (pur [])))))) (show ((cLc [3] (.nm 3) (cBin opGt (cBin opSub2 (cBin opSub2 (cBor 2) (cBin opSub2 (cBor 3) (cUp (cC (.int 0))))) (cUp (cC (.int 2)))) (cUp (cC (.int 0)))) (cFz (cBin opSub2 (cBor 2) (cBin opSub2 (cBor 3) (cUp (cC (.int 0)))))) (cItems (cVar 0))) : CE) ([some (.fz row_here_1), none, some s_29.1, none, some s_29.2.fzn, none, none, none, none, none, none, none] : Mir.Env) = (bnd (dItems (pur row_here_1)) fun items => lcS (fun lot_30 => lcStep (dBin opGt (dBin opSub2 (dBin opSub2 (rd s_29.1) (opSub2 (Wv.fz lot_30) (Wv.fz (D.int 0)))) (pur (Wv.fz (D.int 2)))) (pur (Wv.fz (D.int 0)))) (dFz (dBin opSub2 (rd s_29.1) (opSub2 (Wv.fz lot_30) (Wv.fz (D.int 0)))))) items []) from (lc_nm (E3 := fun lot_30 => ([some (.fz row_here_1), none, some s_29.1, some (.fz lot_30), some s_29.2.fzn, none, none, none, none, none, none, none] : Mir.Env)) (Nat.le_of_ble_eq_true rfl) (fun _ => rfl) rfl (fun lot_30 => rfl) (fun lot_30 => rfl))))))))))))))
theorem c_taken_k23 (row_here_1 : D) (picks_here_2 : D) (S : Store) : f_taken_k23 [row_here_1, picks_here_2] S = g_taken_k23 row_here_1 picks_here_2 S := fn_code rfl (t_taken_k23 row_here_1 picks_here_2) S
end G
set_option Elab.async false
set_option linter.all false
set_option maxRecDepth 100000
set_option exponentiation.threshold 100000
/-! M_rw: lots taken out of a row by picks. -/
namespace G
open PySem L2 Mir
variable {S : Store}
theorem lkD_put (kvs : List (Key × D)) (k j : Key) (d : D) : lkD (putD kvs k d) j = if j = k then some d else lkD kvs j := by
  have ap : ∀ (l r : List (Key × D)), lkD (l ++ r) j = (lkD l j).or (lkD r j) := by
    intro l r
    unfold lkD
    rw [List.find?_append]
    cases l.find? fun kv => decide (kv.1 = j) <;> rfl
  have no : ∀ l : List (Key × D), (l.any fun kv => decide (kv.1 = k)) = false → lkD l k = none := by
    intro l h
    unfold lkD
    rw [List.find?_eq_none.mpr]
    · rfl
    · intro x hx
      rw [List.any_eq_false] at h
      exact h x hx
  have mp : ∀ l : List (Key × D), lkD (l.map fun kv => if kv.1 = k then (kv.1, d) else kv) j = if j = k then (if (l.any fun kv => decide (kv.1 = k)) = true then some d else none) else lkD l j := by
    intro l
    induction l with
    | nil => simp [lkD]
    | cons x r ih =>
      unfold lkD at ih ⊢
      rw [List.map_cons, List.find?_cons, List.find?_cons, List.any_cons]
      by_cases e : x.1 = k
      · rw [if_pos e]
        by_cases e2 : j = k
        · subst e2
          simp [e]
        · have : ¬ x.1 = j := fun z => e2 (z.symm.trans e)
          simp only [this, decide_false, e2, if_false] at ih ⊢
          exact ih
      · rw [if_neg e]
        by_cases e2 : x.1 = j
        · have : ¬ j = k := fun z => e (e2.trans z)
          simp [e2, this]
        · simp only [e2, decide_false, e, Bool.false_or] at ih ⊢
          exact ih
  unfold putD
  split
  · rename_i h
    rw [mp, if_pos h]
  · rename_i h
    have h : (kvs.any fun kv => decide (kv.1 = k)) = false := by rw [← Bool.not_eq_true]; exact h
    rw [ap]
    by_cases e : j = k
    · subst e
      rw [no kvs h, if_pos rfl]
      simp [lkD]
    · rw [if_neg e]
      have : lkD [(k, d)] j = none := by
        have : ¬ k = j := fun z => e z.symm
        simp [lkD, this]
      rw [this]
      cases lkD kvs j <;> rfl
theorem len_put (kvs : List (Key × D)) (k : Key) (d : D) : (putD kvs k d).length ≤ kvs.length + 1 := by
  unfold putD
  split <;> simp
abbrev pk (q : Int × Int) : D := .tup [.int q.1, .int q.2]
abbrev Stt := Int → Option (Option Lt)
def Stt.put (st : Stt) (n : Int) (o : Option Lt) : Stt := fun m => if m = n then some o else st m
def oL : Option Lt → D
  | none => .non
  | some l => lotD l
def oQ : Option Lt → D
  | none => .non
  | some l => qd l
/-- a lot as it may stand in a row -/
structure Lt.Fit (l : Lt) : Prop where
  ok : l.Ok
  p0 : 0 < l.p
  c0 : 0 ≤ l.c
theorem good_fit {l : Lt} (h : l.Good) : l.Fit := ⟨good_ok h, by have := h.p0; omega, h.c0⟩
theorem Lt.Fit.cut {l : Lt} (h : l.Fit) {q : Int} (h1 : 1 ≤ q) (h2 : q ≤ l.p) : 0 ≤ l.cut q ∧ l.cut q ≤ l.c :=
  ⟨Int.ediv_nonneg (Int.mul_nonneg h.c0 (by omega)) (by have := h.p0; omega), Int.ediv_le_of_le_mul h.p0 (Int.mul_le_mul_of_nonneg_left h2 h.c0)⟩
theorem Lt.Fit.rest {l : Lt} (h : l.Fit) {q : Int} (h1 : 1 ≤ q) (h2 : q < l.p) : (l.rest q).Fit := by
  obtain ⟨a, b⟩ := h.cut h1 (by omega)
  obtain ⟨⟨o1, o2⟩, p0, c0⟩ := h
  refine ⟨⟨?_, ?_⟩, ?_, ?_⟩
  · show (l.p - q).natAbs < _
    generalize (2 : Nat) ^ 300 = z at *
    omega
  · show (l.c - l.cut q).natAbs < _
    generalize (2 : Nat) ^ 300 = z at *
    omega
  · show 0 < l.p - q
    omega
  · show 0 ≤ l.c - l.cut q
    omega
theorem Lt.Fit.got {l : Lt} (h : l.Fit) {q : Int} (h1 : 1 ≤ q) (h2 : q ≤ l.p) : (l.got q).Fit := by
  obtain ⟨a, b⟩ := h.cut h1 h2
  obtain ⟨⟨o1, o2⟩, p0, c0⟩ := h
  refine ⟨⟨?_, ?_⟩, ?_, a⟩
  · show q.natAbs < _
    generalize (2 : Nat) ^ 300 = z at *
    omega
  · show (l.cut q).natAbs < _
    generalize (2 : Nat) ^ 300 = z at *
    omega
  · show 0 < q
    omega
/-- picks taken, one by one: the lots gone and what stands then, or the number of the first that can't be -/
def wo : Stt → List (Int × Int) → Except Int (List Lt × Stt)
  | st, [] => .ok ([], st)
  | st, (n, q) :: r => match st n with
    | some (some l) => if l.p < q then .error n else match wo (st.put n (if q = l.p then none else some (l.rest q))) r with
      | .ok (g, st') => .ok (l.got q :: g, st')
      | .error m => .error m
    | _ => .error n
/-- the row's state -/
def stF (R : List Lt) : Stt := R.foldl (fun st l => st.put l.n (some l)) fun _ => none
theorem stF_go : ∀ (R : List Lt) (st : Stt) (n : Int), (R.foldl (fun st l => st.put l.n (some l)) st) n = if n ∈ R.map Lt.n then (stF R) n else st n
  | [], st, n => by simp
  | l :: r, st, n => by
    unfold stF
    rw [List.foldl_cons, List.foldl_cons, stF_go r, stF_go r (Stt.put (fun _ => none) l.n (some l))]
    by_cases h : n ∈ r.map Lt.n
    · simp [h]
    · by_cases h2 : n = l.n
      · simp [h, h2, Stt.put]
      · simp [h, h2, Stt.put]
theorem stF_in {R : List Lt} (nd : (R.map Lt.n).Nodup) {l : Lt} (h : l ∈ R) : stF R l.n = some (some l) := by
  induction R with
  | nil => cases h
  | cons x r ih =>
    rw [List.map_cons, List.nodup_cons] at nd
    unfold stF
    rw [List.foldl_cons, stF_go]
    rcases List.mem_cons.mp h with rfl | h
    · rw [if_neg nd.1]
      simp [Stt.put]
    · rw [if_pos (List.mem_map_of_mem h)]
      exact ih nd.2 h
theorem stF_no {R : List Lt} {n : Int} (h : n ∉ R.map Lt.n) : stF R n = none := by
  have := stF_go R (fun _ => none) n
  rw [if_neg h] at this
  exact this
theorem stF_some {R : List Lt} (nd : (R.map Lt.n).Nodup) {n : Int} {o : Option Lt} (h : stF R n = some o) : ∃ l ∈ R, l.n = n ∧ o = some l := by
  by_cases hn : n ∈ R.map Lt.n
  · obtain ⟨l, hl, rfl⟩ := List.mem_map.mp hn
    rw [stF_in nd hl] at h
    cases h
    exact ⟨l, hl, rfl, rfl⟩
  · rw [stF_no hn] at h
    cases h
structure StOk (st : Stt) : Prop where
  fit : ∀ n l, st n = some (some l) → l.Fit ∧ l.n = n
theorem StOk.put {st : Stt} (h : StOk st) {n : Int} {o : Option Lt} (ho : ∀ l, o = some l → l.Fit ∧ l.n = n) : StOk (st.put n o) := ⟨fun m l e => by
  unfold Stt.put at e
  split at e
  · rename_i q
    cases e
    rw [q]
    exact ho l rfl
  · exact h.fit m l e⟩
/-- the dict that holds the state -/
structure Dk (f : Option Lt → D) (kvs : List (Key × D)) (st : Stt) : Prop where
  lk : ∀ n, lkD kvs (.inl n) = (st n).map f
theorem Dk.put {f : Option Lt → D} {kvs : List (Key × D)} {st : Stt} (h : Dk f kvs st) (n : Int) (o : Option Lt) : Dk f (putD kvs (.inl n) (f o)) (st.put n o) := ⟨fun m => by
  rw [lkD_put]
  unfold Stt.put
  by_cases e : m = n
  · subst e
    simp
  · have : ¬ (Sum.inl m : Key) = Sum.inl n := fun z => e (Sum.inl.inj z)
    rw [if_neg this, if_neg e]
    exact h.lk m⟩
theorem put_len {kvs : List (Key × D)} {k : Key} {d d' : D} (h : lkD kvs k = some d') : (putD kvs k d).length = kvs.length := by
  unfold putD
  split
  · simp
  · rename_i z
    unfold lkD at h
    rw [List.find?_eq_none.mpr] at h
    · cases h
    · intro x hx
      rw [Bool.not_eq_true, List.any_eq_false] at z
      exact z x hx
theorem rw_l1 (R : List Lt) (hl : R.length ≤ 1000) : ∃ kvs, forD g_row_without_l1 (R.map lotD) (.ow (.dct [])) S = .ok (.ow (.dct kvs)) S ∧ Dk oL kvs (stF R) ∧ kvs.length ≤ 1000 := by
  have go : ∀ (r : List Lt) (kvs : List (Key × D)) (st : Stt), Dk oL kvs st → kvs.length + r.length ≤ 1000 → ∃ kvs', forD g_row_without_l1 (r.map lotD) (.ow (.dct kvs)) S = .ok (.ow (.dct kvs')) S ∧ Dk oL kvs' (r.foldl (fun st l => st.put l.n (some l)) st) ∧ kvs'.length ≤ 1000 := by
    intro r
    induction r with
    | nil => exact fun kvs st h hz => ⟨kvs, rfl, h, by simpa using hz⟩
    | cons l r ih =>
      intro kvs st h hz
      rw [List.length_cons] at hz
      have lp := len_put kvs (.inl l.n) (lotD l)
      obtain ⟨kvs', h1, h2, h3⟩ := ih (putD kvs (.inl l.n) (lotD l)) _ (h.put l.n (some l)) (by omega)
      refine ⟨kvs', ?_, h2, h3⟩
      rw [List.map_cons]
      have sz : szOk (kvs.length + 1) = true := szOk_le (by omega)
      refine (forD_cons ?_).trans h1
      simp -implicitDefEqProofs [g_row_without_l1, sz]
  exact go R [] (fun _ => none) ⟨fun n => rfl⟩ (by simpa using hl)
theorem rw_l2 : ∀ (P : List (Int × Int)) (kvs : List (Key × D)) (acc : List Lt) (st : Stt), Dk oL kvs st → StOk st → kvs.length ≤ 1000 → acc.length + P.length ≤ 1000 → (∀ q ∈ P, 1 ≤ q.2 ∧ q.2.natAbs < 2 ^ 300) →
    (∀ n, wo st P = .error n → forD g_row_without_l2 (P.map pk) (.ow (.dct kvs), .ow (.lst (acc.map lotD))) S = .ex (5, some ("number", n)) S) ∧
    (∀ g st', wo st P = .ok (g, st') → ∃ kvs', forD g_row_without_l2 (P.map pk) (.ow (.dct kvs), .ow (.lst (acc.map lotD))) S = .ok (.ow (.dct kvs'), .ow (.lst ((acc ++ g).map lotD))) S ∧ Dk oL kvs' st' ∧ kvs'.length ≤ 1000)
  | [], kvs, acc, st, h, _, hz, _, _ => ⟨fun n e => (nomatch e), fun g st' e => by
      cases e
      exact ⟨kvs, by rw [List.append_nil]; rfl, h, hz⟩⟩
  | (n, q) :: r, kvs, acc, st, h, ok, hz, hl, hq => by
    obtain ⟨q1, q2⟩ := hq (n, q) List.mem_cons_self
    rw [List.length_cons] at hl
    have lk := h.lk n
    have sz : szOk (acc.length + 1) = true := szOk_le (by omega)
    have sz2 : szOk (kvs.length + 1) = true := szOk_le (by omega)
    have bad : ∀ o, (st n).map oL = o → o.getD .non = .non → g_row_without_l2 (pk (n, q)) (.ow (.dct kvs), .ow (.lst (acc.map lotD))) S = .ex (5, some ("number", n)) S := fun o e1 e2 => by
      rw [← lk] at e1
      simp -implicitDefEqProofs [g_row_without_l2, e1, e2]
    have ex : ∀ {m}, g_row_without_l2 (pk (n, q)) (.ow (.dct kvs), .ow (.lst (acc.map lotD))) S = .ex (5, some ("number", m)) S → forD g_row_without_l2 (((n, q) :: r).map pk) (.ow (.dct kvs), .ow (.lst (acc.map lotD))) S = .ex (5, some ("number", m)) S := fun {m} e => by
      show bindR (g_row_without_l2 (pk (n, q)) (.ow (.dct kvs), .ow (.lst (acc.map lotD))) S) _ = _
      rw [e]
      rfl
    unfold wo
    cases e : st n with
    | none =>
      dsimp only
      exact ⟨fun m z => by cases z; exact ex (bad none (by rw [e]; rfl) rfl), fun g st' z => (nomatch z)⟩
    | some o =>
      cases o with
      | none =>
        dsimp only
        exact ⟨fun m z => by cases z; exact ex (bad (some .non) (by rw [e]; rfl) rfl), fun g st' z => (nomatch z)⟩
      | some l =>
        dsimp only
        obtain ⟨fit, ln⟩ := ok.fit n l e
        rw [e] at lk
        have lk : lkD kvs (.inl n) = some (lotD l) := lk
        by_cases c : l.p < q
        · rw [if_pos c]
          refine ⟨fun m z => ?_, fun g st' z => (nomatch z)⟩
          cases z
          refine ex ?_
          simp -implicitDefEqProofs [g_row_without_l2, lk, c]
        · rw [if_neg c]
          have t := taken_eq (S := S) fit.ok fit.p0 q2
          have lf : l.left q = oL (if q = l.p then none else some (l.rest q)) := by
            unfold Lt.left
            split <;> rfl
          have step : g_row_without_l2 (pk (n, q)) (.ow (.dct kvs), .ow (.lst (acc.map lotD))) S = .ok (.ow (.dct (putD kvs (.inl n) (oL (if q = l.p then none else some (l.rest q))))), .ow (.lst ((acc ++ [l.got q]).map lotD))) S := by
            rw [lf] at t
            simp -implicitDefEqProofs [g_row_without_l2, lk, c, t, sz, sz2]
          have ih := rw_l2 r (putD kvs (.inl n) (oL (if q = l.p then none else some (l.rest q)))) (acc ++ [l.got q]) (st.put n (if q = l.p then none else some (l.rest q))) (h.put _ _) (ok.put fun l' z => by
            split at z
            · cases z
            · cases z
              exact ⟨fit.rest q1 (by omega), ln⟩) (by rw [put_len lk]; exact hz) (by rw [List.length_append, List.length_singleton]; omega) (fun x hx => hq x (List.mem_cons_of_mem _ hx))
          have go : ∀ {y : R (Wv × Wv)}, forD g_row_without_l2 (r.map pk) (.ow (.dct (putD kvs (.inl n) (oL (if q = l.p then none else some (l.rest q))))), .ow (.lst ((acc ++ [l.got q]).map lotD))) S = y → forD g_row_without_l2 (((n, q) :: r).map pk) (.ow (.dct kvs), .ow (.lst (acc.map lotD))) S = y := fun {y} z => by
            rw [List.map_cons]
            exact (forD_cons step).trans z
          cases e2 : wo (st.put n (if q = l.p then none else some (l.rest q))) r with
          | error m =>
            dsimp only
            exact ⟨fun m' z => by cases z; exact go (ih.1 m e2), fun g st' z => (nomatch z)⟩
          | ok p =>
            obtain ⟨g, st'⟩ := p
            dsimp only
            refine ⟨fun m' z => (nomatch z), fun g' st'' z => ?_⟩
            cases z
            obtain ⟨kvs', i1, i2, i3⟩ := ih.2 g st' e2
            refine ⟨kvs', go ?_, i2, i3⟩
            rw [List.append_assoc] at i1
            exact i1
/-- what is known stays known -/
theorem wo_dom : ∀ (P : List (Int × Int)) (st : Stt) {g : List Lt} {st' : Stt}, wo st P = .ok (g, st') → ∀ n, (st n).isSome = true → (st' n).isSome = true
  | [], st, g, st', h, n, hn => by
    cases h
    exact hn
  | (m, q) :: r, st, g, st', h, n, hn => by
    unfold wo at h
    split at h
    · rename_i l e
      split at h
      · cases h
      · split at h
        · rename_i g2 st2 e2
          cases h
          refine wo_dom r _ e2 n ?_
          unfold Stt.put
          split
          · rfl
          · exact hn
        · cases h
    · cases h
def leftOf (R : List Lt) (st : Stt) : List Lt := R.filterMap fun l => (st l.n).getD none
theorem rw_ok {R : List Lt} (hl : R.length ≤ 1000) (nd : (R.map Lt.n).Nodup) (fit : ∀ l ∈ R, l.Fit) {P : List (Int × Int)} (hP : P.length ≤ 1000) (hq : ∀ q ∈ P, 1 ≤ q.2 ∧ q.2.natAbs < 2 ^ 300) {g : List Lt} {st' : Stt} (h : wo (stF R) P = .ok (g, st')) :
    f_row_without [.lst (R.map lotD), .lst (P.map pk)] S = .ok (.fz (.tup [.lst (g.map lotD), .lst ((leftOf R st').map lotD)])) S := by
  obtain ⟨kvs, h1, h2, h3⟩ := rw_l1 (S := S) R hl
  have so : StOk (stF R) := ⟨fun n l e => by
    obtain ⟨l', hl', e1, e2⟩ := stF_some nd e
    cases e2
    exact ⟨fit _ hl', e1⟩⟩
  obtain ⟨kvs', k1, k2, k3⟩ := (rw_l2 (S := S) P kvs [] (stF R) h2 so h3 (by simpa using hP) hq).2 g st' h
  rw [List.nil_append, List.map_nil] at k1
  have at_ : ∀ l ∈ R, ∃ o, st' l.n = some o ∧ lkD kvs' (.inl l.n) = some (oL o) := fun l hl' => by
    have := wo_dom P (stF R) h l.n (by rw [stF_in nd hl']; rfl)
    obtain ⟨o, ho⟩ := Option.isSome_iff_exists.mp this
    exact ⟨o, ho, by rw [k2.lk, ho]; rfl⟩
  have lc : ∀ f : D → M (Option D), (∀ l ∈ R, f (lotD l) S = .ok (((st' l.n).getD none).map lotD) S) → lcS f (R.map lotD) [] S = .ok (.ow (.lst ((leftOf R st').map lotD))) S := fun f hf => by
    rw [lcS_fm (g := fun l => ((st' l.n).getD none).map lotD) lotD R [] hf (by simp; omega), List.nil_append]
    unfold leftOf
    rw [List.map_filterMap]
  have lc := lc (fun lot_28 => lcStep (dBin (notM opIsN) (dBin opSub2 (rd (.ow (.dct kvs'))) (dUp (dFld "number" [18] (pur (Wv.fz lot_28))))) (pur (Wv.fz D.non))) (dFz (dBin opSub2 (rd (.ow (.dct kvs'))) (dUp (dFld "number" [18] (pur (Wv.fz lot_28))))))) (fun l hl' => by
    obtain ⟨o, e1, e2⟩ := at_ l hl'
    rw [e1]
    cases o with
    | none =>
      have e2 : lkD kvs' (.inl l.n) = some .non := e2
      simp -implicitDefEqProofs [e2]
    | some r =>
      have e2 : lkD kvs' (.inl l.n) = some (lotD r) := e2
      simp -implicitDefEqProofs [e2])
  rw [c_row_without]
  simp -implicitDefEqProofs [g_row_without, h1, k1, lc, -List.map_cons]
theorem rw_no {R : List Lt} (hl : R.length ≤ 1000) (nd : (R.map Lt.n).Nodup) (fit : ∀ l ∈ R, l.Fit) {P : List (Int × Int)} (hP : P.length ≤ 1000) (hq : ∀ q ∈ P, 1 ≤ q.2 ∧ q.2.natAbs < 2 ^ 300) {n : Int} (h : wo (stF R) P = .error n) :
    f_row_without [.lst (R.map lotD), .lst (P.map pk)] S = .ex (5, some ("number", n)) S := by
  obtain ⟨kvs, h1, h2, h3⟩ := rw_l1 (S := S) R hl
  have so : StOk (stF R) := ⟨fun n l e => by
    obtain ⟨l', hl', e1, e2⟩ := stF_some nd e
    cases e2
    exact ⟨fit _ hl', e1⟩⟩
  have k := (rw_l2 (S := S) P kvs [] (stF R) h2 so h3 (by simpa using hP) hq).1 n h
  have k : forD g_row_without_l2 (P.map pk) (.ow (.dct kvs), .ow (.lst [])) S = .ex (5, some ("number", n)) S := k
  rw [c_row_without]
  simp -implicitDefEqProofs [g_row_without, h1, k, -List.map_cons]
end G
set_option Elab.async false
set_option linter.all false
set_option maxRecDepth 100000
set_option exponentiation.threshold 100000
/-! M_tk: picks told by a script; the laws' own way to take them. -/
namespace G
open PySem L2 Mir
variable {S : Store}
theorem x_popAt {xs : List D} {i : Nat} {d : D} (h : xs[i]? = some d) (hi : i < 2 ^ 63) : mPopAt (.lst xs) [.int (i : Nat)] = some (.lst (xs.eraseIdx i), d) := by
  unfold mPopAt
  have h1 : decide ((0 : Int) ≤ (i : Int)) = true := decide_eq_true (by omega)
  have h2 : decide ((i : Int) < 2 ^ 63) = true := decide_eq_true (by omega)
  have h3 : (i : Int).toNat = i := by omega
  dsimp only
  rw [h1, h2, h3, h]
  rfl
/-- picks that a row can give, each lot once -/
structure Pk (R : List Lt) (P : List (Int × Int)) : Prop where
  len : P.length ≤ R.length
  nd : (P.map Prod.fst).Nodup
  all : ∀ q ∈ P, ∃ l ∈ R, l.n = q.1 ∧ 1 ≤ q.2 ∧ q.2 ≤ l.p
theorem map_erase {α β : Type} (f : α → β) : ∀ (xs : List α) (i : Nat), (xs.map f).eraseIdx i = (xs.eraseIdx i).map f
  | [], _ => rfl
  | _ :: _, 0 => rfl
  | x :: r, i + 1 => by
    rw [List.map_cons, List.eraseIdx_cons_succ, List.eraseIdx_cons_succ, List.map_cons, map_erase f r i]
theorem erase_perm {α : Type} : ∀ (xs : List α) (i : Nat) {x : α}, xs[i]? = some x → List.Perm (x :: xs.eraseIdx i) xs
  | [], _, _, h => by simp at h
  | y :: r, 0, x, h => by
    simp at h
    subst h
    exact List.Perm.refl _
  | y :: r, i + 1, x, h => by
    rw [List.getElem?_cons_succ] at h
    rw [List.eraseIdx_cons_succ]
    exact (List.Perm.swap _ _ _).trans ((erase_perm r i h).cons y)
theorem picks_eq (ns : List Int) (start : Nat) {R : List Lt} (hp : ∀ l ∈ R, 1 ≤ l.p ∧ l.p ≤ 1000000000) (nd : (R.map Lt.n).Nodup) (hl : R.length ≤ 1000) : ∃ P : List (Int × Int), f_picks_k23 [.scr ns, .int (start : Nat), .lst (R.map qd)] S = .ok (.ow (.lst (P.map pk))) S ∧ Pk R P ∧ (P.length : Int) = cel ns start % (R.length + 1) := by
  have ca := cell_eq (S := S) ns start
  have om : ∀ x, modOk x ((R.length : Int) + 1) = true := fun x => modOk_p (by omega)
  have k0 := Int.emod_nonneg (cel ns start) (show (R.length : Int) + 1 ≠ 0 by omega)
  have k1 := Int.emod_lt_of_pos (cel ns start) (show (0 : Int) < (R.length : Int) + 1 by omega)
  obtain ⟨k, hk⟩ : ∃ k : Nat, cel ns start % (R.length + 1) = (k : Int) := ⟨(cel ns start % (R.length + 1)).toNat, by omega⟩
  obtain ⟨s, lp, L, P, h1, h2, h3, h4, rfl⟩ := forD_rngI (S := S) (body := g_picks_k23_l1 (.scr ns) (.int (start : Nat))) (fun j s => ∃ (L : List Lt) (P : List (Int × Int)), P.length = j ∧ L.length + j = R.length ∧ List.Perm (P.map Prod.fst ++ L.map Lt.n) (R.map Lt.n) ∧ ((∀ l ∈ L, l ∈ R) ∧ ∀ q ∈ P, ∃ l ∈ R, l.n = q.1 ∧ 1 ≤ q.2 ∧ q.2 ≤ l.p) ∧ s = (Wv.ow (.lst (L.map qd)), Wv.ow (.lst (P.map pk)))) k (by
    rintro j s hj ⟨L, P, h1, h2, h3, ⟨h4, h5⟩, rfl⟩
    have cj : f_cell_k20 [.scr ns, .int ((start : Int) + 1 + (j : Int))] S = .ok (.fz (.int (cel ns (start + 1 + j)))) S := by
      have := cell_eq (S := S) ns (start + 1 + j)
      rwa [show (((start + 1 + j : Nat) : Nat) : Int) = (start : Int) + 1 + (j : Int) by omega] at this
    generalize cel ns (start + 1 + j) = c at cj
    have oL : modOk c (L.length : Int) = true := modOk_p (by omega)
    have i0 := Int.emod_nonneg c (show (L.length : Int) ≠ 0 by omega)
    have i1 := Int.emod_lt_of_pos c (show (0 : Int) < (L.length : Int) by omega)
    obtain ⟨i, hi⟩ : ∃ i : Nat, c % (L.length : Int) = (i : Int) := ⟨(c % (L.length : Int)).toNat, by omega⟩
    have hiL : i < L.length := by omega
    obtain ⟨l, el⟩ : ∃ l, L[i]? = some l := ⟨L[i], List.getElem?_eq_getElem hiL⟩
    have lR : l ∈ R := h4 l (List.mem_of_getElem? el)
    obtain ⟨p1, p2⟩ := hp l lR
    have po := x_popAt (xs := L.map qd) (i := i) (d := qd l) (by rw [List.getElem?_map, el]; rfl) (by omega)
    rw [map_erase] at po
    have d16 : ∀ x, divOk x 16 = true := fun x => divOk_s (by decide) (by decide)
    have d4 : ∀ x, divOk x 4 = true := fun x => divOk_s (by decide) (by decide)
    have m4 : ∀ x, modOk x 4 = true := fun x => modOk_p (by decide)
    have mp : ∀ x, modOk x l.p = true := fun x => modOk_p (by omega)
    have u2 : ∀ x y z t : D, atD [x, y, z, t] 2 = some z := fun x y z t => atD_nat (n := 2) rfl
    have sz : szOk (P.length + 1) = true := szOk_le (by omega)
    have w0 := Int.emod_nonneg (c / 16) (show l.p ≠ 0 by omega)
    have w1 := Int.emod_lt_of_pos (c / 16) (show 0 < l.p by omega)
    have pm := erase_perm L i el
    have I : ∀ q : Int, 1 ≤ q → q ≤ l.p → ∃ (L' : List Lt) (P' : List (Int × Int)), P'.length = j + 1 ∧ L'.length + (j + 1) = R.length ∧ List.Perm (P'.map Prod.fst ++ L'.map Lt.n) (R.map Lt.n) ∧ ((∀ l ∈ L', l ∈ R) ∧ ∀ q ∈ P', ∃ l ∈ R, l.n = q.1 ∧ 1 ≤ q.2 ∧ q.2 ≤ l.p) ∧ ((Wv.ow (.lst ((L.eraseIdx i).map qd)), Wv.ow (.lst (P.map pk ++ [pk (l.n, q)]))) : Wv × Wv) = (Wv.ow (.lst (L'.map qd)), Wv.ow (.lst (P'.map pk))) := fun q q1 q2 => by
      refine ⟨L.eraseIdx i, P ++ [(l.n, q)], by rw [List.length_append, h1]; rfl, by rw [List.length_eraseIdx_of_lt hiL]; omega, ?_, ⟨fun x hx => h4 x ((List.eraseIdx_sublist L i).subset hx), fun x hx => ?_⟩, by rw [List.map_append]; rfl⟩
      · refine List.Perm.trans ?_ h3
        rw [List.map_append, List.append_assoc]
        exact List.Perm.append_left _ (by simpa using pm.map Lt.n)
      · rcases List.mem_append.mp hx with hx | hx
        · exact h5 x hx
        · rw [List.mem_singleton.mp hx]
          exact ⟨l, lR, rfl, q1, q2⟩
    by_cases e : c / 4 % 4 = 1
    · refine ⟨_, ?_, I l.p p1 (Int.le_refl _)⟩
      simp -implicitDefEqProofs [g_picks_k23_l1, cj, oL, hi, po, d16, d4, m4, mp, u2, sz, e]
    · refine ⟨_, ?_, I (1 + c / 16 % l.p) (by omega) (by omega)⟩
      simp -implicitDefEqProofs [g_picks_k23_l1, cj, oL, hi, po, d16, d4, m4, mp, u2, sz, e]) (s := (.ow (.lst (R.map qd)), .ow (.lst []))) ⟨R, [], rfl, by omega, List.Perm.refl _, ⟨fun _ h => h, fun _ h => nomatch h⟩, rfl⟩
  refine ⟨P, ?_, ⟨by omega, ?_, h4.2⟩, by rw [h1, hk]⟩
  · have rg : rng1 [.int (k : Int)] S = .ok (rngD 0 k) S := by
      rw [s_rng1, if_pos (rngOk_s (by omega) (by omega))]
      rfl
    rw [c_picks_k23]
    simp -implicitDefEqProofs [g_picks_k23, ca, om, hk, rg, lp, -s_rng1]
  · exact (List.nodup_append.mp (h3.nodup_iff.mpr nd)).1
/-- such picks can be taken -/
theorem wo_good : ∀ (P : List (Int × Int)) (st : Stt), (P.map Prod.fst).Nodup → (∀ q ∈ P, ∃ l, st q.1 = some (some l) ∧ q.2 ≤ l.p) → ∃ g st', wo st P = .ok (g, st') ∧ ∀ n, n ∉ P.map Prod.fst → st' n = st n
  | [], st, _, _ => ⟨[], st, rfl, fun _ _ => rfl⟩
  | (n, q) :: r, st, nd, h => by
    obtain ⟨l, e, ql⟩ := h (n, q) List.mem_cons_self
    have e : st n = some (some l) := e
    have ql : q ≤ l.p := ql
    rw [List.map_cons, List.nodup_cons] at nd
    obtain ⟨g, st', w, o⟩ := wo_good r (st.put n (if q = l.p then none else some (l.rest q))) nd.2 fun x hx => by
      obtain ⟨l', e', q'⟩ := h x (List.mem_cons_of_mem _ hx)
      refine ⟨l', ?_, q'⟩
      unfold Stt.put
      rw [if_neg fun z => nd.1 (List.mem_map.mpr ⟨x, hx, z⟩)]
      exact e'
    refine ⟨l.got q :: g, st', ?_, fun m hm => ?_⟩
    · unfold wo
      rw [e]
      dsimp only
      rw [if_neg (by omega), w]
    · rw [List.map_cons, List.mem_cons, not_or] at hm
      rw [o m hm.2]
      unfold Stt.put
      rw [if_neg hm.1]
theorem wo_app : ∀ (A B : List (Int × Int)) {st st1 : Stt} {g : List Lt}, wo st A = .ok (g, st1) → ∀ {m : Int}, wo st1 B = .error m → wo st (A ++ B) = .error m
  | [], B, st, st1, g, h, m, hB => by
    cases h
    exact hB
  | (n, q) :: r, B, st, st1, g, h, m, hB => by
    unfold wo at h
    rw [List.cons_append]
    unfold wo
    split at h
    · rename_i l e
      split at h
      · cases h
      · rename_i c
        rw [if_neg c]
        split at h
        · rename_i g2 st2 e2
          cases h
          rw [wo_app r B e2 hB]
        · cases h
    · cases h
/-- what a law's own dict holds -/
abbrev Rt := Int → Option Lt
def Rt.put (r : Rt) (n : Int) (l : Lt) : Rt := fun m => if m = n then some l else r m
def Rt.st (r : Rt) : Stt := fun n => (r n).map fun l => if l.p = 0 then none else some l
structure Dr (kvs : List (Key × D)) (r : Rt) : Prop where
  lk : ∀ n, lkD kvs (.inl n) = (r n).map qd
theorem Dr.put {kvs : List (Key × D)} {r : Rt} (h : Dr kvs r) (n : Int) (l : Lt) : Dr (putD kvs (.inl n) (qd l)) (r.put n l) := ⟨fun m => by
  rw [lkD_put]
  unfold Rt.put
  by_cases e : m = n
  · subst e
    simp
  · have : ¬ (Sum.inl m : Key) = Sum.inl n := fun z => e (Sum.inl.inj z)
    rw [if_neg this, if_neg e]
    exact h.lk m⟩
structure RtOk (r : Rt) : Prop where
  all : ∀ n l, r n = some l → l.n = n ∧ 0 ≤ l.p ∧ (0 < l.p → l.Fit)
theorem RtOk.put {r : Rt} (h : RtOk r) {n : Int} {l : Lt} (hl : l.n = n ∧ 0 ≤ l.p ∧ (0 < l.p → l.Fit)) : RtOk (r.put n l) := ⟨fun m l' e => by
  unfold Rt.put at e
  split at e
  · rename_i q
    cases e
    rw [q]
    exact hl
  · exact h.all m l' e⟩
theorem tk_l1 (R : List Lt) (hp : ∀ l ∈ R, l.Fit) (hl : R.length ≤ 1000) : ∃ kvs r, forD g_taken_k23_l1 (R.map qd) (.ow (.dct [])) S = .ok (.ow (.dct kvs)) S ∧ Dr kvs r ∧ RtOk r ∧ r.st = stF R ∧ kvs.length ≤ 1000 := by
  have go : ∀ (x : List Lt) (kvs : List (Key × D)) (r : Rt) (st : Stt), (∀ l ∈ x, l.Fit) → Dr kvs r → RtOk r → r.st = st → kvs.length + x.length ≤ 1000 → ∃ kvs' r', forD g_taken_k23_l1 (x.map qd) (.ow (.dct kvs)) S = .ok (.ow (.dct kvs')) S ∧ Dr kvs' r' ∧ RtOk r' ∧ r'.st = x.foldl (fun st l => st.put l.n (some l)) st ∧ kvs'.length ≤ 1000 := by
    intro x
    induction x with
    | nil => exact fun kvs r st _ h ok e hz => ⟨kvs, r, rfl, h, ok, e, by simpa using hz⟩
    | cons l x ih =>
      intro kvs r st hp h ok e hz
      rw [List.length_cons] at hz
      have lp := len_put kvs (.inl l.n) (qd l)
      have hlf := hp l List.mem_cons_self
      have hlp := hlf.p0
      obtain ⟨kvs', r', h1, h2, h3, h4, h5⟩ := ih (putD kvs (.inl l.n) (qd l)) (r.put l.n l) (st.put l.n (some l)) (fun y hy => hp y (List.mem_cons_of_mem _ hy)) (h.put l.n l) (ok.put ⟨rfl, by omega, fun _ => hlf⟩) (by
        funext m
        rw [← e]
        unfold Rt.st Rt.put Stt.put
        by_cases z : m = l.n
        · rw [if_pos z, if_pos z, Option.map_some, if_neg (by omega)]
        · rw [if_neg z, if_neg z]) (by omega)
      refine ⟨kvs', r', ?_, h2, h3, h4, h5⟩
      rw [List.map_cons]
      have sz : szOk (kvs.length + 1) = true := szOk_le (by omega)
      refine (forD_cons ?_).trans h1
      simp -implicitDefEqProofs [g_taken_k23_l1, sz]
  obtain ⟨kvs, r, h1, h2, h3, h4, h5⟩ := go R [] (fun _ => none) (fun _ => none) hp ⟨fun n => rfl⟩ ⟨fun _ _ h => nomatch h⟩ rfl (by simpa using hl)
  exact ⟨kvs, r, h1, h2, h3, h4, h5⟩
theorem tk_l2 : ∀ (P : List (Int × Int)) (kvs : List (Key × D)) (acc : List Lt) (r : Rt), Dr kvs r → RtOk r → kvs.length ≤ 1000 → acc.length + P.length ≤ 1000 → (∀ q ∈ P, 1 ≤ q.2 ∧ q.2.natAbs < 2 ^ 300) → ∀ g st', wo r.st P = .ok (g, st') →
    ∃ kvs' r', forD g_taken_k23_l2 (P.map pk) (.ow (.dct kvs), .ow (.lst (acc.map qd))) S = .ok (.ow (.dct kvs'), .ow (.lst ((acc ++ g).map qd))) S ∧ Dr kvs' r' ∧ RtOk r' ∧ r'.st = st' ∧ kvs'.length ≤ 1000
  | [], kvs, acc, r, h, ok, hz, _, _, g, st', e => by
    cases e
    exact ⟨kvs, r, by rw [List.append_nil]; rfl, h, ok, rfl, hz⟩
  | (n, q) :: t, kvs, acc, r, h, ok, hz, hl, hq, g, st', e => by
    obtain ⟨q1, q2⟩ := hq (n, q) List.mem_cons_self
    have q1 : 1 ≤ q := q1
    have q2 : q.natAbs < 2 ^ 300 := q2
    rw [List.length_cons] at hl
    have sz : szOk (acc.length + 1) = true := szOk_le (by omega)
    have sz2 : szOk (kvs.length + 1) = true := szOk_le (by omega)
    unfold wo at e
    split at e
    · rename_i l en
      split at e
      · cases e
      · rename_i c
        split at e
        · rename_i g2 st2 e2
          cases e
          have rn : r n = some l ∧ 0 < l.p := by
            unfold Rt.st at en
            cases er : r n with
            | none =>
              rw [er] at en
              cases en
            | some l' =>
              rw [er, Option.map_some] at en
              have := (ok.all n l' er).2.1
              split at en
              · cases en
              · cases en
                exact ⟨rfl, by omega⟩
          obtain ⟨rn, pp⟩ := rn
          obtain ⟨ln, _, fit⟩ := ok.all n l rn
          have fit := fit pp
          have lk : lkD kvs (.inl n) = some (qd l) := by rw [h.lk, rn]; rfl
          obtain ⟨o1, o2⟩ := cut_ok fit.ok fit.p0 q2
          have cu : l.c * q / l.p = l.cut q := rfl
          obtain ⟨x, ex⟩ : ∃ x : Lt, x = ⟨n, l.s, l.p - q, l.c - l.cut q⟩ := ⟨_, rfl⟩
          have ex1 : x = l.rest q := by rw [ex, ← ln]; rfl
          have stE : (r.put n x).st = r.st.put n (if q = l.p then none else some (l.rest q)) := by
            funext m
            unfold Rt.st Rt.put Stt.put
            by_cases z : m = n
            · rw [if_pos z, if_pos z, Option.map_some, ex1]
              by_cases e : q = l.p
              · rw [if_pos e, if_pos (by show l.p - q = 0; omega)]
              · rw [if_neg e, if_neg (by show ¬ l.p - q = 0; omega)]
            · rw [if_neg z, if_neg z]
          obtain ⟨kvs', r', h1, h2, h3, h4, h5⟩ := tk_l2 t (putD kvs (.inl n) (qd x)) (acc ++ [l.got q]) (r.put n x) (h.put n x) (ok.put ⟨by rw [ex], by rw [ex]; show 0 ≤ l.p - q; omega, fun z => by
            rw [ex1] at z ⊢
            have z : 0 < l.p - q := z
            exact fit.rest q1 (by omega)⟩) (by rw [put_len lk]; exact hz) (by rw [List.length_append, List.length_singleton]; omega) (fun y hy => hq y (List.mem_cons_of_mem _ hy)) g2 st' (by rw [stE]; exact e2)
          refine ⟨kvs', r', ?_, h2, h3, h4, h5⟩
          rw [List.append_assoc] at h1
          rw [List.map_cons]
          refine (forD_cons ?_).trans h1
          have gq : qd (l.got q) = .tup [.int n, .int l.s, .int q, .int (l.cut q)] := by rw [← ln]; rfl
          have xq : qd x = .tup [.int n, .int l.s, .int (l.p - q), .int (l.c - l.cut q)] := by rw [ex]
          rw [List.map_append, List.map_cons, List.map_nil, gq, xq]
          simp -implicitDefEqProofs [g_taken_k23_l2, lk, o1, o2, sz, sz2, cu]
        · cases e
    · cases e
theorem tk_eq {R : List Lt} (hl : R.length ≤ 1000) (nd : (R.map Lt.n).Nodup) (fit : ∀ l ∈ R, l.Fit) {P : List (Int × Int)} (hP : P.length ≤ 1000) (hq : ∀ q ∈ P, 1 ≤ q.2 ∧ q.2.natAbs < 2 ^ 300) {g : List Lt} {st' : Stt} (h : wo (stF R) P = .ok (g, st')) :
    f_taken_k23 [.lst (R.map qd), .lst (P.map pk)] S = .ok (.fz (.tup [.lst (g.map qd), .lst ((leftOf R st').map qd)])) S := by
  obtain ⟨kvs, r, h1, h2, h3, h4, h5⟩ := tk_l1 (S := S) R fit hl
  obtain ⟨kvs', r', k1, k2, k3, k4, k5⟩ := tk_l2 (S := S) P kvs [] r h2 h3 h5 (by simpa using hP) hq g st' (by rw [h4]; exact h)
  rw [List.nil_append, List.map_nil] at k1
  have lc : ∀ f : D → M (Option D), (∀ l ∈ R, f (qd l) S = .ok (((st' l.n).getD none).map qd) S) → lcS f (R.map qd) [] S = .ok (.ow (.lst ((leftOf R st').map qd))) S := fun f hf => by
    rw [lcS_fm (g := fun l => ((st' l.n).getD none).map qd) qd R [] hf (by simp; omega), List.nil_append]
    unfold leftOf
    rw [List.map_filterMap]
  have lc := lc (fun lot_30 => lcStep (dBin opGt (dBin opSub2 (dBin opSub2 (rd (.ow (.dct kvs'))) (opSub2 (Wv.fz lot_30) (Wv.fz (D.int 0)))) (pur (Wv.fz (D.int 2)))) (pur (Wv.fz (D.int 0)))) (dFz (dBin opSub2 (rd (.ow (.dct kvs'))) (opSub2 (Wv.fz lot_30) (Wv.fz (D.int 0)))))) (fun l hl' => by
    have dm := wo_dom P (stF R) h l.n (by rw [stF_in nd hl']; rfl)
    rw [← k4] at dm ⊢
    have u2 : ∀ x y z t : D, atD [x, y, z, t] 2 = some z := fun x y z t => atD_nat (n := 2) rfl
    have lk := k2.lk l.n
    unfold Rt.st at dm ⊢
    cases er : r' l.n with
    | none =>
      rw [er] at dm
      cases dm
    | some x =>
      rw [er] at lk
      have lk : lkD kvs' (.inl l.n) = some (qd x) := lk
      have x0 := (k3.all _ _ er).2.1
      by_cases e : x.p = 0
      · simp -implicitDefEqProofs [lk, u2, e]
      · have : 0 < x.p := by omega
        simp -implicitDefEqProofs [lk, u2, e, this])
  rw [c_taken_k23]
  simp -implicitDefEqProofs [g_taken_k23, h1, k1, lc, -List.map_cons]
end G
set_option Elab.async false
set_option linter.all false
set_option maxRecDepth 100000
set_option maxHeartbeats 4000000
/-! G_k30: mirrors and code, printed by gen2.py -/
namespace G

open PySem L2 Mir
-- Eldest.word
def m_Eldest_word : CS :=
    (cRet (cUp (cC (.str "eldest"))))
def f_Eldest_word : Fn := runF 1 m_Eldest_word
def g_Eldest_word (self_1 : D) : M Wv :=
 (pur (Wv.fz (D.str "eldest")))
theorem t_Eldest_word (self_1 : D) : Tl m_Eldest_word ([some (.fz self_1)] : Mir.Env) (g_Eldest_word self_1) :=
 (tl_ret rfl)
theorem c_Eldest_word (self_1 : D) (S : Store) : f_Eldest_word [self_1] S = g_Eldest_word self_1 S := fn_code rfl (t_Eldest_word self_1) S
-- Newest.word
def m_Newest_word : CS :=
    (cRet (cUp (cC (.str "newest"))))
def f_Newest_word : Fn := runF 1 m_Newest_word
def g_Newest_word (self_1 : D) : M Wv :=
 (pur (Wv.fz (D.str "newest")))
theorem t_Newest_word (self_1 : D) : Tl m_Newest_word ([some (.fz self_1)] : Mir.Env) (g_Newest_word self_1) :=
 (tl_ret rfl)
theorem c_Newest_word (self_1 : D) (S : Store) : f_Newest_word [self_1] S = g_Newest_word self_1 S := fn_code rfl (t_Newest_word self_1) S
-- Dearest.word
def m_Dearest_word : CS :=
    (cRet (cUp (cC (.str "dearest"))))
def f_Dearest_word : Fn := runF 1 m_Dearest_word
def g_Dearest_word (self_1 : D) : M Wv :=
 (pur (Wv.fz (D.str "dearest")))
theorem t_Dearest_word (self_1 : D) : Tl m_Dearest_word ([some (.fz self_1)] : Mir.Env) (g_Dearest_word self_1) :=
 (tl_ret rfl)
theorem c_Dearest_word (self_1 : D) (S : Store) : f_Dearest_word [self_1] S = g_Dearest_word self_1 S := fn_code rfl (t_Dearest_word self_1) S
-- Mean.word
def m_Mean_word : CS :=
    (cRet (cUp (cC (.str "mean"))))
def f_Mean_word : Fn := runF 1 m_Mean_word
def g_Mean_word (self_1 : D) : M Wv :=
 (pur (Wv.fz (D.str "mean")))
theorem t_Mean_word (self_1 : D) : Tl m_Mean_word ([some (.fz self_1)] : Mir.Env) (g_Mean_word self_1) :=
 (tl_ret rfl)
theorem c_Mean_word (self_1 : D) (S : Store) : f_Mean_word [self_1] S = g_Mean_word self_1 S := fn_code rfl (t_Mean_word self_1) S
-- way_by
def m_way_by : CS :=
    (cSeq (cKill [0, 1] (cFor (cItems (cTup (cCons (cFz (cMk0 20)) (cCons (cFz (cMk0 21)) (cCons (cFz (cMk0 22)) (cCons (cFz (cMk0 23)) cNil)))))) (.nm 1) (cKill [1] (cIfS (cBin opEq (cMeth "word" (tabF [(20, f_Eldest_word), (21, f_Newest_word), (22, f_Dearest_word), (23, f_Mean_word)]) (cVar 1) cNil) (cBor 0))
        (cRetV 1)
        cSkip))))
    (cRaise 6))
def f_way_by : Fn := runF 2 m_way_by
def g_way_by_l1 (word_1 : D) : D → Unit → M (Out (Unit)) := fun (way_4 : D) (s_3 : Unit) => (bnO (ift (dBin opEq (dMeth "word" (tabF [(20, f_Eldest_word), (21, f_Newest_word), (22, f_Dearest_word), (23, f_Mean_word)]) (pur way_4) (pur [])) (pur (Wv.fz word_1)))
 (bnd (rd (Wv.fz way_4)) fun w => pur (.rt w))
 (pur (.nx ()))) fun s_5 => pur (.nx ()))
def g_way_by (word_1 : D) : M Wv :=
 (bnT (bnd (dItems (dTup (dCons (dFz (dMk0 20)) (dCons (dFz (dMk0 21)) (dCons (dFz (dMk0 22)) (dCons (dFz (dMk0 23)) (pur []))))))) fun items => forO (g_way_by_l1 word_1) items ()) fun s_6 =>
 (dRaise 6))
theorem t_way_by (word_1 : D) : Tl m_way_by ([some (.fz word_1), none] : Mir.Env) (g_way_by word_1) :=
 (tl_seq (E1 := (fun (s_6 : (Unit)) => ([none, none] : Mir.Env))) (bo_kill (E1 := (fun (s_6 : Unit) => ([some (.fz word_1), none] : Mir.Env))) (E3 := (fun (s_6 : (Unit)) => ([none, none] : Mir.Env))) (bo_for (Es := (fun (s_3 : Unit) => ([some (.fz word_1), none] : Mir.Env))) () rfl rfl (so_nm (E3 := fun way_4 (s_3 : (Unit)) => ([some (.fz word_1), some (.fz way_4)] : Mir.Env)) (fun _ => (Nat.le_of_ble_eq_true rfl)) (fun _ _ => rfl) (fun way_4 s_3 => (bo_last (E1 := (fun (s_5 : Unit) => ([some (.fz word_1), none] : Mir.Env))) (bo_kif (bo_if rfl (bo_kx xt_retV (bo_retV (w := (Wv.fz way_4)) rfl)) (bo_kskip rfl))) (fun _ => rfl))))) (fun _ => rfl)) (fun s_6 => tl_raise))
theorem c_way_by (word_1 : D) (S : Store) : f_way_by [word_1] S = g_way_by word_1 S := fn_code rfl (t_way_by word_1) S
end G
set_option Elab.async false
set_option linter.all false
set_option maxRecDepth 100000
set_option maxHeartbeats 4000000
/-! G_k31: mirrors and code, printed by gen2.py -/
namespace G

open PySem L2 Mir
-- Way.turned
def m_Way_turned : CS :=
    (cRet (cBlt bList (bCons (cBor 1) bNil)))
def f_Way_turned : Fn := runF 2 m_Way_turned
def g_Way_turned (self_1 : D) (lots_2 : D) : M Wv :=
 (bList [(Wv.fz lots_2)])
theorem t_Way_turned (self_1 : D) (lots_2 : D) : Tl m_Way_turned ([some (.fz self_1), some (.fz lots_2)] : Mir.Env) (g_Way_turned self_1 lots_2) :=
 (tl_ret rfl)
theorem c_Way_turned (self_1 : D) (lots_2 : D) (S : Store) : f_Way_turned [self_1, lots_2] S = g_Way_turned self_1 lots_2 S := fn_code rfl (t_Way_turned self_1 lots_2) S
-- Newest.turned
def m_Newest_turned : CS :=
    (cRet (cUn opRev (cBor 1)))
def f_Newest_turned : Fn := runF 2 m_Newest_turned
def g_Newest_turned (self_1 : D) (lots_2 : D) : M Wv :=
 (opRev (Wv.fz lots_2))
theorem t_Newest_turned (self_1 : D) (lots_2 : D) : Tl m_Newest_turned ([some (.fz self_1), some (.fz lots_2)] : Mir.Env) (g_Newest_turned self_1 lots_2) :=
 (tl_ret rfl)
theorem c_Newest_turned (self_1 : D) (lots_2 : D) (S : Store) : f_Newest_turned [self_1, lots_2] S = g_Newest_turned self_1 lots_2 S := fn_code rfl (t_Newest_turned self_1 lots_2) S
-- Dearest.turned
def m_Dearest_turned : CS :=
    (cSeq (cKill [0] (cSet 2 (cLst cNil)))
    (cSeq (cKill [1, 3, 4] (cFor (cItems (cVar 1)) (.nm 3) (cSeq (cSet 4 (cUp (cC (.int 0))))
      (cSeq (cWhile (fun _ => 100000) (cAnd (cBin opLt (cBor 4) (cBlt bLen (bCons (cBor 2) bNil))) (cNot (cTst (cMeth "is_dearer" (tabF [(18, f_Lot_is_dearer)]) (cVar 3) (cCons (cFz (cBin opSub2 (cBor 2) (cBor 4))) cNil))))) (cAug 4 (int2 (fun _ _ => true) fun i j => .int (i + j)) (cUp (cC (.int 1)))))
      (cKill [3, 4] (cMut 2 "list" mInsert (cCons (cVar 4) (cCons (cVar 3) cNil))))))))
    (cRetV 2)))
def f_Dearest_turned : Fn := runF 5 m_Dearest_turned
def g_Dearest_turned_l1 : Wv → M (Wv) := fun (s_11 : Wv) => (bnd (dAug (int2 (fun _ _ => true) fun i j => .int (i + j)) s_11 (pur (Wv.fz (D.int 1)))) fun at_12 => pur at_12)
def g_Dearest_turned_l2 : D → Wv → M (Wv) := fun (lot_8 : D) (s_7 : Wv) => (bnd (pur (Wv.fz (D.int 0))) fun at_9 =>
 (bnd (whD (fun (s_11 : Wv) => (dAnd (dBin opLt (rd s_11) (bnd (dConsB (rd s_7) (pur [])) bLen)) (dNot (dTst (dMeth "is_dearer" (tabF [(18, f_Lot_is_dearer)]) (pur lot_8) (dCons (dFz (dBin opSub2 (rd s_7) (rd s_11))) (pur []))))))) g_Dearest_turned_l1 100000 at_9) fun s_13 =>
 (bnd (dMut "list" mInsert s_7 (dCons (rdD s_13) (pur [lot_8]))) fun row_14 => pur row_14)))
def g_Dearest_turned (self_1 : D) (lots_2 : D) : M Wv :=
 (bnd (dLst (pur [])) fun row_3 =>
 (bnd (bnd (dItems (pur lots_2)) fun items => forD g_Dearest_turned_l2 items row_3) fun s_15 =>
 (rd s_15)))
theorem t_Dearest_turned (self_1 : D) (lots_2 : D) : Tl m_Dearest_turned ([some (.fz self_1), some (.fz lots_2), none, none, none] : Mir.Env) (g_Dearest_turned self_1 lots_2) :=
 (tl_seq1 (E1 := (fun (row_3 : Wv) => ([none, some (.fz lots_2), some row_3, none, none] : Mir.Env))) (bl_kill (E1 := (fun row_3 => ([some (.fz self_1), some (.fz lots_2), some row_3, none, none] : Mir.Env))) (E3 := (fun (row_3 : Wv) => ([none, some (.fz lots_2), some row_3, none, none] : Mir.Env))) (bl_set (E1 := (fun row_3 => ([some (.fz self_1), some (.fz lots_2), some row_3, none, none] : Mir.Env))) (Nat.le_of_ble_eq_true rfl) rfl (fun _ => rfl)) (fun _ => rfl)) (fun row_3 => (tl_seq1 (E1 := (fun (s_15 : (Wv)) => ([none, none, some s_15, none, none] : Mir.Env))) (bl_kill (E1 := (fun (s_15 : Wv) => ([none, some (.fz lots_2), some s_15, none, none] : Mir.Env))) (E3 := (fun (s_15 : (Wv)) => ([none, none, some s_15, none, none] : Mir.Env))) (bl_for (Es := (fun (s_7 : Wv) => ([none, some (.fz lots_2), some s_7, none, none] : Mir.Env))) row_3 rfl rfl (sb_nm (E3 := fun lot_8 (s_7 : (Wv)) => ([none, some (.fz lots_2), some s_7, some (.fz lot_8), none] : Mir.Env)) (fun _ => (Nat.le_of_ble_eq_true rfl)) (fun _ _ => rfl) (fun lot_8 s_7 => (bl_seq (E1 := (fun at_9 => ([none, some (.fz lots_2), some s_7, some (.fz lot_8), some at_9] : Mir.Env))) (bl_set (E1 := (fun at_9 => ([none, some (.fz lots_2), some s_7, some (.fz lot_8), some at_9] : Mir.Env))) (Nat.le_of_ble_eq_true rfl) rfl (fun _ => rfl)) (fun at_9 => (bl_seq (E1 := (fun (s_13 : Wv) => ([none, some (.fz lots_2), some s_7, some (.fz lot_8), some s_13] : Mir.Env))) (bl_while (Es := (fun (s_11 : Wv) => ([none, some (.fz lots_2), some s_7, some (.fz lot_8), some s_11] : Mir.Env))) at_9 rfl (fun s_11 => rfl) (fun s_11 => (bl_last (E1 := (fun at_12 => ([none, some (.fz lots_2), some s_7, some (.fz lot_8), some at_12] : Mir.Env))) (bl_aug (w := s_11) (E1 := (fun at_12 => ([none, some (.fz lots_2), some s_7, some (.fz lot_8), some at_12] : Mir.Env))) rfl rfl (fun _ => rfl)) (fun _ => rfl)))) (fun s_13 => (bl_last (E1 := (fun (row_14 : Wv) => ([none, some (.fz lots_2), some row_14, none, none] : Mir.Env))) (bl_kill (E1 := (fun row_14 => ([none, some (.fz lots_2), some row_14, some (.fz lot_8), some s_13] : Mir.Env))) (E3 := (fun (row_14 : Wv) => ([none, some (.fz lots_2), some row_14, none, none] : Mir.Env))) (bl_mut (w := s_7) (E1 := (fun row_14 => ([none, some (.fz lots_2), some row_14, some (.fz lot_8), some s_13] : Mir.Env))) rfl rfl (fun _ => rfl)) (fun _ => rfl)) (fun _ => rfl))))))))) (fun _ => rfl)) (fun s_15 => (tl_retV (w := s_15) rfl)))))
theorem c_Dearest_turned (self_1 : D) (lots_2 : D) (S : Store) : f_Dearest_turned [self_1, lots_2] S = g_Dearest_turned self_1 lots_2 S := fn_code rfl (t_Dearest_turned self_1 lots_2) S
-- Way.picks
def m_Way_picks : CS :=
    (cSeq (cSet 3 (cLst cNil))
    (cSeq (cKill [0, 1, 2, 4, 5] (cFor (cItems (cFz (cMeth "turned" (tabF [(19, f_Way_turned), (20, f_Way_turned), (21, f_Newest_turned), (22, f_Dearest_turned), (23, f_Way_turned)]) (cVar 0) (cCons (cVar 1) cNil)))) (.nm 4) (cKill [4, 5] (cIfS (cBin opGt (cBor 2) (cUp (cC (.int 0))))
        (cSeq (cSet 5 (cBlt (bInt2 minI) (bCons (cBor 2) (bCons (cUp (cFld "pieces" [18] (cBor 4))) bNil))))
        (cSeq (cKill [4] (cMut 3 "list" mAppend (cCons (cTup (cCons (cFld "number" [18] (cBor 4)) (cCons (cVar 5) cNil))) cNil)))
        (cKill [5] (cAug 2 (int2 (fun _ _ => true) fun i j => .int (i - j)) (cBor 5)))))
        cSkip))))
    (cRetV 3)))
def f_Way_picks : Fn := runF 6 m_Way_picks
def g_Way_picks_l1 : D → (Wv × Wv) → M (Wv × Wv) := fun (lot_10 : D) (s_9 : Wv × Wv) => (bnd (ift (dBin opGt (rd s_9.1) (pur (Wv.fz (D.int 0))))
 (bnd (bnd (dConsB (rd s_9.1) (dConsB (dUp (dFld "pieces" [18] (pur (Wv.fz lot_10)))) (pur []))) (bInt2 minI)) fun some_14 =>
 (bnd (dMut "list" mAppend s_9.2 (dCons (dTup (dCons (dFld "number" [18] (pur (Wv.fz lot_10))) (dCons (rdD some_14) (pur [])))) (pur []))) fun found_15 =>
 (bnd (dAug (int2 (fun _ _ => true) fun i j => .int (i - j)) s_9.1 (rd some_14)) fun pieces_16 => pur (pieces_16, found_15))))
 (pur (s_9.1, s_9.2))) fun s_13 => pur (s_13.1, s_13.2))
def g_Way_picks (self_1 : D) (lots_2 : D) (pieces_3 : D) : M Wv :=
 (bnd (dLst (pur [])) fun found_4 =>
 (bnd (bnd (dItems (dFz (dMeth "turned" (tabF [(19, f_Way_turned), (20, f_Way_turned), (21, f_Newest_turned), (22, f_Dearest_turned), (23, f_Way_turned)]) (pur self_1) (pur [lots_2])))) fun items => forD g_Way_picks_l1 items ((Wv.fz pieces_3), found_4)) fun s_17 =>
 (rd s_17.2)))
theorem t_Way_picks (self_1 : D) (lots_2 : D) (pieces_3 : D) : Tl m_Way_picks ([some (.fz self_1), some (.fz lots_2), some (.fz pieces_3), none, none, none] : Mir.Env) (g_Way_picks self_1 lots_2 pieces_3) :=
 (tl_seq1 (E1 := (fun found_4 => ([some (.fz self_1), some (.fz lots_2), some (.fz pieces_3), some found_4, none, none] : Mir.Env))) (bl_set (E1 := (fun found_4 => ([some (.fz self_1), some (.fz lots_2), some (.fz pieces_3), some found_4, none, none] : Mir.Env))) (Nat.le_of_ble_eq_true rfl) rfl (fun _ => rfl)) (fun found_4 => (tl_seq1 (E1 := (fun (s_17 : (Wv × Wv)) => ([none, none, none, some s_17.2, none, none] : Mir.Env))) (bl_kill (E1 := (fun (s_17 : Wv × Wv) => ([some (.fz self_1), some (.fz lots_2), some s_17.1, some s_17.2, none, none] : Mir.Env))) (E3 := (fun (s_17 : (Wv × Wv)) => ([none, none, none, some s_17.2, none, none] : Mir.Env))) (bl_for (Es := (fun (s_9 : Wv × Wv) => ([some (.fz self_1), some (.fz lots_2), some s_9.1, some s_9.2, none, none] : Mir.Env))) ((Wv.fz pieces_3), found_4) rfl rfl (sb_nm (E3 := fun lot_10 (s_9 : (Wv × Wv)) => ([some (.fz self_1), some (.fz lots_2), some s_9.1, some s_9.2, some (.fz lot_10), none] : Mir.Env)) (fun _ => (Nat.le_of_ble_eq_true rfl)) (fun _ _ => rfl) (fun lot_10 s_9 => (bl_last (E1 := (fun (s_13 : Wv × Wv) => ([some (.fz self_1), some (.fz lots_2), some s_13.1, some s_13.2, none, none] : Mir.Env))) (bl_kif (bl_if rfl (bl_kseq (bl_seq (E1 := (fun some_14 => ([some (.fz self_1), some (.fz lots_2), some s_9.1, some s_9.2, some (.fz lot_10), some some_14] : Mir.Env))) (bl_set (E1 := (fun some_14 => ([some (.fz self_1), some (.fz lots_2), some s_9.1, some s_9.2, some (.fz lot_10), some some_14] : Mir.Env))) (Nat.le_of_ble_eq_true rfl) rfl (fun _ => rfl)) (fun some_14 => (bl_kseq (bl_seq (E1 := (fun (found_15 : Wv) => ([some (.fz self_1), some (.fz lots_2), some s_9.1, some found_15, none, some some_14] : Mir.Env))) (bl_kill (E1 := (fun found_15 => ([some (.fz self_1), some (.fz lots_2), some s_9.1, some found_15, some (.fz lot_10), some some_14] : Mir.Env))) (E3 := (fun (found_15 : Wv) => ([some (.fz self_1), some (.fz lots_2), some s_9.1, some found_15, none, some some_14] : Mir.Env))) (bl_mut (w := s_9.2) (E1 := (fun found_15 => ([some (.fz self_1), some (.fz lots_2), some s_9.1, some found_15, some (.fz lot_10), some some_14] : Mir.Env))) rfl rfl (fun _ => rfl)) (fun _ => rfl)) (fun found_15 => (bl_last (E1 := fun pieces_16 => ([some (.fz self_1), some (.fz lots_2), some pieces_16, some found_15, none, none] : Mir.Env)) (bl_kill (E1 := (fun (pieces_16 : Wv) => ([some (.fz self_1), some (.fz lots_2), some pieces_16, some found_15, none, none] : Mir.Env))) (E3 := fun pieces_16 => ([some (.fz self_1), some (.fz lots_2), some pieces_16, some found_15, none, none] : Mir.Env)) (bl_kill (E1 := (fun pieces_16 => ([some (.fz self_1), some (.fz lots_2), some pieces_16, some found_15, none, some some_14] : Mir.Env))) (E3 := (fun (pieces_16 : Wv) => ([some (.fz self_1), some (.fz lots_2), some pieces_16, some found_15, none, none] : Mir.Env))) (bl_aug (w := s_9.1) (E1 := (fun pieces_16 => ([some (.fz self_1), some (.fz lots_2), some pieces_16, some found_15, none, some some_14] : Mir.Env))) rfl rfl (fun _ => rfl)) (fun _ => rfl)) (fun _ => rfl)) (fun _ => rfl)))))))) (bl_kskip rfl))) (fun _ => rfl))))) (fun _ => rfl)) (fun s_17 => (tl_retV (w := s_17.2) rfl)))))
theorem c_Way_picks (self_1 : D) (lots_2 : D) (pieces_3 : D) (S : Store) : f_Way_picks [self_1, lots_2, pieces_3] S = g_Way_picks self_1 lots_2 pieces_3 S := fn_code rfl (t_Way_picks self_1 lots_2 pieces_3) S
end G
set_option Elab.async false
set_option linter.all false
set_option maxRecDepth 100000
set_option maxHeartbeats 4000000
/-! G_k32: mirrors and code, printed by gen2.py -/
namespace G

open PySem L2 Mir
-- Mean.levelled
def m_Mean_levelled : CS :=
    (cSeq (cKill [0] (cIfS (cBin opEq (cBlt bLen (bCons (cBor 1) bNil)) (cUp (cC (.int 0))))
      (cRet (cLst cNil))
      cSkip))
    (cSeq (cSet 2 (cCall f_dealt (cCons (cFz (cCall f_cost_in (cCons (cVar 1) cNil))) (cCons (cFz (cLc [3] (.nm 3) cYes (cFld "pieces" [18] (cBor 3)) (cItems (cVar 1)))) cNil))))
    (cFrz 2 (cRet (cLc [3, 4] (.tp [3, 4]) cYes (cFz (cMk 18 f_Lot_init (cCons (cFld "number" [18] (cBor 3)) (cCons (cFld "since" [18] (cBor 3)) (cCons (cFld "pieces" [18] (cBor 3)) (cCons (cVar 4) cNil)))))) (cZip (cCons (cVar 1) (cCons (cVar 2) cNil))))))))
def f_Mean_levelled : Fn := runF 5 m_Mean_levelled
def g_Mean_levelled (self_1 : D) (lots_2 : D) : M Wv :=
 (ift (dBin opEq (bLen [(Wv.fz lots_2)]) (pur (Wv.fz (D.int 0))))
 (dLst (pur []))
 (bnd (dCall f_dealt (dCons (dFz (f_cost_in [lots_2])) (dCons (dFz (bnd (dItems (pur lots_2)) fun items => lcS (fun lot_4 => lcStep (pur true) (dFld "pieces" [18] (pur (Wv.fz lot_4)))) items [])) (pur [])))) fun costs_3 =>
 (bnd (bnd (dCons (pur lots_2) (dCons (rdD costs_3.fzn) (pur []))) zipO) fun items => lcS (fun d => un2 (.fz d) fun lot_6 cost_7 => lcStep (pur true) (dFz (dMk 18 f_Lot_init (dCons (dFld "number" [18] (pur (Wv.fz lot_6))) (dCons (dFld "since" [18] (pur (Wv.fz lot_6))) (dCons (dFld "pieces" [18] (pur (Wv.fz lot_6))) (pur [cost_7]))))))) items [])))
theorem t_Mean_levelled (self_1 : D) (lots_2 : D) : Tl m_Mean_levelled ([some (.fz self_1), some (.fz lots_2), none, none, none] : Mir.Env) (g_Mean_levelled self_1 lots_2) :=
 (tl_ifx (E0 := ([none, some (.fz lots_2), none, none, none] : Mir.Env)) xt_ret rfl rfl (tl_ret rfl) (tl_seq1 (E1 := (fun costs_3 => ([none, some (.fz lots_2), some costs_3, none, none] : Mir.Env))) (bl_set (E1 := (fun costs_3 => ([none, some (.fz lots_2), some costs_3, none, none] : Mir.Env))) (Nat.le_of_ble_eq_true rfl) (congrArg (fun h_5 => (dCall f_dealt (dCons (dFz (f_cost_in [lots_2])) (dCons (dFz h_5) (pur []))))) (show ((cLc [3] (.nm 3) cYes (cFld "pieces" [18] (cBor 3)) (cItems (cVar 1))) : CE) ([none, some (.fz lots_2), none, none, none] : Mir.Env) = (bnd (dItems (pur lots_2)) fun items => lcS (fun lot_4 => lcStep (pur true) (dFld "pieces" [18] (pur (Wv.fz lot_4)))) items []) from (lc_nm (E3 := fun lot_4 => ([none, some (.fz lots_2), none, some (.fz lot_4), none] : Mir.Env)) (Nat.le_of_ble_eq_true rfl) (fun _ => rfl) rfl (fun lot_4 => rfl) (fun lot_4 => rfl)))) (fun _ => rfl)) (fun costs_3 => (tl_frz (E0 := ([none, some (.fz lots_2), some costs_3.fzn, none, none] : Mir.Env)) costs_3 rfl rfl (tl_ret (congrArg (fun h_8 => h_8) (show ((cLc [3, 4] (.tp [3, 4]) cYes (cFz (cMk 18 f_Lot_init (cCons (cFld "number" [18] (cBor 3)) (cCons (cFld "since" [18] (cBor 3)) (cCons (cFld "pieces" [18] (cBor 3)) (cCons (cVar 4) cNil)))))) (cZip (cCons (cVar 1) (cCons (cVar 2) cNil)))) : CE) ([none, some (.fz lots_2), some costs_3.fzn, none, none] : Mir.Env) = (bnd (bnd (dCons (pur lots_2) (dCons (rdD costs_3.fzn) (pur []))) zipO) fun items => lcS (fun d => un2 (.fz d) fun lot_6 cost_7 => lcStep (pur true) (dFz (dMk 18 f_Lot_init (dCons (dFld "number" [18] (pur (Wv.fz lot_6))) (dCons (dFld "since" [18] (pur (Wv.fz lot_6))) (dCons (dFld "pieces" [18] (pur (Wv.fz lot_6))) (pur [cost_7]))))))) items []) from (lc_tp2 (E3 := fun lot_6 cost_7 => ([none, some (.fz lots_2), some costs_3.fzn, some (.fz lot_6), some (.fz cost_7)] : Mir.Env)) (Nat.le_of_ble_eq_true rfl) (Nat.le_of_ble_eq_true rfl) (fun _ _ => rfl) rfl (fun lot_6 cost_7 => rfl) (fun lot_6 cost_7 => rfl)))))))))
theorem c_Mean_levelled (self_1 : D) (lots_2 : D) (S : Store) : f_Mean_levelled [self_1, lots_2] S = g_Mean_levelled self_1 lots_2 S := fn_code rfl (t_Mean_levelled self_1 lots_2) S
-- _law_even
def m_even_k32 : CS :=
    (cSeq (cSet 1 (cBlt bSum (bCons (cLc [6] (.nm 6) cYes (cFz (cBin opSub2 (cBor 6) (cUp (cC (.int 3))))) (cItems (cVar 0))) bNil)))
    (cSeq (cSet 2 (cBlt bSum (bCons (cLc [6] (.nm 6) cYes (cFz (cBin opSub2 (cBor 6) (cUp (cC (.int 2))))) (cItems (cVar 0))) bNil)))
    (cSeq (cSet 3 (cLst cNil))
    (cSeq (cSet 4 (cUp (cC (.int 0))))
    (cSeq (cSet 5 (cUp (cC (.int 0))))
    (cSeq (cKill [0, 1, 2, 4, 5, 6] (cFor (cItems (cVar 0)) (.nm 6) (cSeq (cSet 4 (cBin opAdd (cBor 4) (cBin opSub2 (cBor 6) (cUp (cC (.int 2))))))
      (cSeq (cKill [5, 6] (cMut 3 "list" mAppend (cCons (cTup (cCons (cFz (cBin opSub2 (cBor 6) (cUp (cC (.int 0))))) (cCons (cFz (cBin opSub2 (cBor 6) (cUp (cC (.int 1))))) (cCons (cFz (cBin opSub2 (cBor 6) (cUp (cC (.int 2))))) (cCons (cFz (cBin opSub (cBin opDiv (cBin opMul (cBor 1) (cBor 4)) (cBor 2)) (cBor 5))) cNil))))) cNil)))
      (cSet 5 (cBin opDiv (cBin opMul (cBor 1) (cBor 4)) (cBor 2)))))))
    (cRetV 3)))))))
def f_even_k32 : Fn := runF 7 m_even_k32
def g_even_k32_l1 (cost_2 : Wv) (pieces_5 : Wv) : D → (Wv × Wv × Wv) → M (Wv × Wv × Wv) := fun (lot_17 : D) (s_16 : Wv × Wv × Wv) => (bnd (dBin opAdd (rd s_16.2.1) (opSub2 (Wv.fz lot_17) (Wv.fz (D.int 2)))) fun had_18 =>
 (bnd (dMut "list" mAppend s_16.1 (dCons (dTup (dCons (dFz (opSub2 (Wv.fz lot_17) (Wv.fz (D.int 0)))) (dCons (dFz (opSub2 (Wv.fz lot_17) (Wv.fz (D.int 1)))) (dCons (dFz (opSub2 (Wv.fz lot_17) (Wv.fz (D.int 2)))) (dCons (dFz (dBin opSub (dBin opDiv (dBin opMul (rd cost_2) (rd had_18)) (rd pieces_5)) (rd s_16.2.2))) (pur [])))))) (pur []))) fun made_19 =>
 (bnd (dBin opDiv (dBin opMul (rd cost_2) (rd had_18)) (rd pieces_5)) fun ahead_20 => pur (made_19, had_18, ahead_20))))
def g_even_k32 (row_here_1 : D) : M Wv :=
 (bnd (bnd (dConsB (bnd (dItems (pur row_here_1)) fun items => lcS (fun lot_3 => lcStep (pur true) (dFz (opSub2 (Wv.fz lot_3) (Wv.fz (D.int 3))))) items []) (pur [])) bSum) fun cost_2 =>
 (bnd (bnd (dConsB (bnd (dItems (pur row_here_1)) fun items => lcS (fun lot_6 => lcStep (pur true) (dFz (opSub2 (Wv.fz lot_6) (Wv.fz (D.int 2))))) items []) (pur [])) bSum) fun pieces_5 =>
 (bnd (dLst (pur [])) fun made_8 =>
 (bnd (pur (Wv.fz (D.int 0))) fun had_9 =>
 (bnd (pur (Wv.fz (D.int 0))) fun ahead_10 =>
 (bnd (bnd (dItems (pur row_here_1)) fun items => forD (g_even_k32_l1 cost_2 pieces_5) items (made_8, had_9, ahead_10)) fun s_21 =>
 (rd s_21.1)))))))
theorem t_even_k32 (row_here_1 : D) : Tl m_even_k32 ([some (.fz row_here_1), none, none, none, none, none, none] : Mir.Env) (g_even_k32 row_here_1) :=
 (tl_seq1 (E1 := (fun cost_2 => ([some (.fz row_here_1), some cost_2, none, none, none, none, none] : Mir.Env))) (bl_set (E1 := (fun cost_2 => ([some (.fz row_here_1), some cost_2, none, none, none, none, none] : Mir.Env))) (Nat.le_of_ble_eq_true rfl) (congrArg (fun h_4 => (bnd (dConsB h_4 (pur [])) bSum)) (show ((cLc [6] (.nm 6) cYes (cFz (cBin opSub2 (cBor 6) (cUp (cC (.int 3))))) (cItems (cVar 0))) : CE) ([some (.fz row_here_1), none, none, none, none, none, none] : Mir.Env) = (bnd (dItems (pur row_here_1)) fun items => lcS (fun lot_3 => lcStep (pur true) (dFz (opSub2 (Wv.fz lot_3) (Wv.fz (D.int 3))))) items []) from (lc_nm (E3 := fun lot_3 => ([some (.fz row_here_1), none, none, none, none, none, some (.fz lot_3)] : Mir.Env)) (Nat.le_of_ble_eq_true rfl) (fun _ => rfl) rfl (fun lot_3 => rfl) (fun lot_3 => rfl)))) (fun _ => rfl)) (fun cost_2 => (tl_seq1 (E1 := (fun pieces_5 => ([some (.fz row_here_1), some cost_2, some pieces_5, none, none, none, none] : Mir.Env))) (bl_set (E1 := (fun pieces_5 => ([some (.fz row_here_1), some cost_2, some pieces_5, none, none, none, none] : Mir.Env))) (Nat.le_of_ble_eq_true rfl) (congrArg (fun h_7 => (bnd (dConsB h_7 (pur [])) bSum)) (show ((cLc [6] (.nm 6) cYes (cFz (cBin opSub2 (cBor 6) (cUp (cC (.int 2))))) (cItems (cVar 0))) : CE) ([some (.fz row_here_1), some cost_2, none, none, none, none, none] : Mir.Env) = (bnd (dItems (pur row_here_1)) fun items => lcS (fun lot_6 => lcStep (pur true) (dFz (opSub2 (Wv.fz lot_6) (Wv.fz (D.int 2))))) items []) from (lc_nm (E3 := fun lot_6 => ([some (.fz row_here_1), some cost_2, none, none, none, none, some (.fz lot_6)] : Mir.Env)) (Nat.le_of_ble_eq_true rfl) (fun _ => rfl) rfl (fun lot_6 => rfl) (fun lot_6 => rfl)))) (fun _ => rfl)) (fun pieces_5 => (tl_seq1 (E1 := (fun made_8 => ([some (.fz row_here_1), some cost_2, some pieces_5, some made_8, none, none, none] : Mir.Env))) (bl_set (E1 := (fun made_8 => ([some (.fz row_here_1), some cost_2, some pieces_5, some made_8, none, none, none] : Mir.Env))) (Nat.le_of_ble_eq_true rfl) rfl (fun _ => rfl)) (fun made_8 => (tl_seq1 (E1 := (fun had_9 => ([some (.fz row_here_1), some cost_2, some pieces_5, some made_8, some had_9, none, none] : Mir.Env))) (bl_set (E1 := (fun had_9 => ([some (.fz row_here_1), some cost_2, some pieces_5, some made_8, some had_9, none, none] : Mir.Env))) (Nat.le_of_ble_eq_true rfl) rfl (fun _ => rfl)) (fun had_9 => (tl_seq1 (E1 := (fun ahead_10 => ([some (.fz row_here_1), some cost_2, some pieces_5, some made_8, some had_9, some ahead_10, none] : Mir.Env))) (bl_set (E1 := (fun ahead_10 => ([some (.fz row_here_1), some cost_2, some pieces_5, some made_8, some had_9, some ahead_10, none] : Mir.Env))) (Nat.le_of_ble_eq_true rfl) rfl (fun _ => rfl)) (fun ahead_10 => (tl_seq1 (E1 := (fun (s_21 : (Wv × Wv × Wv)) => ([none, none, none, some s_21.1, none, none, none] : Mir.Env))) (bl_kill (E1 := (fun (s_21 : Wv × Wv × Wv) => ([some (.fz row_here_1), some cost_2, some pieces_5, some s_21.1, some s_21.2.1, some s_21.2.2, none] : Mir.Env))) (E3 := (fun (s_21 : (Wv × Wv × Wv)) => ([none, none, none, some s_21.1, none, none, none] : Mir.Env))) (bl_for (Es := (fun (s_16 : Wv × Wv × Wv) => ([some (.fz row_here_1), some cost_2, some pieces_5, some s_16.1, some s_16.2.1, some s_16.2.2, none] : Mir.Env))) (made_8, had_9, ahead_10) rfl rfl (sb_nm (E3 := fun lot_17 (s_16 : (Wv × Wv × Wv)) => ([some (.fz row_here_1), some cost_2, some pieces_5, some s_16.1, some s_16.2.1, some s_16.2.2, some (.fz lot_17)] : Mir.Env)) (fun _ => (Nat.le_of_ble_eq_true rfl)) (fun _ _ => rfl) (fun lot_17 s_16 => (bl_seq (E1 := (fun had_18 => ([some (.fz row_here_1), some cost_2, some pieces_5, some s_16.1, some had_18, some s_16.2.2, some (.fz lot_17)] : Mir.Env))) (bl_set (E1 := (fun had_18 => ([some (.fz row_here_1), some cost_2, some pieces_5, some s_16.1, some had_18, some s_16.2.2, some (.fz lot_17)] : Mir.Env))) (Nat.le_of_ble_eq_true rfl) rfl (fun _ => rfl)) (fun had_18 => (bl_seq (E1 := (fun (made_19 : Wv) => ([some (.fz row_here_1), some cost_2, some pieces_5, some made_19, some had_18, none, none] : Mir.Env))) (bl_kill (E1 := (fun made_19 => ([some (.fz row_here_1), some cost_2, some pieces_5, some made_19, some had_18, some s_16.2.2, some (.fz lot_17)] : Mir.Env))) (E3 := (fun (made_19 : Wv) => ([some (.fz row_here_1), some cost_2, some pieces_5, some made_19, some had_18, none, none] : Mir.Env))) (bl_mut (w := s_16.1) (E1 := (fun made_19 => ([some (.fz row_here_1), some cost_2, some pieces_5, some made_19, some had_18, some s_16.2.2, some (.fz lot_17)] : Mir.Env))) rfl rfl (fun _ => rfl)) (fun _ => rfl)) (fun made_19 => (bl_last (E1 := (fun ahead_20 => ([some (.fz row_here_1), some cost_2, some pieces_5, some made_19, some had_18, some ahead_20, none] : Mir.Env))) (bl_set (E1 := (fun ahead_20 => ([some (.fz row_here_1), some cost_2, some pieces_5, some made_19, some had_18, some ahead_20, none] : Mir.Env))) (Nat.le_of_ble_eq_true rfl) rfl (fun _ => rfl)) (fun _ => rfl))))))))) (fun _ => rfl)) (fun s_21 => (tl_retV (w := s_21.1) rfl)))))))))))))
theorem c_even_k32 (row_here_1 : D) (S : Store) : f_even_k32 [row_here_1] S = g_even_k32 row_here_1 S := fn_code rfl (t_even_k32 row_here_1) S
end G
set_option Elab.async false
set_option linter.all false
set_option maxRecDepth 100000
set_option maxHeartbeats 4000000
/-! G_k33: mirrors and code, printed by gen2.py -/
namespace G

open PySem L2 Mir
-- gone_from
def m_gone_from : CS :=
    (cSeq (cKill [1] (cSet 4 (cMeth "levelled" (tabF [(20, f_Way_turned), (21, f_Way_turned), (22, f_Way_turned), (23, f_Mean_levelled)]) (cVar 0) (cCons (cVar 1) cNil))))
    (cSeq (cKill [0, 2] (cIfS (cBin opIsN (cBor 3) (cUp (cC .non)))
      (cFrz 4 (cRet (cCall f_row_without (cCons (cVar 4) (cCons (cFz (cMeth "picks" (tabF [(20, f_Way_picks), (21, f_Way_picks), (22, f_Way_picks), (23, f_Way_picks)]) (cVar 0) (cCons (cVar 4) (cCons (cVar 2) cNil)))) cNil)))))
      cSkip))
    (cFrz 4 (cRet (cCall f_row_without (cCons (cVar 4) (cCons (cVar 3) cNil)))))))
def f_gone_from : Fn := runF 5 m_gone_from
def g_gone_from (way_1 : D) (lots_2 : D) (pieces_3 : D) (named_4 : D) : M Wv :=
 (bnd (dMeth "levelled" (tabF [(20, f_Way_turned), (21, f_Way_turned), (22, f_Way_turned), (23, f_Mean_levelled)]) (pur way_1) (pur [lots_2])) fun row_5 =>
 (ift (opIsN (Wv.fz named_4) (Wv.fz D.non))
 (dCall f_row_without (dCons (rdD row_5.fzn) (dCons (dFz (dMeth "picks" (tabF [(20, f_Way_picks), (21, f_Way_picks), (22, f_Way_picks), (23, f_Way_picks)]) (pur way_1) (dCons (rdD row_5.fzn) (pur [pieces_3])))) (pur []))))
 (dCall f_row_without (dCons (rdD row_5.fzn) (pur [named_4])))))
theorem t_gone_from (way_1 : D) (lots_2 : D) (pieces_3 : D) (named_4 : D) : Tl m_gone_from ([some (.fz way_1), some (.fz lots_2), some (.fz pieces_3), some (.fz named_4), none] : Mir.Env) (g_gone_from way_1 lots_2 pieces_3 named_4) :=
 (tl_seq1 (E1 := (fun (row_5 : Wv) => ([some (.fz way_1), none, some (.fz pieces_3), some (.fz named_4), some row_5] : Mir.Env))) (bl_kill (E1 := (fun row_5 => ([some (.fz way_1), some (.fz lots_2), some (.fz pieces_3), some (.fz named_4), some row_5] : Mir.Env))) (E3 := (fun (row_5 : Wv) => ([some (.fz way_1), none, some (.fz pieces_3), some (.fz named_4), some row_5] : Mir.Env))) (bl_set (E1 := (fun row_5 => ([some (.fz way_1), some (.fz lots_2), some (.fz pieces_3), some (.fz named_4), some row_5] : Mir.Env))) (Nat.le_of_ble_eq_true rfl) rfl (fun _ => rfl)) (fun _ => rfl)) (fun row_5 => (tl_ifx (E0 := ([none, none, none, some (.fz named_4), some row_5] : Mir.Env)) (xt_frz xt_ret) rfl rfl (tl_frz (E0 := ([some (.fz way_1), none, some (.fz pieces_3), some (.fz named_4), some row_5.fzn] : Mir.Env)) row_5 rfl rfl (tl_ret rfl)) (tl_frz (E0 := ([none, none, none, some (.fz named_4), some row_5.fzn] : Mir.Env)) row_5 rfl rfl (tl_ret rfl)))))
theorem c_gone_from (way_1 : D) (lots_2 : D) (pieces_3 : D) (named_4 : D) (S : Store) : f_gone_from [way_1, lots_2, pieces_3, named_4] S = g_gone_from way_1 lots_2 pieces_3 named_4 S := fn_code rfl (t_gone_from way_1 lots_2 pieces_3 named_4) S
end G
set_option Elab.async false
set_option linter.all false
set_option maxRecDepth 100000
set_option exponentiation.threshold 100000
/-! M_lev: dealing, the mean way's row, the ways by their words. -/
namespace G
open PySem L2 Mir
variable {S : Store}
/-! ### dealt -/
def dealL (a t : Int) : Int → List Int → List Int
  | _, [] => []
  | ah, w :: r => (a * (ah + w) / t - a * ah / t) :: dealL a t (ah + w) r
theorem dealL_len (a t : Int) : ∀ (ws : List Int) (ah : Int), (dealL a t ah ws).length = ws.length
  | [], _ => rfl
  | w :: r, ah => by rw [dealL, List.length_cons, List.length_cons, dealL_len a t r]
theorem sum_nn {ws : List Int} (h : ∀ w ∈ ws, 0 ≤ w) : 0 ≤ ws.sum := MirD.sum_nn h
theorem dealt_l1 {a t : Int} (ha : a.natAbs < 2 ^ 300) (t0 : 0 < t) (t1 : t.natAbs < 2 ^ 300) : ∀ (ws acc : List Int) (ah : Int), (∀ w ∈ ws, 0 ≤ w) → 0 ≤ ah → ah + ws.sum ≤ t → acc.length + ws.length ≤ 1000000 →
    forD (g_dealt_l1 (.int a) (.fz (.int t))) (ws.map D.int) (.ow (.lst (acc.map D.int)), .fz (.int ah), .fz (.int (a * ah / t))) S = .ok (.ow (.lst ((acc ++ dealL a t ah ws).map D.int)), .fz (.int (ah + ws.sum)), .fz (.int (a * (ah + ws.sum) / t))) S
  | [], acc, ah, _, _, _, _ => by
    rw [dealL, List.append_nil, List.sum_nil, Int.add_zero]
    rfl
  | w :: r, acc, ah, hw, h0, h1, hl => by
    have w0 := hw w List.mem_cons_self
    have r0 := sum_nn fun x hx => hw x (List.mem_cons_of_mem w hx)
    rw [List.sum_cons] at h1
    rw [List.length_cons] at hl
    have ih := dealt_l1 ha t0 t1 r (acc ++ [a * (ah + w) / t - a * ah / t]) (ah + w) (fun x hx => hw x (List.mem_cons_of_mem w hx)) (by omega) (by omega) (by rw [List.length_append, List.length_singleton]; omega)
    have m1 : mulOk a (ah + w) = true := mulOk_b 300 300 ha (by generalize (2 : Nat) ^ 300 = z at *; omega) (by decide) (by decide) (by decide)
    have m2 : divOk (a * (ah + w)) t = true := divOk_b 300 t0 t1 (by decide) (by decide)
    have pe := part_eq (S := S) m1 m2
    have sz : szOk (acc.length + 1) = true := szOk_le (by omega)
    rw [List.append_assoc] at ih
    rw [List.map_cons, List.sum_cons, ← Int.add_assoc, dealL]
    refine (forD_cons ?_).trans ih
    simp -implicitDefEqProofs [g_dealt_l1, pe, sz]
theorem dealt_eq {a : Int} {ws : List Int} (ha : a.natAbs < 2 ^ 300) (hw : ∀ w ∈ ws, 0 ≤ w) (h0 : 0 < ws.sum) (h1 : ws.sum.natAbs < 2 ^ 300) (hl : ws.length ≤ 1000000) : f_dealt [.int a, .lst (ws.map D.int)] S = .ok (.ow (.lst ((dealL a ws.sum 0 ws).map D.int))) S := by
  have lp := dealt_l1 (S := S) ha h0 h1 ws [] 0 hw (Int.le_refl _) (by omega) (by simpa using hl)
  rw [Int.mul_zero, Int.zero_ediv, List.map_nil, List.nil_append] at lp
  have hn : ws ≠ [] := fun e => by
    subst e
    simp at h0
  have hm := MirD.minL_nn hn hw
  have h0' : ¬ ws.sum ≤ 0 := by omega
  rw [c_dealt]
  simp -implicitDefEqProofs [g_dealt, h0', hm, hn, lp]
/-! ### the row of the mean way -/
abbrev sumC (R : List Lt) : Int := (R.map Lt.c).sum
abbrev sumP (R : List Lt) : Int := (R.map Lt.p).sum
def levL (C T : Int) : Int → List Lt → List Lt
  | _, [] => []
  | had, l :: r => ⟨l.n, l.s, l.p, C * (had + l.p) / T - C * had / T⟩ :: levL C T (had + l.p) r
def lev (R : List Lt) : List Lt := levL (sumC R) (sumP R) 0 R
theorem levL_zip (C T : Int) : ∀ (R : List Lt) (h : Int), levL C T h R = List.zipWith (fun (l : Lt) c => Lt.mk l.n l.s l.p c) R (dealL C T h (R.map Lt.p))
  | [], _ => rfl
  | l :: r, h => by rw [levL, List.map_cons, dealL, List.zipWith_cons_cons, levL_zip C T r]
theorem levL_n (C T : Int) : ∀ (R : List Lt) (h : Int), (levL C T h R).map Lt.n = R.map Lt.n
  | [], _ => rfl
  | l :: r, h => by rw [levL, List.map_cons, List.map_cons, levL_n C T r]
theorem levL_len (C T : Int) (R : List Lt) (h : Int) : (levL C T h R).length = R.length := by
  have := congrArg List.length (levL_n C T R h)
  rwa [List.length_map, List.length_map] at this
/-- a row of which sums can be told -/
structure Sml (R : List Lt) : Prop where
  fit : ∀ l ∈ R, l.Fit
  c1 : (sumC R).natAbs < 2 ^ 300
  p1 : (sumP R).natAbs < 2 ^ 300
  len : R.length ≤ 1000
theorem sumC_nn {R : List Lt} (h : ∀ l ∈ R, l.Fit) : 0 ≤ sumC R := sum_nn fun w hw => by
  obtain ⟨l, hl, rfl⟩ := List.mem_map.mp hw
  exact (h l hl).c0
theorem sumP_nn {R : List Lt} (h : ∀ l ∈ R, l.Fit) : 0 ≤ sumP R := sum_nn fun w hw => by
  obtain ⟨l, hl, rfl⟩ := List.mem_map.mp hw
  have := (h l hl).p0
  omega
theorem sumP_pos {R : List Lt} (h : ∀ l ∈ R, l.Fit) (hn : R ≠ []) : 0 < sumP R := by
  cases R with
  | nil => exact (hn rfl).elim
  | cons l r =>
    have a := (h l List.mem_cons_self).p0
    have b := sumP_nn fun x hx => h x (List.mem_cons_of_mem l hx)
    show 0 < ((l :: r).map Lt.p).sum
    rw [List.map_cons, List.sum_cons]
    show 0 < l.p + sumP r
    omega
theorem levL_all {C T : Int} (hC : 0 ≤ C) (hT : 0 < T) : ∀ (R : List Lt) (had : Int), (∀ l ∈ R, l.Fit) → 0 ≤ had → had + sumP R ≤ T → ∀ x ∈ levL C T had R, ∃ l ∈ R, x.n = l.n ∧ x.s = l.s ∧ x.p = l.p ∧ 0 ≤ x.c ∧ x.c ≤ C
  | [], _, _, _, _, x, h => by cases h
  | l :: r, had, hf, h0, h1, x, h => by
    have hp := (hf l List.mem_cons_self).p0
    have hr := sumP_nn fun x hx => hf x (List.mem_cons_of_mem l hx)
    have e : sumP (l :: r) = l.p + sumP r := by
      show ((l :: r).map Lt.p).sum = _
      rw [List.map_cons, List.sum_cons]
    rw [e] at h1
    rw [levL] at h
    rcases List.mem_cons.mp h with rfl | h
    · refine ⟨l, List.mem_cons_self, rfl, rfl, rfl, ?_, ?_⟩
      · show 0 ≤ C * (had + l.p) / T - C * had / T
        have : C * had / T ≤ C * (had + l.p) / T := Int.ediv_le_ediv hT (Int.mul_le_mul_of_nonneg_left (by omega) hC)
        omega
      · show C * (had + l.p) / T - C * had / T ≤ C
        have a : C * (had + l.p) / T ≤ C := Int.ediv_le_of_le_mul hT (Int.mul_le_mul_of_nonneg_left (by omega) hC)
        have b : 0 ≤ C * had / T := Int.ediv_nonneg (Int.mul_nonneg hC h0) (by omega)
        omega
    · obtain ⟨l', hl', q⟩ := levL_all hC hT r (had + l.p) (fun x hx => hf x (List.mem_cons_of_mem l hx)) (by omega) (by omega) x h
      exact ⟨l', List.mem_cons_of_mem l hl', q⟩
theorem lev_all {R : List Lt} (h : Sml R) : ∀ x ∈ lev R, ∃ l ∈ R, x.n = l.n ∧ x.s = l.s ∧ x.p = l.p ∧ 0 ≤ x.c ∧ x.c ≤ sumC R := fun x hx => by
  by_cases hn : R = []
  · subst hn
    cases hx
  · exact levL_all (sumC_nn h.fit) (sumP_pos h.fit hn) R 0 h.fit (Int.le_refl _) (by omega) x hx
theorem lev_fit {R : List Lt} (h : Sml R) : ∀ x ∈ lev R, x.Fit := fun x hx => by
  obtain ⟨l, hl, e1, e2, e3, e4, e5⟩ := lev_all h x hx
  have f := h.fit l hl
  have c1 := h.c1
  have p1 := f.ok.1
  have p0 := f.p0
  refine ⟨⟨by rw [e3]; exact p1, ?_⟩, by omega, e4⟩
  generalize (2 : Nat) ^ 300 = z at *
  omega
theorem cost_in_eq (R : List Lt) (hl : R.length ≤ 1000) : f_cost_in [.lst (R.map lotD)] S = .ok (.fz (.int (sumC R))) S := by
  have lc := lcS_map (S := S) (f := fun lot_2 => lcStep (pur true) (dFld "cost" [18] (pur (Wv.fz lot_2)))) (g := fun l : Lt => D.int l.c) lotD R (fun l _ => by simp -implicitDefEqProofs) (by omega)
  have e : (R.map fun l : Lt => D.int l.c) = (R.map Lt.c).map D.int := by rw [List.map_map]; rfl
  rw [e] at lc
  rw [c_cost_in]
  simp -implicitDefEqProofs only [g_cost_in, x_bnd, x_consB, x_items, x_pur, bindR_ok, s_itD1, s_itO, x_fz, lc, s_sum2, s_ints, s_sumO]
theorem mean_eq (w : D) {R : List Lt} (h : Sml R) : f_Mean_levelled [w, .lst (R.map lotD)] S = .ok (.ow (.lst ((lev R).map lotD))) S := by
  have hl := h.len
  rw [c_Mean_levelled]
  by_cases hn : R = []
  · subst hn
    rfl
  have T0 := sumP_pos h.fit hn
  have ci := cost_in_eq (S := S) R hl
  have de := dealt_eq (S := S) (a := sumC R) (ws := R.map Lt.p) h.c1 (fun w hw => by
    obtain ⟨l, hl, rfl⟩ := List.mem_map.mp hw
    have := (h.fit l hl).p0
    omega) T0 h.p1 (by rw [List.length_map]; omega)
  have lc := lcS_map (S := S) (f := fun lot_4 => lcStep (pur true) (dFld "pieces" [18] (pur (Wv.fz lot_4)))) (g := fun l : Lt => D.int l.p) lotD R (fun l _ => by simp -implicitDefEqProofs) (by omega)
  have e : (R.map fun l : Lt => D.int l.p) = (R.map Lt.p).map D.int := by rw [List.map_map]; rfl
  rw [e] at lc
  have z : zipD (R.map lotD) ((dealL (sumC R) (R.map Lt.p).sum 0 (R.map Lt.p)).map D.int) = (R.zip (dealL (sumC R) (R.map Lt.p).sum 0 (R.map Lt.p))).map fun p => D.tup [lotD p.1, .int p.2] := by
    generalize dealL (sumC R) (R.map Lt.p).sum 0 (R.map Lt.p) = C
    unfold zipD
    rw [List.zipWith_map, List.zip, List.map_zipWith]
  have lc2 := lcS_map (S := S) (f := fun d => un2 (.fz d) fun lot_6 cost_7 => lcStep (pur true) (dFz (dMk 18 f_Lot_init (dCons (dFld "number" [18] (pur (Wv.fz lot_6))) (dCons (dFld "since" [18] (pur (Wv.fz lot_6))) (dCons (dFld "pieces" [18] (pur (Wv.fz lot_6))) (pur [cost_7]))))))) (g := fun p : Lt × Int => lotD ⟨p.1.n, p.1.s, p.1.p, p.2⟩) (fun p : Lt × Int => D.tup [lotD p.1, .int p.2]) (R.zip (dealL (sumC R) (R.map Lt.p).sum 0 (R.map Lt.p))) (fun p _ => by simp -implicitDefEqProofs [Lot_init_eq]) (by rw [List.length_zip]; omega)
  have fin : ((R.zip (dealL (sumC R) (R.map Lt.p).sum 0 (R.map Lt.p))).map fun p : Lt × Int => lotD ⟨p.1.n, p.1.s, p.1.p, p.2⟩) = (lev R).map lotD := by
    unfold lev
    rw [levL_zip, List.map_zipWith, List.zip, List.map_zipWith]
  rw [fin] at lc2
  have l0 : ¬ (R.length : Int) = 0 := fun q => hn (List.length_eq_zero_iff.mp (by omega))
  simp -implicitDefEqProofs only [g_Mean_levelled, x_ift, x_bin, x_bnd, x_consB, x_items, x_call, x_cons, x_rdD, x_pur, bindR_ok, s_len1, List.length_map, s_eqI, l0, decide_false, Bool.false_eq_true, if_false, s_itD1, s_itO, x_fz, lc, s_frz1, s_frz2, ci, de, x_fzno, s_zipO, z, lc2]
theorem even_l1 {C T : Int} (hC : C.natAbs < 2 ^ 300) (t0 : 0 < T) (t1 : T.natAbs < 2 ^ 300) : ∀ (R acc : List Lt) (had : Int), (∀ l ∈ R, l.Fit) → 0 ≤ had → had + sumP R ≤ T → acc.length + R.length ≤ 1000 →
    ∃ w1 w2, forD (g_even_k32_l1 (.fz (.int C)) (.fz (.int T))) (R.map qd) (.ow (.lst (acc.map qd)), .fz (.int had), .fz (.int (C * had / T))) S = .ok (.ow (.lst ((acc ++ levL C T had R).map qd)), w1, w2) S
  | [], acc, had, _, _, _, _ => ⟨_, _, by rw [levL, List.append_nil]; rfl⟩
  | l :: r, acc, had, hf, h0, h1, hl => by
    have p0 := (hf l List.mem_cons_self).p0
    have hr := sumP_nn fun x hx => hf x (List.mem_cons_of_mem l hx)
    have e : sumP (l :: r) = l.p + sumP r := by
      show ((l :: r).map Lt.p).sum = _
      rw [List.map_cons, List.sum_cons]
    rw [e] at h1
    rw [List.length_cons] at hl
    obtain ⟨w1, w2, ih⟩ := even_l1 hC t0 t1 r (acc ++ [⟨l.n, l.s, l.p, C * (had + l.p) / T - C * had / T⟩]) (had + l.p) (fun x hx => hf x (List.mem_cons_of_mem l hx)) (by omega) (by omega) (by rw [List.length_append, List.length_singleton]; omega)
    refine ⟨w1, w2, ?_⟩
    have m1 : mulOk C (had + l.p) = true := mulOk_b 300 300 hC (by generalize (2 : Nat) ^ 300 = z at *; omega) (by decide) (by decide) (by decide)
    have m2 : divOk (C * (had + l.p)) T = true := divOk_b 300 t0 t1 (by decide) (by decide)
    have sz : szOk (acc.length + 1) = true := szOk_le (by omega)
    have u1 : ∀ x y z t : D, atD [x, y, z, t] 1 = some y := fun x y z t => atD_nat (n := 1) rfl
    have u2 : ∀ x y z t : D, atD [x, y, z, t] 2 = some z := fun x y z t => atD_nat (n := 2) rfl
    rw [List.append_assoc] at ih
    rw [List.map_cons, levL]
    refine (forD_cons ?_).trans ih
    simp -implicitDefEqProofs [g_even_k32_l1, m1, m2, sz, u1, u2]
theorem even_eq {R : List Lt} (h : Sml R) : f_even_k32 [.lst (R.map qd)] S = .ok (.ow (.lst ((lev R).map qd))) S := by
  have hl := h.len
  have u2 : ∀ x y z t : D, atD [x, y, z, t] 2 = some z := fun x y z t => atD_nat (n := 2) rfl
  have u3 : ∀ x y z t : D, atD [x, y, z, t] 3 = some t := fun x y z t => atD_nat (n := 3) rfl
  have lc1 := lcS_map (S := S) (f := fun lot_3 => lcStep (pur true) (dFz (opSub2 (Wv.fz lot_3) (Wv.fz (D.int 3))))) (g := fun l : Lt => D.int l.c) qd R (fun l _ => by simp -implicitDefEqProofs [u3]) (by omega)
  have lc2 := lcS_map (S := S) (f := fun lot_6 => lcStep (pur true) (dFz (opSub2 (Wv.fz lot_6) (Wv.fz (D.int 2))))) (g := fun l : Lt => D.int l.p) qd R (fun l _ => by simp -implicitDefEqProofs [u2]) (by omega)
  have e1 : (R.map fun l : Lt => D.int l.c) = (R.map Lt.c).map D.int := by rw [List.map_map]; rfl
  have e2 : (R.map fun l : Lt => D.int l.p) = (R.map Lt.p).map D.int := by rw [List.map_map]; rfl
  rw [e1] at lc1
  rw [e2] at lc2
  rw [c_even_k32]
  by_cases hn : R = []
  · subst hn
    rfl
  obtain ⟨w1, w2, lp⟩ := even_l1 (S := S) h.c1 (sumP_pos h.fit hn) h.p1 R [] 0 h.fit (Int.le_refl _) (by omega) (by simpa using hl)
  rw [Int.mul_zero, Int.zero_ediv, List.map_nil, List.nil_append] at lp
  simp -implicitDefEqProofs only [g_even_k32, x_bnd, x_consB, x_items, x_pur, bindR_ok, s_itD1, s_itO, lc1, lc2, s_sum2, s_ints, s_sumO, x_lst, List.length_nil, show szOk 0 = true from rfl, if_true, lp, x_rdo]
  rfl
/-! ### ways -/
def levW (c : Nat) (R : List Lt) : List Lt := if c = 23 then lev R else R
theorem way_e : f_way_by [.str "eldest"] S = .ok (.fz (.ins 20 [])) S := by rfl
theorem way_n : f_way_by [.str "newest"] S = .ok (.fz (.ins 21 [])) S := by rfl
theorem way_d : f_way_by [.str "dearest"] S = .ok (.fz (.ins 22 [])) S := by rfl
theorem way_m : f_way_by [.str "mean"] S = .ok (.fz (.ins 23 [])) S := by rfl
theorem levW_eq {c : Nat} (hc : c = 20 ∨ c = 21 ∨ c = 22 ∨ c = 23) {R : List Lt} (h : Sml R) : dMeth "levelled" (tabF [(20, f_Way_turned), (21, f_Way_turned), (22, f_Way_turned), (23, f_Mean_levelled)]) (pur (.ins c [])) (pur [.lst (R.map lotD)]) S = .ok (.ow (.lst ((levW c R).map lotD))) S := by
  have me := mean_eq (S := S) (.ins 23 []) h
  have tu : ∀ w : D, f_Way_turned [w, .lst (R.map lotD)] S = .ok (.ow (.lst (R.map lotD))) S := fun w => by
    rw [c_Way_turned]
    rfl
  rcases hc with rfl | rfl | rfl | rfl
  · exact tu (.ins 20 [])
  · exact tu (.ins 21 [])
  · exact tu (.ins 22 [])
  · exact me
theorem gone_named {c : Nat} (hc : c = 20 ∨ c = 21 ∨ c = 22 ∨ c = 23) {R : List Lt} (h : Sml R) (d : D) (P : List D) : f_gone_from [.ins c [], .lst (R.map lotD), d, .lst P] S = f_row_without [.lst ((levW c R).map lotD), .lst P] S := by
  rw [c_gone_from]
  simp -implicitDefEqProofs only [g_gone_from, x_bnd, levW_eq hc h, bindR_ok, x_ift, s_isN, s_isNon1, Bool.false_eq_true, if_false, x_call, x_cons, x_fzno, x_rdD, s_frz2, x_pur]
end G
set_option Elab.async false
set_option linter.all false
set_option maxRecDepth 100000
set_option exponentiation.threshold 100000
/-! M_cell: the cells of the laws of shares, in code without slots. -/
namespace G
open PySem L2 Mir
variable {S : Store}
theorem digits_l1 : ∀ (bs : List Int), (∀ b ∈ bs, 0 < b ∧ b.natAbs < 2 ^ 250) → ∀ (c : Int) (acc : List Int), acc.length + bs.length ≤ 1000 → ∃ c', forD g_digits_k01_l1 (bs.map D.int) (.fz (.int c), .ow (.lst (acc.map D.int))) S = .ok (.fz (.int c'), .ow (.lst ((acc ++ MirC.digits c bs).map D.int))) S
  | [], _, c, acc, _ => ⟨c, by rw [MirC.digits, List.append_nil]; rfl⟩
  | b :: r, hb, c, acc, ha => by
    obtain ⟨b0, b1⟩ := hb b List.mem_cons_self
    rw [List.length_cons] at ha
    obtain ⟨c', h⟩ := digits_l1 r (fun x hx => hb x (List.mem_cons_of_mem _ hx)) (c / b) (acc ++ [c % b]) (by rw [List.length_append, List.length_singleton]; omega)
    refine ⟨c', ?_⟩
    rw [List.append_assoc] at h
    have m : modOk c b = true := modOk_p b0
    have d : divOk c b = true := divOk_b 250 b0 b1 (by decide) (by decide)
    have sz : szOk (acc.length + 1) = true := szOk_le (by omega)
    rw [List.map_cons, MirC.digits]
    refine (forD_cons ?_).trans h
    simp -implicitDefEqProofs [g_digits_k01_l1, m, d, sz]
theorem digitsk_eq {bs : List Int} (hb : ∀ b ∈ bs, 0 < b ∧ b.natAbs < 2 ^ 250) (hl : bs.length ≤ 1000) (c : Int) : f_digits_k01 [.int c, .lst (bs.map D.int)] S = .ok (.ow (.lst ((MirC.digits c bs).map D.int))) S := by
  obtain ⟨c', h⟩ := digits_l1 (S := S) bs hb c [] (by simpa using hl)
  rw [List.nil_append] at h
  have h : forD g_digits_k01_l1 (bs.map D.int) (.fz (.int c), .ow (.lst [])) S = _ := h
  rw [c_digits_k01]
  simp -implicitDefEqProofs [g_digits_k01, h]
theorem mixedk_eq (c k : Int) (h0 : 0 ≤ k) (h1 : k < 1000) : f_mixed_k01 [.int c, .int k] S = .ok (.fz (.int (MirC.mixed c k))) S := by
  have n0 : 0 ≤ (c + 7919 * k * k + k) * 982451653 % 2305843009213693951 := Int.emod_nonneg _ (by decide)
  have n1 : (c + 7919 * k * k + k) * 982451653 % 2305843009213693951 < 2305843009213693951 := Int.emod_lt_of_pos _ (by decide)
  have o0 : 0 ≤ (c + 7919 * k * k + k) * 982451653 % 2305843009213693951 * 1000003 % 1152921504606846883 := Int.emod_nonneg _ (by decide)
  have o1 : (c + 7919 * k * k + k) * 982451653 % 2305843009213693951 * 1000003 % 1152921504606846883 < 1152921504606846883 := Int.emod_lt_of_pos _ (by decide)
  have m1 : mulOk 7919 k = true := mulOk_l (by decide) (by decide)
  have m2 : mulOk (7919 * k) k = true := mulOk_r (by omega) (by omega)
  have m3 : ∀ x, mulOk x 982451653 = true := fun x => mulOk_r (by decide) (by decide)
  have m4 : ∀ x, mulOk x 1000003 = true := fun x => mulOk_r (by decide) (by decide)
  have d1 : ∀ x, divOk x 4096 = true := fun x => divOk_s (by decide) (by decide)
  have d2 : ∀ x, divOk x 64 = true := fun x => divOk_s (by decide) (by decide)
  have m5 : mulOk ((c + 7919 * k * k + k) * 982451653 % 2305843009213693951) ((c + 7919 * k * k + k) * 982451653 % 2305843009213693951 * 1000003 % 1152921504606846883) = true := mulOk_l (by omega) (by omega)
  have m6 : mulOk (((c + 7919 * k * k + k) * 982451653 % 2305843009213693951) * ((c + 7919 * k * k + k) * 982451653 % 2305843009213693951 * 1000003 % 1152921504606846883)) ((c + 7919 * k * k + k) * 982451653 % 2305843009213693951 / 4096 + (c + 7919 * k * k + k) * 982451653 % 2305843009213693951 * 1000003 % 1152921504606846883 / 64 + 1) = true := mulOk_r (by omega) (by omega)
  have e : MirC.mixed c k = ((c + 7919 * k * k + k) * 982451653 % 2305843009213693951) * ((c + 7919 * k * k + k) * 982451653 % 2305843009213693951 * 1000003 % 1152921504606846883) * ((c + 7919 * k * k + k) * 982451653 % 2305843009213693951 / 4096 + (c + 7919 * k * k + k) * 982451653 % 2305843009213693951 * 1000003 % 1152921504606846883 / 64 + 1) := rfl
  rw [c_mixed_k01, e]
  generalize hn : (c + 7919 * k * k + k) * 982451653 % 2305843009213693951 = n at *
  generalize ho : n * 1000003 % 1152921504606846883 = o at *
  simp -implicitDefEqProofs [g_mixed_k01, modOk, m1, m2, m3, m4, m5, m6, d1, d2, hn, ho]
theorem cellsk_eq (ns : List Int) (hl : ns.length ≤ 63) : f_cells_k01 [.scr ns] S = .ok (.ow (.lst ((MirC.cells ns).map D.int))) S := by
  rw [c_cells_k01]
  cases ns with
  | nil => rfl
  | cons n r =>
    have hl' : r.length + 1 ≤ 63 := hl
    have lp : decide ((0 : Int) < ((n :: r).length : Nat)) = true := decide_eq_true (by rw [List.length_cons]; omega)
    have at0 : atD ((n :: r).map D.int) 0 = some (.int n) := atD_nat (n := 0) rfl
    have o2 : modOk n 2 = true := modOk_p (by decide)
    have o61 : modOk (n / 2) 61 = true := modOk_p (by decide)
    have d2 : divOk n 2 = true := divOk_s (by decide) (by decide)
    have i0 := Int.emod_nonneg (n / 2) (show (61 : Int) ≠ 0 by decide)
    have i1 := Int.emod_lt_of_pos (n / 2) (show (0 : Int) < 61 by decide)
    by_cases h : n % 2 = 1
    · obtain ⟨m, em⟩ : ∃ m : Nat, maxI (minI (((n :: r).length : Nat) : Int) 63) (3 + n / 2 % 61) = (m : Int) := ⟨(maxI (minI (((n :: r).length : Nat) : Int) 63) (3 + n / 2 % 61)).toNat, by unfold maxI minI; split <;> split <;> omega⟩
      have mb : m < 1000 := by
        have : (m : Int) ≤ 63 := by rw [← em]; rw [List.length_cons]; unfold maxI minI; split <;> split <;> omega
        omega
      have lc := lcS_map (S := S) (f := fun k_3 => lcStep (pur true) (dFz (dCall f_mixed_k01 (dCons (dFz (dBin opSub2 (pur (Wv.fz (.scr (n :: r)))) (dBin opMod (pur (Wv.fz k_3)) (bLen [(Wv.fz (.scr (n :: r)))])))) (pur [k_3]))))) (g := fun k : Nat => D.int (MirC.mixed ((n :: r).getD (k % (r.length + 1)) 0) (k : Nat))) (fun i : Nat => D.int (0 + (i : Nat))) (List.range m) (fun k hk => by
        have hk := List.mem_range.mp hk
        have oL : modOk (k : Int) (((n :: r).length : Nat) : Int) = true := modOk_p (by rw [List.length_cons]; omega)
        have e1 : (k : Int) % (((n :: r).length : Nat) : Int) = ((k % (r.length + 1) : Nat) : Int) := by rw [List.length_cons]; omega
        have at1 := MirC.getD_scr (n :: r) (k % (r.length + 1)) (by rw [List.length_cons]; exact Nat.mod_lt _ (by omega))
        have mx := mixedk_eq (S := S) ((n :: r).getD (k % (r.length + 1)) 0) (k : Nat) (by omega) (by omega)
        have sl : bLen [(Wv.fz (.scr (n :: r)))] S = .ok (.fz (.int (((n :: r).length : Nat) : Int))) S := by
          show Mir.R.ok (Wv.fz (.int ((((n :: r).map D.int).length : Nat) : Int))) S = _
          rw [List.length_map]
        rw [Int.zero_add]
        simp -implicitDefEqProofs only [x_lcStep, x_pur, x_noEx, bindR_ok, if_true, x_fz, x_call, x_cons, x_bin, sl, s_mod, oL, e1, s_ixS, at1, s_gotW, s_frz1, mx]) (by rw [List.length_range]; omega)
      have sl : bLen [(Wv.fz (.scr (n :: r)))] S = .ok (.fz (.int (((n :: r).length : Nat) : Int))) S := by
        show Mir.R.ok (Wv.fz (.int ((((n :: r).map D.int).length : Nat) : Int))) S = _
        rw [List.length_map]
      have rg : rng1 [.int (m : Int)] S = .ok ((List.range m).map fun i : Nat => D.int (0 + (i : Nat))) S := by
        rw [s_rng1, if_pos (rngOk_s (by omega) (by omega))]
        rfl
      have ec : MirC.cells (n :: r) = (List.range m).map fun k => MirC.mixed ((n :: r).getD (k % (r.length + 1)) 0) (k : Nat) := by
        unfold MirC.cells
        dsimp only
        rw [if_pos h]
        have : (maxI (minI ((r.length : Int) + 1) 63) (3 + n / 2 % 61)).toNat = m := by
          have e : ((r.length : Int) + 1) = (((n :: r).length : Nat) : Int) := by rw [List.length_cons]; omega
          rw [e, em]
          rfl
        rw [this]
      have el : (((n :: r).map D.int).length) = (n :: r).length := List.length_map _
      rw [ec, List.map_map]
      simp -implicitDefEqProofs only [g_cells_k01, x_ift, x_and, x_bin, sl, bindR_ok, x_pur, s_gt, lp, if_true, s_ixS, at0, s_gotW, s_mod, o2, s_eqI, h, decide_true, x_bnd, x_consB, s_bInt2, s_div, d2, o61, s_add, em, x_cons, x_rdD, rg, lc]
      rfl
    · have hd : decide (n % 2 = 1) = false := decide_eq_false h
      have ct := MirC.cut_script (n :: r) hl
      have q60 : powOk 10 60 = true := by decide
      have e60 : (10 : Int) ^ (60 : Int).toNat = 10 ^ 60 := rfl
      have o60 : ∀ x, modOk x (10 ^ 60) = true := fun x => modOk_p (by decide)
      have lc := lcS_map (S := S) (f := fun cell_5 => lcStep (pur true) (dFz (dBin opMod (pur (Wv.fz cell_5)) (opPow (Wv.fz (D.int 10)) (Wv.fz (D.int 60)))))) (g := fun c : Int => D.int (c % 10 ^ 60)) D.int ((n :: r).take 63) (fun c _ => by
        simp -implicitDefEqProofs only [x_lcStep, x_pur, x_noEx, bindR_ok, if_true, x_fz, x_bin, s_pow, q60, e60, s_mod, o60, s_frz1]) (by rw [List.length_take]; omega)
      have ec : MirC.cells (n :: r) = ((n :: r).take 63).map fun c => c % 10 ^ 60 := by
        unfold MirC.cells
        dsimp only
        rw [if_neg h]
      have sl : bLen [(Wv.fz (.scr (n :: r)))] S = .ok (.fz (.int (((n :: r).length : Nat) : Int))) S := by
        show Mir.R.ok (Wv.fz (.int ((((n :: r).map D.int).length : Nat) : Int))) S = _
        rw [List.length_map]
      rw [ec, List.map_map]
      simp -implicitDefEqProofs only [g_cells_k01, x_ift, x_and, x_bin, sl, bindR_ok, x_pur, s_gt, lp, if_true, s_ixS, at0, s_gotW, s_mod, o2, s_eqI, hd, Bool.false_eq_true, if_false, x_bnd, x_items, x_fz, x_sl, x_part, s_prtW, s_slS, ct, s_frz2, s_itD1, s_itO, lc]
      rfl
theorem cell_atk_eq (ns : List Int) (k : Nat) : f_cell_at_k02 [.scr ns, .int (k : Nat)] S = .ok (.fz (.int (ns.getD k 0))) S := by
  have sl : bLen [(Wv.fz (.scr ns))] S = .ok (.fz (.int ((ns.length : Nat) : Int))) S := by
    show Mir.R.ok (Wv.fz (.int (((ns.map D.int).length : Nat) : Int))) S = _
    rw [List.length_map]
  rw [c_cell_at_k02]
  by_cases h : k < ns.length
  · have a := MirC.getD_scr ns k h
    have hd : decide ((k : Int) < (ns.length : Nat)) = true := decide_eq_true (by omega)
    simp -implicitDefEqProofs only [g_cell_at_k02, x_ift, x_bin, x_pur, bindR_ok, sl, s_lt, hd, if_true, s_ixS, a, s_gotW]
  · have hd : decide ((k : Int) < (ns.length : Nat)) = false := decide_eq_false (by omega)
    have e : ns.getD k 0 = 0 := by rw [List.getD_eq_getElem?_getD, List.getElem?_eq_none (by omega)]; rfl
    simp -implicitDefEqProofs only [g_cell_at_k02, x_ift, x_bin, x_pur, bindR_ok, sl, s_lt, hd, Bool.false_eq_true, if_false, e]
end G
set_option Elab.async false
set_option linter.all false
set_option maxRecDepth 100000
set_option exponentiation.threshold 100000
namespace L_k04_whole_dealt
open PySem L2 Mir G
variable {S : Store}
/-! ### shares -/
theorem dl_take (a T : Int) : ∀ (ws : List Int) (ah : Int) (k : Nat), ((dealL a T ah ws).take k).sum = a * (ah + (ws.take k).sum) / T - a * ah / T
  | [], ah, k => by simp [dealL]
  | w :: r, ah, 0 => by simp
  | w :: r, ah, k + 1 => by
    rw [dealL, List.take_succ_cons, List.take_succ_cons, List.sum_cons, List.sum_cons, dl_take a T r, ← Int.add_assoc]
    omega
theorem dl_sum (a : Int) {T : Int} (t0 : 0 < T) {ws : List Int} (h : ws.sum = T) : (dealL a T 0 ws).sum = a := by
  have e := dl_take a T ws 0 ws.length
  rw [List.take_length, ← dealL_len a T ws 0, List.take_length, Int.zero_add, Int.mul_zero, Int.zero_ediv, Int.sub_zero, h, Int.mul_ediv_cancel _ (by omega)] at e
  exact e
theorem dl_zip (a T : Int) : ∀ (ws : List Int) (ah : Int), (∀ w ∈ ws, 0 ≤ w) → 0 ≤ ah → ah + ws.sum ≤ T → ∀ p ∈ (dealL a T ah ws).zip ws, ∃ h, 0 ≤ h ∧ 0 ≤ p.2 ∧ h + p.2 ≤ T ∧ p.1 = a * (h + p.2) / T - a * h / T
  | [], _, _, _, _, p, hp => by cases hp
  | w :: r, ah, hw, h0, h1, p, hp => by
    have w0 := hw w List.mem_cons_self
    have r0 := sum_nn fun x hx => hw x (List.mem_cons_of_mem w hx)
    rw [List.sum_cons] at h1
    rw [dealL, List.zip_cons_cons] at hp
    rcases List.mem_cons.mp hp with rfl | hp
    · exact ⟨ah, h0, w0, by dsimp only; omega, rfl⟩
    · exact dl_zip a T r (ah + w) (fun x hx => hw x (List.mem_cons_of_mem w hx)) (by omega) (by omega) p hp
theorem near {C T p h c : Int} (t0 : 0 < T) (e : c = C * (h + p) / T - C * h / T) : -T < c * T - C * p ∧ c * T - C * p < T := by
  have a := Int.mul_ediv_add_emod (C * (h + p)) T
  have b := Int.mul_ediv_add_emod (C * h) T
  have a0 := Int.emod_nonneg (C * (h + p)) (show T ≠ 0 by omega)
  have a1 := Int.emod_lt_of_pos (C * (h + p)) t0
  have b0 := Int.emod_nonneg (C * h) (show T ≠ 0 by omega)
  have b1 := Int.emod_lt_of_pos (C * h) t0
  have m : C * (h + p) = C * h + C * p := Int.mul_add _ _ _
  have q : c * T = T * (C * (h + p) / T) - T * (C * h / T) := by rw [e, Int.sub_mul, Int.mul_comm _ T, Int.mul_comm _ T]
  omega
theorem fl_b {a x T : Int} (t0 : 0 < T) (h0 : 0 ≤ x) (h1 : x ≤ T) : (a * x / T).natAbs ≤ a.natAbs := by
  rcases Int.le_total 0 a with ha | ha
  · have b0 : 0 ≤ a * x / T := Int.ediv_nonneg (Int.mul_nonneg ha h0) (by omega)
    have b1 : a * x / T ≤ a := by
      have := Int.ediv_le_ediv t0 (Int.mul_le_mul_of_nonneg_left h1 ha)
      rwa [Int.mul_ediv_cancel _ (by omega)] at this
    omega
  · have b0 : a * x / T ≤ 0 := by
      have := Int.ediv_le_ediv t0 (Int.mul_nonpos_of_nonpos_of_nonneg ha h0)
      rwa [Int.zero_ediv] at this
    have b1 : a ≤ a * x / T := by
      have := Int.ediv_le_ediv t0 (Int.mul_le_mul_of_nonpos_left ha h1)
      rwa [Int.mul_ediv_cancel _ (by omega)] at this
    omega
theorem share_b {a T h p c : Int} (t0 : 0 < T) (h0 : 0 ≤ h) (p0 : 0 ≤ p) (h1 : h + p ≤ T) (e : c = a * (h + p) / T - a * h / T) (ha : a.natAbs < 2 ^ 250) : c.natAbs < 2 ^ 290 ∧ (c - 1).natAbs < 2 ^ 290 ∧ (c + 1).natAbs < 2 ^ 290 := by
  have b1 := fl_b (a := a) (x := h + p) t0 (by omega) h1
  have b2 := fl_b (a := a) (x := h) t0 h0 (by omega)
  have B : (2 : Nat) ^ 290 > 2 ^ 250 + 2 ^ 250 + 1 := by decide
  generalize (2 : Nat) ^ 290 = z at *
  generalize (2 : Nat) ^ 250 = y at *
  omega
/-! ### neighbours put together -/
def jn (row : List Int) : Int → List Int → List Int
  | _, [] => []
  | s, c :: r => ((row.take c.toNat).sum - (row.take s.toNat).sum) :: jn row c r
theorem jn_deal (a T : Int) (ws : List Int) : ∀ (cs : List Int) (s : Int), dealL a T (ws.take s.toNat).sum (jn ws s cs) = jn (dealL a T 0 ws) s cs
  | [], s => rfl
  | c :: r, s => by
    have e : (ws.take s.toNat).sum + ((ws.take c.toNat).sum - (ws.take s.toNat).sum) = (ws.take c.toNat).sum := by omega
    rw [jn, dealL, jn, e, jn_deal a T ws r c, dl_take, dl_take, Int.zero_add, Int.zero_add, Int.mul_zero, Int.zero_ediv, Int.sub_zero, Int.sub_zero]
theorem jn_sum (ws : List Int) : ∀ (cs : List Int) (s L : Int), (jn ws s (cs ++ [L])).sum = (ws.take L.toNat).sum - (ws.take s.toNat).sum
  | [], s, L => by simp [jn]
  | c :: r, s, L => by
    rw [List.cons_append, jn, List.sum_cons, jn_sum ws r c L]
    omega
theorem take_mid (ws : List Int) {i j : Nat} (h : i ≤ j) : ((ws.drop i).take (j - i)).sum = (ws.take j).sum - (ws.take i).sum := by
  have e : ws.take j = ws.take i ++ (ws.drop i).take (j - i) := by
    rw [← List.take_add, show i + (j - i) = j by omega]
  rw [e, List.sum_append]
  omega
theorem take_le {ws : List Int} (h : ∀ w ∈ ws, 0 ≤ w) {i j : Nat} (hij : i ≤ j) : (ws.take i).sum ≤ (ws.take j).sum := by
  have := take_mid ws hij
  have := sum_nn (ws := (ws.drop i).take (j - i)) fun w hw => h w (List.mem_of_mem_drop (List.mem_of_mem_take hw))
  omega
theorem jn_nn {ws : List Int} (h : ∀ w ∈ ws, 0 ≤ w) : ∀ (cs : List Int) (s : Int), (s :: cs).Pairwise (· ≤ ·) → ∀ x ∈ jn ws s cs, 0 ≤ x
  | [], _, _, x, hx => by cases hx
  | c :: r, s, pw, x, hx => by
    rw [List.pairwise_cons] at pw
    rw [jn] at hx
    rcases List.mem_cons.mp hx with rfl | hx
    · have := pw.1 c List.mem_cons_self
      have := take_le h (show s.toNat ≤ c.toNat by omega)
      omega
    · exact jn_nn h r c pw.2 x hx
theorem jn_len (ws : List Int) : ∀ (cs : List Int) (s : Int), (jn ws s cs).length = cs.length
  | [], _ => rfl
  | c :: r, s => by rw [jn, List.length_cons, List.length_cons, jn_len ws r]
theorem joined_l1 (row : List Int) : ∀ (cs : List Int) (s : Int) (acc : List Int), (s :: cs).Pairwise (· ≤ ·) → 0 ≤ s → (∀ c ∈ cs, c ≤ row.length) → acc.length + cs.length ≤ 1000 →
    ∃ s', forD (g_joined_k04_l1 (.lst (row.map D.int))) (cs.map D.int) (.ow (.lst (acc.map D.int)), .fz (.int s)) S = .ok (.ow (.lst ((acc ++ jn row s cs).map D.int)), s') S
  | [], s, acc, _, _, _, _ => ⟨_, by rw [jn, List.append_nil]; rfl⟩
  | c :: r, s, acc, pw, s0, hc, hl => by
    rw [List.pairwise_cons] at pw
    have sc := pw.1 c List.mem_cons_self
    have cl := hc c List.mem_cons_self
    rw [List.length_cons] at hl
    obtain ⟨s', ih⟩ := joined_l1 row r c (acc ++ [(row.take c.toNat).sum - (row.take s.toNat).sum]) pw.2 (by omega) (fun x hx => hc x (List.mem_cons_of_mem c hx)) (by rw [List.length_append, List.length_singleton]; omega)
    refine ⟨s', ?_⟩
    rw [List.append_assoc] at ih
    have sz : szOk (acc.length + 1) = true := szOk_le (by omega)
    have cm := cutD_mid (xs := row.map D.int) s.toNat c.toNat (by rw [List.length_map]; omega)
    rw [show ((s.toNat : Nat) : Int) = s by omega, show ((c.toNat : Nat) : Int) = c by omega, ← List.map_drop, ← List.map_take] at cm
    have tm := take_mid row (show s.toNat ≤ c.toNat by omega)
    rw [List.map_cons, jn]
    refine (forD_cons ?_).trans ih
    simp -implicitDefEqProofs [g_joined_k04_l1, cm, tm, sz, -List.map_take, -List.map_drop]
theorem joined_eq (row cs : List Int) (pw : (0 :: (cs ++ [(row.length : Int)])).Pairwise (· ≤ ·)) (hl : cs.length ≤ 100) : f_joined_k04 [.lst (row.map D.int), .lst (cs.map D.int)] S = .ok (.ow (.lst ((jn row 0 (cs ++ [(row.length : Int)])).map D.int))) S := by
  have le : ∀ c ∈ cs ++ [(row.length : Int)], c ≤ row.length := fun c hc => by
    rcases List.mem_append.mp hc with hc | hc
    · rw [List.pairwise_cons] at pw
      exact (List.pairwise_append.mp pw.2).2.2 c hc _ List.mem_cons_self
    · rw [List.mem_singleton.mp hc]
      exact Int.le_refl _
  obtain ⟨s', h⟩ := joined_l1 (S := S) row (cs ++ [(row.length : Int)]) 0 [] pw (Int.le_refl _) le (by simp; omega)
  rw [List.nil_append] at h
  have h : forD (g_joined_k04_l1 (.lst (row.map D.int))) ((cs ++ [(row.length : Int)]).map D.int) (.ow (.lst []), .fz (.int 0)) S = _ := h
  have sz : szOk (cs.length + 1) = true := szOk_le (by omega)
  have ec : cs.map D.int ++ [.int (row.length : Nat)] = (cs ++ [(row.length : Int)]).map D.int := by rw [List.map_append]; rfl
  rw [c_joined_k04]
  simp -implicitDefEqProofs only [g_joined_k04, x_bnd, x_lst, x_cons, x_pur, bindR_ok, List.length_nil, List.length_cons, Nat.zero_add, show szOk 0 = true from rfl, show szOk 1 = true from rfl, if_true, x_items, x_fz, x_bin, s_len1, List.length_map, s_frz1, s_addFL, sz, ec, s_frz2, s_itD1, s_itO, h]
  rfl
/-! ### the weights -/
def wt (c : Int) : Int := if c % 3 = 0 then 0 else if c % 3 = 1 then c / 3 % 4 else c / 3 / 4 % 1000000001
theorem wt_b (c : Int) : 0 ≤ wt c ∧ wt c ≤ 1000000000 := by
  have h1 := Int.emod_nonneg (c / 3) (show (4 : Int) ≠ 0 by decide)
  have h2 := Int.emod_lt_of_pos (c / 3) (show (0 : Int) < 4 by decide)
  have h3 := Int.emod_nonneg (c / 3 / 4) (show (1000000001 : Int) ≠ 0 by decide)
  have h4 := Int.emod_lt_of_pos (c / 3 / 4) (show (0 : Int) < 1000000001 by decide)
  unfold wt
  split
  · omega
  · split <;> omega
theorem l1_eq : ∀ (cs acc : List Int), acc.length + cs.length ≤ 1000 → forD g_law_k04_l1 (cs.map D.int) (.ow (.lst (acc.map D.int))) S = .ok (.ow (.lst ((acc ++ cs.map wt).map D.int))) S
  | [], acc, _ => by rw [List.map_nil, List.map_nil, List.append_nil]; rfl
  | c :: r, acc, hl => by
    rw [List.length_cons] at hl
    have ih := l1_eq r (acc ++ [wt c]) (by rw [List.length_append, List.length_singleton]; omega)
    rw [List.append_assoc] at ih
    have dg := digitsk_eq (S := S) (bs := [3, 4, 1000000001]) (by decide) (by decide) c
    have ed : (MirC.digits c [3, 4, 1000000001]).map D.int = [.int (c % 3), .int (c / 3 % 4), .int (c / 3 / 4 % 1000000001)] := rfl
    have eb : ([3, 4, 1000000001] : List Int).map D.int = [.int 3, .int 4, .int 1000000001] := rfl
    rw [ed, eb] at dg
    have pw : powOk 10 9 = true := by decide
    have e9 : (10 : Int) ^ (9 : Int).toNat + 1 = 1000000001 := by decide
    have sz : szOk (acc.length + 1) = true := szOk_le (by omega)
    have at1 : ∀ x y z : D, atD [x, y, z] 1 = some y := fun x y z => atD_nat (n := 1) rfl
    have at2 : ∀ x y z : D, atD [x, y, z] 2 = some z := fun x y z => atD_nat (n := 2) rfl
    have ix : atD [D.int 0, .int (c / 3 % 4), .int (c / 3 / 4 % 1000000001)] (c % 3) = some (.int (wt c)) := by
      have k : c % 3 = 0 ∨ c % 3 = 1 ∨ c % 3 = 2 := by omega
      unfold wt
      rcases k with k | k | k
      · rw [k, if_pos rfl]; exact atD_nat (n := 0) rfl
      · rw [k, if_neg (by decide), if_pos rfl]; exact at1 _ _ _
      · rw [k, if_neg (by decide), if_neg (by decide)]; exact at2 _ _ _
    have s3 : szOk 3 = true := rfl
    rw [List.map_cons, List.map_cons]
    refine (forD_cons ?_).trans ih
    simp -implicitDefEqProofs only [g_law_k04_l1, x_bnd, x_call, x_cons, x_pur, bindR_ok, x_fz, x_lst, x_bin, s_pow, pw, if_true, s_add, e9, s_frz1, s_frz2, List.length_cons, List.length_nil, Nat.zero_add, Nat.reduceAdd, s3, dg, x_uno3, x_mut, x_tyW1, s_ixO, ix, s_gotW, x_mutW, s_app, List.length_map, sz, x_mutR1, List.map_append, List.map_cons, List.map_nil]
def wsK (ns : List Int) : List Int := 1 :: ((MirC.cells ns).take 40).map wt
theorem wsK_b (ns : List Int) : ∀ w ∈ wsK ns, 0 ≤ w ∧ w ≤ 1000000000 := fun w h => by
  rcases List.mem_cons.mp h with rfl | h
  · decide
  · obtain ⟨c, _, rfl⟩ := List.mem_map.mp h
    exact wt_b c
theorem wsK_len (ns : List Int) : (wsK ns).length ≤ 41 := by
  unfold wsK
  rw [List.length_cons, List.length_map, List.length_take]
  omega
theorem wsK_sum (ns : List Int) : 0 < (wsK ns).sum ∧ (wsK ns).sum ≤ 41000000000 := by
  have h0 := sum_nn fun w hw => (wsK_b ns w (List.mem_cons_of_mem _ hw)).1
  have h1 := MirD.sum_le fun w hw => (wsK_b ns w hw).2
  have h2 := wsK_len ns
  refine ⟨?_, by omega⟩
  unfold wsK
  rw [List.sum_cons]
  omega
def hdC (ns : List Int) : Int := (MirC.cells ns ++ [100]).headD 0
def amt (ns : List Int) : Int := if ns.getD 2 0 % 2 = 1 then hdC ns * -1 else hdC ns * 1
theorem amt_b (ns : List Int) : (amt ns).natAbs < 2 ^ 250 := by
  have h := MirC.cells_b ns
  have b : 0 ≤ hdC ns ∧ hdC ns < 2 ^ 200 := by
    unfold hdC
    cases e : MirC.cells ns with
    | nil => exact ⟨by decide, by decide⟩
    | cons c r =>
      rw [e] at h
      exact h c List.mem_cons_self
  have h3 : (2 : Nat) ^ 250 > 2 ^ 200 := by decide
  have h4 : (2 : Int) ^ 200 = ((2 ^ 200 : Nat) : Int) := by decide
  rw [h4] at b
  generalize (2 : Nat) ^ 250 = B at *
  generalize (2 : Nat) ^ 200 = C at *
  unfold amt
  generalize hdC ns = x at *
  split <;> omega
theorem noLsts_int : ∀ X : List Int, noLsts (X.map D.int) = true
  | [] => rfl
  | x :: r => by
    rw [List.map_cons, noLsts, noLsts_int r, Bool.and_true]
    rfl
theorem b_up {x : Int} (h : x.natAbs < 2 ^ 290) : x.natAbs < 2 ^ 300 := Nat.lt_trans h (by decide)
theorem l2_eq {a T : Int} (t0 : 0 < T) (t1 : T ≤ 41000000000) (ha : a.natAbs < 2 ^ 250) {p : Int × Int} (hp : ∃ h, 0 ≤ h ∧ 0 ≤ p.2 ∧ h + p.2 ≤ T ∧ p.1 = a * (h + p.2) / T - a * h / T) : g_law_k04_l2 (.fz (.int a)) (.fz (.int T)) (.tup [.int p.1, .int p.2]) () S = .ok (.nx ()) S := by
  obtain ⟨h, h0, p0, h1, e⟩ := hp
  obtain ⟨n1, n2⟩ := near t0 e
  obtain ⟨_, b1, b2⟩ := share_b t0 h0 p0 h1 e ha
  have tb : T.natAbs < 2 ^ 300 := by
    have B : (2 : Nat) ^ 300 > 41000000000 := by decide
    generalize (2 : Nat) ^ 300 = z at *
    omega
  have pb : p.2.natAbs < 2 ^ 300 := by
    have B : (2 : Nat) ^ 300 > 41000000000 := by decide
    generalize (2 : Nat) ^ 300 = z at *
    omega
  have m1 : mulOk (p.1 - 1) T = true := mulOk_b 300 300 (b_up b1) tb (by decide) (by decide) (by decide)
  have m2 : mulOk (p.1 + 1) T = true := mulOk_b 300 300 (b_up b2) tb (by decide) (by decide) (by decide)
  have m3 : mulOk a p.2 = true := mulOk_b 300 300 (Nat.lt_trans ha (by decide)) pb (by decide) (by decide) (by decide)
  have d1 : decide ((p.1 - 1) * T < a * p.2) = true := decide_eq_true (by rw [Int.sub_mul]; omega)
  have d2 : decide (a * p.2 < (p.1 + 1) * T) = true := decide_eq_true (by rw [Int.add_mul]; omega)
  simp -implicitDefEqProofs [g_law_k04_l2, m1, m2, m3, d1, d2]
theorem dl_at (a T : Int) (ws : List Int) {i : Nat} (hi : i < ws.length) : (dealL a T 0 ws)[i]? = some (a * ((ws.take i).sum + ws[i]) / T - a * (ws.take i).sum / T) := by
  have hl : i < (dealL a T 0 ws).length := by rw [dealL_len]; exact hi
  have h1 := dl_take a T ws 0 (i + 1)
  have h2 := dl_take a T ws 0 i
  rw [MirD.take_succ_sum hl, MirD.take_succ_sum hi, h2] at h1
  rw [List.getElem?_eq_getElem hl]
  simp only [Int.zero_add] at h1
  exact congrArg some (by omega)
theorem l3_eq {a : Int} {ws : List Int} (hw : ∀ w ∈ ws, 0 ≤ w) (t0 : 0 < ws.sum) (t1 : ws.sum ≤ 41000000000) (ha : a.natAbs < 2 ^ 250) (hl : ws.length ≤ 41) {i : Nat} (hi : i < ws.length) : g_law_k04_l3 (.ow (.lst (ws.map D.int))) (.fz (.int a)) (.fz (.int ws.sum)) (.ow (.lst ((dealL a ws.sum 0 ws).map D.int))) (.int ((i + 1 : Nat) : Int)) () S = .ok (.nx ()) S := by
  have B : (2 : Nat) ^ 300 > 41000000000 := by decide
  have tk : ∀ k, 0 ≤ (ws.take k).sum ∧ (ws.take k).sum ≤ ws.sum := fun k => ⟨sum_nn fun w h => hw w (List.mem_of_mem_take h), MirD.sum_take_le hw k⟩
  have c1 : cutD ((dealL a ws.sum 0 ws).map D.int) none (some ((i + 1 : Nat) : Int)) = ((dealL a ws.sum 0 ws).take (i + 1)).map D.int := by rw [cutD_take, List.map_take]
  have c2 : cutD (ws.map D.int) none (some ((i + 1 : Nat) : Int)) = (ws.take (i + 1)).map D.int := by rw [cutD_take, List.map_take]
  have dt := dl_take a ws.sum ws 0 (i + 1)
  rw [Int.zero_add, Int.mul_zero, Int.zero_ediv, Int.sub_zero] at dt
  obtain ⟨k0, k1⟩ := tk (i + 1)
  obtain ⟨j0, j1⟩ := tk i
  have sb : (ws.take (i + 1)).sum.natAbs < 2 ^ 300 := by generalize (2 : Nat) ^ 300 = z at *; omega
  have tb : ws.sum.natAbs < 2 ^ 300 := by generalize (2 : Nat) ^ 300 = z at *; omega
  have pe := part_eq (S := S) (a := a) (p := (ws.take (i + 1)).sum) (w := ws.sum) (mulOk_b 300 300 (Nat.lt_trans ha (by decide)) sb (by decide) (by decide) (by decide)) (divOk_b 300 t0 tb (by decide) (by decide))
  have at1 : atD ((dealL a ws.sum 0 ws).map D.int) ((i : Nat) : Int) = some (.int (a * ((ws.take i).sum + ws[i]) / ws.sum - a * (ws.take i).sum / ws.sum)) := atD_nat (by rw [List.getElem?_map, dl_at a ws.sum ws hi]; rfl)
  have at2 : atD (ws.map D.int) ((i : Nat) : Int) = some (.int ws[i]) := atD_nat (by rw [List.getElem?_map, List.getElem?_eq_getElem hi]; rfl)
  have w0 := hw ws[i] (List.getElem_mem hi)
  have ts := MirD.take_succ_sum hi
  obtain ⟨sh, es⟩ : ∃ sh, sh = a * ((ws.take i).sum + ws[i]) / ws.sum - a * (ws.take i).sum / ws.sum := ⟨_, rfl⟩
  obtain ⟨bs, _, _⟩ := share_b t0 j0 w0 (by omega) es ha
  rw [← es] at at1
  have ei : ((i + 1 : Nat) : Int) - 1 = (i : Nat) := by omega
  have d2 : divOk ws[i] 2 = true := divOk_s (by decide) (by decide)
  by_cases h : 0 < ws[i]
  · have hs : [ws[i] / 2, ws[i] - ws[i] / 2].sum = ws[i] := by simp; omega
    have de := dealt_eq (S := S) (a := sh) (ws := [ws[i] / 2, ws[i] - ws[i] / 2]) (b_up bs) (fun w hw => by
      rcases List.mem_cons.mp hw with rfl | hw
      · omega
      · rw [List.mem_singleton.mp hw]; omega) (by rw [hs]; exact h) (by rw [hs]; generalize (2 : Nat) ^ 300 = z at *; omega) (by show 2 ≤ 1000000; decide)
    rw [hs] at de
    have ds := dl_sum sh h hs
    have eb : ([ws[i] / 2, ws[i] - ws[i] / 2] : List Int).map D.int = [.int (ws[i] / 2), .int (ws[i] - ws[i] / 2)] := rfl
    rw [eb] at de
    have hd : decide (0 < ws[i]) = true := decide_eq_true h
    simp -implicitDefEqProofs only [g_law_k04_l3, x_ift, x_bin, x_bnd, x_consB, x_sl, x_fzno, s_frz2, x_rd, x_pur, bindR_ok, x_part, s_prtW, s_slF, c1, c2, s_sum2, s_ints, s_sumO, x_call, x_cons, x_rdD, x_fz, s_frz1, pe, s_notM, s_eqI, dt, decide_true, Bool.not_true, Bool.false_eq_true, if_false, s_sub, ei, s_ixF, at1, at2, s_gotW, x_bnO, x_and, s_gt, hd, if_true, x_lst, s_div, d2, List.length_cons, List.length_nil, Nat.zero_add, Nat.reduceAdd, show szOk 2 = true from rfl, de, ds, x_onO]
  · have hd : decide (0 < ws[i]) = false := decide_eq_false h
    simp -implicitDefEqProofs only [g_law_k04_l3, x_ift, x_bin, x_bnd, x_consB, x_sl, x_fzno, s_frz2, x_rd, x_pur, bindR_ok, x_part, s_prtW, s_slF, c1, c2, s_sum2, s_ints, s_sumO, x_call, x_cons, x_rdD, x_fz, s_frz1, pe, s_notM, s_eqI, dt, decide_true, Bool.not_true, Bool.false_eq_true, if_false, s_sub, ei, s_ixF, at1, at2, s_gotW, x_bnO, x_and, s_gt, hd, x_onO]
theorem mul_deal (a T t : Int) (t0 : 0 < t) : ∀ (ws : List Int) (ah : Int), dealL a (T * t) (ah * t) (ws.map (· * t)) = dealL a T ah ws
  | [], _ => rfl
  | w :: r, ah => by
    have e : ∀ x, a * (x * t) / (T * t) = a * x / T := fun x => by rw [← Int.mul_assoc, Int.mul_ediv_mul_of_pos_left _ _ t0]
    rw [List.map_cons, dealL, dealL, ← Int.add_mul, mul_deal a T t t0 r, e, e]
theorem mul_sum (t : Int) : ∀ ws : List Int, (ws.map (· * t)).sum = ws.sum * t
  | [] => by simp
  | w :: r => by rw [List.map_cons, List.sum_cons, List.sum_cons, mul_sum t r, Int.add_mul]
theorem eqI (X : List Int) : opEq (.ow (.lst (X.map D.int))) (.ow (.lst (X.map D.int))) S = .ok true S := by rw [s_eqOOi, decide_eq_true rfl]
theorem eqIF (X : List Int) : opEq (.ow (.lst (X.map D.int))) (.fz (.lst (X.map D.int))) S = .ok true S := by rw [s_eqOFi, decide_eq_true rfl]
theorem srtset_eq (ns : List Int) (h : ns.length < 64) : opSrtSet (.ow (.lst (ns.map D.int))) S = .ok (.ow (.lst ((setU ns).map D.int))) S := by
  have e : setLO S (.ow (.lst (ns.map D.int))) = some ns := by
    unfold setLO
    show (match intsD (ns.map D.int) with
      | some ns => if ns.length < 4000 then some ns else none
      | none => none) = _
    rw [intsD_map]
    dsimp only
    rw [if_pos (by omega)]
  unfold opSrtSet
  rw [e]
  dsimp only
  rw [if_pos h]
theorem law_true (ns : List Int) (h1 : ns.length ≤ 63) (_ : ∀ z ∈ ns, Builtin.Int.intBits z ≤ 1048576) : ∃ S', f_law_k04 [.scr ns] [] = .ok (.fz (.bl true)) S' := by
  have B : (2 : Nat) ^ 300 > 100000000000000 := by decide
  have ce := cellsk_eq (S := []) ns h1
  have cl := MirC.cells_len ns
  have ct1 := cell_atk_eq (S := []) ns 1
  have ct2 := cell_atk_eq (S := []) ns 2
  have ct1 : f_cell_at_k02 [.scr ns, .int 1] [] = .ok (.fz (.int (ns.getD 1 0))) [] := ct1
  have ct2 : f_cell_at_k02 [.scr ns, .int 2] [] = .ok (.fz (.int (ns.getD 2 0))) [] := ct2
  obtain ⟨C, eC⟩ : ∃ C, C = MirC.cells ns := ⟨_, rfl⟩
  have cut40 : cutD (C.map D.int) none (some 40) = (C.take 40).map D.int := by rw [List.map_take]; exact cutD_take 40
  have cut9 : cutD (C.map D.int) none (some 9) = (C.take 9).map D.int := by rw [List.map_take]; exact cutD_take 9
  rw [← eC] at ce cl
  obtain ⟨ws, ew⟩ : ∃ ws, ws = wsK ns := ⟨_, rfl⟩
  have wb := wsK_b ns
  have wl := wsK_len ns
  obtain ⟨t0, t1⟩ := wsK_sum ns
  rw [← ew] at wb wl t0 t1
  have w0 : ∀ w ∈ ws, 0 ≤ w := fun w h => (wb w h).1
  have lp : 0 < ws.length := by
    rw [ew]
    exact Nat.succ_pos _
  have lp1 := l1_eq (S := []) (C.take 40) [1] (by show 1 + (C.take 40).length ≤ 1000; rw [List.length_take]; omega)
  have e1 : [1] ++ (C.take 40).map wt = ws := by rw [ew, wsK, eC]; rfl
  rw [e1] at lp1
  have lp1 : forD g_law_k04_l1 ((C.take 40).map D.int) (.ow (.lst [.int 1])) [] = _ := lp1
  obtain ⟨a, ea⟩ : ∃ a, a = amt ns := ⟨_, rfl⟩
  have ab := amt_b ns
  rw [← ea] at ab
  have am : dBin opMul (dBin opSub2 (dBin opAdd (rd (.ow (.lst (C.map D.int)))) (dLst (pur [(D.int 100)]))) (pur (Wv.fz (D.int 0)))) (dBin opSub2 (dLst (dCons (pur (D.int 1)) (dCons (dFz (opNeg (Wv.fz (D.int 1)))) (pur [])))) (dBin opMod (f_cell_at_k02 [.scr ns, .int 2]) (pur (Wv.fz (D.int 2))))) [] = .ok (.fz (.int a)) [] := by
    have sz : szOk ((C.map D.int).length + 1) = true := szOk_le (by rw [List.length_map]; omega)
    have hd : atD (C.map D.int ++ [D.int 100]) 0 = some (.int (hdC ns)) := by
      unfold hdC
      rw [← eC]
      cases C with
      | nil => exact atD_nat (n := 0) rfl
      | cons c r => exact atD_nat (n := 0) rfl
    have o2 : modOk (ns.getD 2 0) 2 = true := modOk_p (by decide)
    have m1 : ∀ x, mulOk x 1 = true := fun x => mulOk_r (by decide) (by decide)
    have m2 : ∀ x, mulOk x (-1) = true := fun x => mulOk_r (by decide) (by decide)
    rw [ea]
    unfold amt
    by_cases h : ns.getD 2 0 % 2 = 1
    · have i1 : atD [D.int 1, D.int (-1)] 1 = some (.int (-1)) := atD_nat (n := 1) rfl
      rw [if_pos h]
      simp -implicitDefEqProofs only [x_bin, x_rdo, x_lst, x_pur, bindR_ok, List.length_cons, List.length_nil, Nat.zero_add, Nat.reduceAdd, show szOk 1 = true from rfl, show szOk 2 = true from rfl, if_true, s_addLL, sz, s_ixO, hd, s_gotW, x_cons, x_fz, s_neg, s_frz1, ct2, s_mod, o2, h, i1, s_mul, m2]
    · have h0 : ns.getD 2 0 % 2 = 0 := by omega
      have i1 : atD [D.int 1, D.int (-1)] 0 = some (.int 1) := atD_nat (n := 0) rfl
      rw [if_neg h]
      simp -implicitDefEqProofs only [x_bin, x_rdo, x_lst, x_pur, bindR_ok, List.length_cons, List.length_nil, Nat.zero_add, Nat.reduceAdd, show szOk 1 = true from rfl, show szOk 2 = true from rfl, if_true, s_addLL, sz, s_ixO, hd, s_gotW, x_cons, x_fz, s_neg, s_frz1, ct2, s_mod, o2, h0, i1, s_mul, m1]
  have tb : ws.sum.natAbs < 2 ^ 300 := by generalize (2 : Nat) ^ 300 = z at *; omega
  have a300 : a.natAbs < 2 ^ 300 := Nat.lt_trans ab (by decide)
  have de := dealt_eq (S := []) a300 w0 t0 tb (by omega)
  have nw : noLstW (.ow (.lst ((dealL a ws.sum 0 ws).map D.int))) = true := noLsts_int _
  have zp : zipD ((dealL a ws.sum 0 ws).map D.int) (ws.map D.int) = ((dealL a ws.sum 0 ws).zip ws).map fun p : Int × Int => D.tup [.int p.1, .int p.2] := by
    generalize dealL a ws.sum 0 ws = X
    unfold zipD
    rw [List.zipWith_map, List.zip, List.map_zipWith]
  obtain ⟨u2, lp2, _⟩ := forO_inv (S := []) (body := g_law_k04_l2 (.fz (.int a)) (.fz (.int ws.sum))) (fun p : Int × Int => D.tup [.int p.1, .int p.2]) (fun r _ => ∀ p ∈ r, p ∈ (dealL a ws.sum 0 ws).zip ws) (fun p r s i => by
    obtain ⟨h, z0, z1, z2, z3⟩ := dl_zip a ws.sum ws 0 w0 (Int.le_refl _) (by omega) p (i p List.mem_cons_self)
    exact ⟨(), l2_eq t0 t1 ab ⟨h, z0, z1, z2, z3⟩, fun q hq => i q (List.mem_cons_of_mem p hq)⟩) ((dealL a ws.sum 0 ws).zip ws) () fun _ h => h
  have lc := lcS_map (S := []) (f := fun cell_28 => lcStep (pur true) (dFz (dBin opAdd (pur (Wv.fz (D.int 1))) (dBin opMod (pur (Wv.fz cell_28)) (bnd (dConsB (rd (.fz (.lst (ws.map D.int)))) (pur [])) bLen))))) (g := fun c : Int => D.int (1 + c % (ws.length : Int))) D.int (C.take 9) (fun c _ => by
    have oL : modOk c (ws.length : Int) = true := modOk_p (by omega)
    simp -implicitDefEqProofs [oL]) (by rw [List.length_take]; omega)
  obtain ⟨ms, em⟩ : ∃ ms, ms = (C.take 9).map fun c : Int => 1 + c % (ws.length : Int) := ⟨_, rfl⟩
  have f1 : ((C.take 9).map fun c : Int => D.int (1 + c % (ws.length : Int))) = ms.map D.int := by rw [em, List.map_map]; rfl
  rw [f1] at lc
  have ml : ms.length ≤ 9 := by rw [em, List.length_map, List.length_take]; omega
  have ss := srtset_eq (S := []) ms (by omega)
  have cb : ∀ c ∈ setU ms, 1 ≤ c ∧ c ≤ ws.length := fun c hc => by
    have hc := mem_setU.mp hc
    rw [em] at hc
    obtain ⟨x, _, rfl⟩ := List.mem_map.mp hc
    have i0 := Int.emod_nonneg x (show (ws.length : Int) ≠ 0 by omega)
    have i1 := Int.emod_lt_of_pos x (show (0 : Int) < (ws.length : Int) by omega)
    omega
  obtain ⟨cs, ec⟩ : ∃ cs, cs = setU ms := ⟨_, rfl⟩
  have cl2 : cs.length ≤ 100 := by
    have := setU_len_le ms
    rw [ec]
    omega
  have pw : (0 :: (cs ++ [(ws.length : Int)])).Pairwise (· ≤ ·) := by
    refine List.pairwise_cons.mpr ⟨fun c hc => ?_, List.pairwise_append.mpr ⟨?_, List.pairwise_singleton _ _, fun c hc d hd => ?_⟩⟩
    · rcases List.mem_append.mp hc with hc | hc
      · have := cb c (ec ▸ hc)
        omega
      · rw [List.mem_singleton.mp hc]
        omega
    · rw [ec]
      exact (setU_up ms).imp fun q => Int.le_of_lt q
    · rw [List.mem_singleton.mp hd]
      exact (cb c (ec ▸ hc)).2
  rw [← ec] at ss
  have jw := joined_eq (S := []) ws cs pw cl2
  have dl : (dealL a ws.sum 0 ws).length = ws.length := dealL_len _ _ _ _
  have js := joined_eq (S := []) (dealL a ws.sum 0 ws) cs (by rw [dl]; exact pw) cl2
  rw [dl] at js
  obtain ⟨cs', ec'⟩ : ∃ cs', cs' = cs ++ [(ws.length : Int)] := ⟨_, rfl⟩
  have sj : (jn ws 0 cs').sum = ws.sum := by
    rw [ec', jn_sum]
    simp
  rw [← ec'] at jw js pw
  have dj := dealt_eq (S := []) (ws := jn ws 0 cs') a300 (jn_nn w0 cs' 0 pw) (by rw [sj]; exact t0) (by rw [sj]; exact tb) (by rw [jn_len, ec', List.length_append, List.length_singleton]; omega)
  have jd := jn_deal a ws.sum ws cs' 0
  have jd : dealL a ws.sum 0 (jn ws 0 cs') = jn (dealL a ws.sum 0 ws) 0 cs' := jd
  rw [sj, jd] at dj
  obtain ⟨t, et⟩ : ∃ t, t = 1 + ns.getD 1 0 % 1000 := ⟨_, rfl⟩
  have tp : 0 < t ∧ t ≤ 1000 := by
    have i0 := Int.emod_nonneg (ns.getD 1 0) (show (1000 : Int) ≠ 0 by decide)
    have i1 := Int.emod_lt_of_pos (ns.getD 1 0) (show (0 : Int) < 1000 by decide)
    omega
  have lc2 := lcS_map (S := []) (f := fun weight_31 => lcStep (pur true) (dFz (dBin opMul (pur (Wv.fz weight_31)) (rd (.fz (.int t)))))) (g := fun w : Int => D.int (w * t)) D.int ws (fun w _ => by
    have m : mulOk w t = true := mulOk_r (by omega) (by omega)
    simp -implicitDefEqProofs [m]) (by omega)
  have f2 : (ws.map fun w : Int => D.int (w * t)) = (ws.map (· * t)).map D.int := by rw [List.map_map]; rfl
  rw [f2] at lc2
  have st : 0 < ws.sum * t ∧ ws.sum * t ≤ 41000000000 * 1000 := ⟨Int.mul_pos t0 tp.1, Int.mul_le_mul t1 tp.2 (by omega) (by decide)⟩
  have dm := dealt_eq (S := []) (ws := ws.map (· * t)) a300 (fun w hw => by
    obtain ⟨x, hx, rfl⟩ := List.mem_map.mp hw
    exact Int.mul_nonneg (w0 x hx) (by omega)) (by rw [mul_sum]; exact st.1) (by rw [mul_sum]; generalize (2 : Nat) ^ 300 = z at *; omega) (by rw [List.length_map]; omega)
  have md := mul_deal a ws.sum t tp.1 ws 0
  rw [Int.zero_mul] at md
  rw [mul_sum, md] at dm
  have r2 : rng2 [.int 1, .int ((ws.length : Int) + 1)] [] = .ok ((List.range ws.length).map fun i : Nat => D.int (1 + (i : Nat))) [] := by
    rw [s_rng2, rngOk_s (by omega) (by omega), rngOk_s (by omega) (by omega)]
    have : ((ws.length : Int) + 1 - 1).toNat = ws.length := by omega
    rw [this]
    rfl
  obtain ⟨u3, lp3, _⟩ := forO_inv (S := []) (body := g_law_k04_l3 (.ow (.lst (ws.map D.int))) (.fz (.int a)) (.fz (.int ws.sum)) (.ow (.lst ((dealL a ws.sum 0 ws).map D.int)))) (fun i : Nat => D.int (1 + (i : Nat))) (fun r _ => ∀ i ∈ r, i < ws.length) (fun i r s h => by
    have l3 := l3_eq (S := []) w0 t0 t1 ab wl (h i List.mem_cons_self)
    rw [show ((i + 1 : Nat) : Int) = 1 + (i : Nat) by omega] at l3
    exact ⟨(), l3, fun q hq => h q (List.mem_cons_of_mem i hq)⟩) (List.range ws.length) () fun i hi => List.mem_range.mp hi
  have o1000 : modOk (ns.getD 1 0) 1000 = true := modOk_p (by decide)
  refine ⟨[], ?_⟩
  rw [c_law_k04]
  simp -implicitDefEqProofs only [g_law_k04, x_bnd, ce, x_lst, x_pur, bindR_ok, List.length_cons, List.length_nil, Nat.zero_add, show szOk 1 = true from rfl, if_true, x_items, x_fz, x_sl, x_rdo, x_part, s_prtW, s_slO, cut40, s_frz2, s_itD1, s_itO, lp1]
  simp -implicitDefEqProofs only [am, bindR_ok, x_bnd, x_consB, x_rdo, x_pur, s_sum2, s_ints, s_sumO, x_lend, x_call, x_cons, x_rdD, de, x_lendR, nw, noLstS_nil, Bool.and_self, if_true, x_bnT, x_fzno, s_frz2, s_zipO, zp, lp2, x_onT, x_un, x_items, x_fz, x_sl, x_part, s_prtW, s_slO, cut9, s_itD1, s_itO, lc, ss, x_ift, x_bin, jw, dj, js, s_notM, eqI, Bool.not_true, Bool.false_eq_true, if_false, ct1, s_mod, o1000, s_add, ← et]
  simp -implicitDefEqProofs only [lc2, s_frz2, bindR_ok, dm, x_rd, eqIF, Bool.not_true, Bool.false_eq_true, if_false, x_bnT, x_bnd, x_cons, x_fz, x_bin, x_consB, x_pur, s_len1, List.length_map, s_add, s_frz1, r2, lp3, x_onT]
end L_k04_whole_dealt
set_option Elab.async false
set_option linter.all false
namespace L_k04_whole_dealt
open PySem L2 Mir G
theorem law_end {T : Tx} {H : Hp} {a : Addr} {ns : List Int} (h1 : ns.length ≤ 63) (h2 : ∀ z ∈ ns, Builtin.Int.intBits z ≤ 1048576) (hO : Only H) (hS : SqL T.K H a (ns.map V.int)) : spF T 1 f_law_k04 [.ref a] H (fun v _ => v = .bl true) fun _ _ _ => False := law_sp hO hS (law_true ns h1 h2)
end L_k04_whole_dealt
open PySem PySem.W PyProof.Rows
set_option maxRecDepth 100000 in
set_option maxHeartbeats 0 in
theorem PySem.Challenge.cw_lotledger_k04_whole_dealt_holds : PySem.Challenge.rw_lotledger_k04_whole_dealt.Holds := by
  w_on; o_law; k_head; (case hw => w_witness2)
  k_fill
  refine L2.walk_ofB (l := PySem.Challenge.rw_lotledger_k04_whole_dealt) (n := 63) (k := 3) (x := "_law_script") (CX := fun w => L2.CX PySem.Challenge.rw_lotledger_k04_whole_dealt.prog w) (sp := fun w => Mir.spF (Mir.txOf _ G.cnames) 1 G.f_law_k04) rfl (by decide) rfl ⟨rfl, by decide, by decide⟩ (fun w h Y => PySem.W.kIn_of Y) ?F (fun _ _ a ns hl hb hO hS => L_k04_whole_dealt.law_end hl hb hO hS) (fun _ _ _ _ _ h => Mir.cx_end h)
  case F =>
    intro w mg fa h KX G hmg
    refine' L_k04_whole_dealt.all_mk KX G hmg ?F__law_cell_at ?F__law_mixed ?F__law_cells ?F__law_digits ?F__law_joined ?F_part_of ?F_dealt ?F_law ?Z_len ?Z_max ?Z_min ?Z_range ?Z_set ?Z_sorted ?Z_sum ?Z_zip  ?N_NoWeights ?A_NoWeights
    (case F__law_cell_at => (refine' Mir.fn_fact ?a ?l ?c ?k; (case a => k_is); (case l => k_is); (case c => k_is); (case k => k_is)))
    (case F__law_mixed => (refine' Mir.fn_fact ?a ?l ?c ?k; (case a => k_is); (case l => k_is); (case c => k_is); (case k => k_is)))
    (case F__law_cells => (refine' Mir.fn_fact ?a ?l ?c ?k; (case a => k_is); (case l => k_is); (case c => k_is); (case k => k_is)))
    (case F__law_digits => (refine' Mir.fn_fact ?a ?l ?c ?k; (case a => k_is); (case l => k_is); (case c => k_is); (case k => k_is)))
    (case F__law_joined => (refine' Mir.fn_fact ?a ?l ?c ?k; (case a => k_is); (case l => k_is); (case c => k_is); (case k => k_is)))
    (case F_part_of => (refine' Mir.fn_fact ?a ?l ?c ?k; (case a => k_is); (case l => k_is); (case c => k_is); (case k => k_is)))
    (case F_dealt => (refine' Mir.fn_fact ?a ?l ?c ?k; (case a => k_is); (case l => k_is); (case c => k_is); (case k => k_is)))
    (case F_law => (refine' Mir.fn_fact ?a ?l ?c ?k; (case a => k_is); (case l => k_is); (case c => k_is); (case k => k_is)))
    (case Z_len => k_is)
    (case Z_max => k_is)
    (case Z_min => k_is)
    (case Z_range => k_is)
    (case Z_set => k_is)
    (case Z_sorted => k_is)
    (case Z_sum => k_is)
    (case Z_zip => k_is)
    (case N_NoWeights => k_is)
    (case A_NoWeights => (refine' ⟨?a, ?b, ?c, ?d⟩; (case a => k_exc); (case b => k_is); (case c => k_is); (case d => k_is)))
