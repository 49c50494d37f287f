import PyProof.Rows.All
import Wide.All
import OpenK.AllK
import Wide.FinOn
import HandS.ForMost
import HandS.ForExc
import HandS.Lambda
import HandS.Wide
import HandS.Steps
import HandS.DictEq
import HandS.Dict
import HandS.Deep
import HandS.Iter
import HandS.IsInst
import HandS.Text
import HandS.TupAny
import HandS.EndBits
import HandS.ExcIs
import HandS.ExcField
import KE.KExcIs
import HandS.ClsMeth
import HandS.ExcInit
import HandS.TupSets
import HandS.SortInts
import HandS.AnyAll
import HandS.More
import HandS.Style
import HandS.New
import KE.SortData
import HandS.DeepEq
import HandS.OwnIter
import KE.SortKeyHeap
import HandS.SortKw
import HandS.TupLe
import HandS.SetFor
import KE.DataFind
import HandS.Nested
import HandS.EndTab
import KE.GoesEnum
import HandS.Defaults
import HandS.TryOnly
import HandS.SetKeys
import HandS.Replace
import HandS.RaiseMore
import HandS.Flt
import HandS.Finally
import HandS.MakeKw
import PyProof.FitsInt
import PySem.Challenge.RW_lotledger_k10_entries_made
set_option Elab.async false
set_option linter.all false
set_option maxRecDepth 100000
namespace Mir
theorem len1_ {α : Type} {us : List α} (h : us.length = 1) : ∃ (a0 : α), us = [a0] := by
  match us, h with
  | [a0], _ => exact ⟨a0, rfl⟩
theorem len2_ {α : Type} {us : List α} (h : us.length = 2) : ∃ (a0 a1 : α), us = [a0, a1] := by
  match us, h with
  | [a0, a1], _ => exact ⟨a0, a1, rfl⟩
theorem len3_ {α : Type} {us : List α} (h : us.length = 3) : ∃ (a0 a1 a2 : α), us = [a0, a1, a2] := by
  match us, h with
  | [a0, a1, a2], _ => exact ⟨a0, a1, a2, rfl⟩
theorem len4_ {α : Type} {us : List α} (h : us.length = 4) : ∃ (a0 a1 a2 a3 : α), us = [a0, a1, a2, a3] := by
  match us, h with
  | [a0, a1, a2, a3], _ => exact ⟨a0, a1, a2, a3, rfl⟩
theorem len5_ {α : Type} {us : List α} (h : us.length = 5) : ∃ (a0 a1 a2 a3 a4 : α), us = [a0, a1, a2, a3, a4] := by
  match us, h with
  | [a0, a1, a2, a3, a4], _ => exact ⟨a0, a1, a2, a3, a4, rfl⟩
theorem len6_ {α : Type} {us : List α} (h : us.length = 6) : ∃ (a0 a1 a2 a3 a4 a5 : α), us = [a0, a1, a2, a3, a4, a5] := by
  match us, h with
  | [a0, a1, a2, a3, a4, a5], _ => exact ⟨a0, a1, a2, a3, a4, a5, rfl⟩
theorem len7_ {α : Type} {us : List α} (h : us.length = 7) : ∃ (a0 a1 a2 a3 a4 a5 a6 : α), us = [a0, a1, a2, a3, a4, a5, a6] := by
  match us, h with
  | [a0, a1, a2, a3, a4, a5, a6], _ => exact ⟨a0, a1, a2, a3, a4, a5, a6, rfl⟩
theorem len8_ {α : Type} {us : List α} (h : us.length = 8) : ∃ (a0 a1 a2 a3 a4 a5 a6 a7 : α), us = [a0, a1, a2, a3, a4, a5, a6, a7] := by
  match us, h with
  | [a0, a1, a2, a3, a4, a5, a6, a7], _ => exact ⟨a0, a1, a2, a3, a4, a5, a6, a7, rfl⟩
end Mir
namespace Mir
open PySem PySem.Spec PyProof.Rows L2
inductive D where
  | non | bl (b : Bool) | int (i : Int) | str (x : Str)
  | tup (xs : List D) | lst (xs : List D) | dct (kvs : List (Key × D))
  | ins (c : Nat) (fs : List (Str × D)) | ref (n : Nat) | scr (ns : List Int)
inductive SO where
  | lst (xs : List D) | dct (kvs : List (Key × D)) | ins (c : Nat) (fs : List (Str × D))
inductive Wv where
  | fz (d : D) | ow (o : SO) | xc
noncomputable abbrev SV := List (Option V)
noncomputable abbrev Store := List SO
noncomputable abbrev Xn := Nat × Option (Str × Int)
inductive R (α : Type) where
  | ok (a : α) (S : Store) | ex (x : Xn) (S : Store) | bad
noncomputable abbrev M (α : Type) := Store → R α
noncomputable abbrev Env := List (Option Wv)
inductive RS where
  | nx (ds : Env) (S : Store) | rt (w : Wv) (S : Store) | bk (ds : Env) (S : Store) | ct (ds : Env) (S : Store) | ex (x : Xn) (ds : Env) (S : Store) | bad
noncomputable abbrev CE := Env → M Wv
noncomputable abbrev CS := Env → Store → RS
structure Tx where
  K : PySem.W.Frag
  cls : Nat → Addr
  /-- within an except suite: the error's address, what is known of its dict -/
  xa : Addr := 0
  lean : Addr → HO → Prop := fun _ _ => False
  /-- the tables of code objects that lambdas are made by, and the name that their code bears -/
  tabs : List (Addr × Str) := []
structure Gh where
  io : List Addr
  L : Addr → Prop
noncomputable def KL (K : PySem.W.Frag) (a : Addr) (xs : List V) : Prop := ∃ (o : Obj) (its : Array Value) (n : Nat), K.lookup a = some o ∧ o.cls = .type "list" ∧ o.dict = none ∧ o.data = .seq its n ∧ its.size ≤ sizeLine ∧ Vals xs its.toList
noncomputable def FzL (K : PySem.W.Frag) (g : Gh) (H : Hp) (a : Addr) (xs : List V) : Prop := (Rd H a (.lst xs) ∧ ¬ g.L a) ∨ KL K a xs
mutual
inductive Rep (T : Tx) (g : Gh) (H : Hp) : D → V → Prop
  | non : Rep T g H .non .non
  | bl (b : Bool) : Rep T g H (.bl b) (.bl b)
  | int (i : Int) : Rep T g H (.int i) (.int i)
  | str (x : Str) : Rep T g H (.str x) (.str x)
  | tup {a : Addr} {ds : List D} {vs : List V} : H a = some (.tup vs) → ¬ g.L a → Reps T g H ds vs → Rep T g H (.tup ds) (.ref a)
  | lst {a : Addr} {ds : List D} {vs : List V} : H a = some (.lst vs) → ¬ g.L a → Reps T g H ds vs → Rep T g H (.lst ds) (.ref a)
  | scr {a : Addr} {ns : List Int} : FzL T.K g H a (ns.map V.int) → Rep T g H (.scr ns) (.ref a)
  | dct {a : Addr} {o : Obj} {ds : List (Key × D)} {vs : List (Key × V)} : H a = some (.frz o (.dK vs)) → ¬ g.L a → RepK T g H ds vs → Rep T g H (.dct ds) (.ref a)
  | ins {a dx : Addr} {c : Nat} {ds : List (Str × D)} {vs : List (Str × V)} : H a = some (.ins (T.cls c) dx vs) → ¬ g.L a → RepF T g H ds vs → Rep T g H (.ins c ds) (.ref a)
  | ref {n : Nat} {a : Addr} : g.io[n]? = some a → Rep T g H (.ref n) (.ref a)
inductive Reps (T : Tx) (g : Gh) (H : Hp) : List D → List V → Prop
  | nil : Reps T g H [] []
  | cons {d : D} {v : V} {ds : List D} {vs : List V} : Rep T g H d v → Reps T g H ds vs → Reps T g H (d :: ds) (v :: vs)
inductive RepK (T : Tx) (g : Gh) (H : Hp) : List (Key × D) → List (Key × V) → Prop
  | nil : RepK T g H [] []
  | cons {k : Key} {d : D} {v : V} {ds : List (Key × D)} {vs : List (Key × V)} : Rep T g H d v → RepK T g H ds vs → RepK T g H ((k, d) :: ds) ((k, v) :: vs)
inductive RepF (T : Tx) (g : Gh) (H : Hp) : List (Str × D) → List (Str × V) → Prop
  | nil : RepF T g H [] []
  | cons {k : Str} {d : D} {v : V} {ds : List (Str × D)} {vs : List (Str × V)} : Rep T g H d v → RepF T g H ds vs → RepF T g H ((k, d) :: ds) ((k, v) :: vs)
end
structure Fix (g : Gh) (H : Hp) (g' : Gh) (H' : Hp) : Prop where
  pre : ∃ t, g'.io = g.io ++ t
  kp : ∀ a o, H a = some o → ¬ g.L a → H' a = some o ∧ ¬ g'.L a
theorem Fix.refl (g : Gh) (H : Hp) : Fix g H g H := ⟨⟨[], by simp⟩, fun _ _ h n => ⟨h, n⟩⟩
theorem Fix.trans {g g' g'' : Gh} {H H' H'' : Hp} (a : Fix g H g' H') (b : Fix g' H' g'' H'') : Fix g H g'' H'' := by
  refine ⟨?_, fun x o h n => ?_⟩
  · obtain ⟨t, e⟩ := a.pre
    obtain ⟨u, e'⟩ := b.pre
    exact ⟨t ++ u, by rw [e', e, List.append_assoc]⟩
  · obtain ⟨h1, n1⟩ := a.kp x o h n
    exact b.kp x o h1 n1
theorem Fix.io {g g' : Gh} {H H' : Hp} (f : Fix g H g' H') {n : Nat} {a : Addr} (h : g.io[n]? = some a) : g'.io[n]? = some a := by
  obtain ⟨t, e⟩ := f.pre
  rw [e, List.getElem?_append_left]
  · exact h
  · exact (List.getElem?_eq_some_iff.mp h).1
section
variable {T : Tx} {g g' : Gh} {H H' : Hp}
theorem Fix.rd (f : Fix g H g' H') {a : Addr} {u : HO} (h : Rd H a u) (n : ¬ g.L a) : Rd H' a u ∧ ¬ g'.L a := by
  rcases h with h | ⟨o, h⟩
  · exact ⟨.inl (f.kp _ _ h n).1, (f.kp _ _ h n).2⟩
  · exact ⟨.inr ⟨o, (f.kp _ _ h n).1⟩, (f.kp _ _ h n).2⟩
theorem Fix.fzl (f : Fix g H g' H') {a : Addr} {xs : List V} (h : FzL T.K g H a xs) : FzL T.K g' H' a xs := by
  rcases h with ⟨h, n⟩ | h
  · exact .inl (f.rd h n)
  · exact .inr h
mutual
theorem Rep.fix (f : Fix g H g' H') : ∀ {d : D} {v : V}, Rep T g H d v → Rep T g' H' d v
  | _, _, .non => .non
  | _, _, .bl b => .bl b
  | _, _, .int i => .int i
  | _, _, .str x => .str x
  | _, _, .tup h n r => .tup (f.kp _ _ h n).1 (f.kp _ _ h n).2 (Reps.fix f r)
  | _, _, .lst h n r => .lst (f.kp _ _ h n).1 (f.kp _ _ h n).2 (Reps.fix f r)
  | _, _, .scr h => .scr (f.fzl h)
  | _, _, .dct h n r => .dct (f.kp _ _ h n).1 (f.kp _ _ h n).2 (RepK.fix f r)
  | _, _, .ins h n r => .ins (f.kp _ _ h n).1 (f.kp _ _ h n).2 (RepF.fix f r)
  | _, _, .ref h => .ref (f.io h)
theorem Reps.fix (f : Fix g H g' H') : ∀ {ds : List D} {vs : List V}, Reps T g H ds vs → Reps T g' H' ds vs
  | _, _, .nil => .nil
  | _, _, .cons h r => .cons (Rep.fix f h) (Reps.fix f r)
theorem RepK.fix (f : Fix g H g' H') : ∀ {ds : List (Key × D)} {vs : List (Key × V)}, RepK T g H ds vs → RepK T g' H' ds vs
  | _, _, .nil => .nil
  | _, _, .cons h r => .cons (Rep.fix f h) (RepK.fix f r)
theorem RepF.fix (f : Fix g H g' H') : ∀ {ds : List (Str × D)} {vs : List (Str × V)}, RepF T g H ds vs → RepF T g' H' ds vs
  | _, _, .nil => .nil
  | _, _, .cons h r => .cons (Rep.fix f h) (RepF.fix f r)
end
end
inductive RepO (T : Tx) (g : Gh) (H : Hp) : SO → HO → Prop
  | lst {ds : List D} {vs : List V} : Reps T g H ds vs → RepO T g H (.lst ds) (.lst vs)
  | dct {ds : List (Key × D)} {vs : List (Key × V)} : RepK T g H ds vs → RepO T g H (.dct ds) (.dK vs)
  | ins {c : Nat} {dx : Addr} {ds : List (Str × D)} {vs : List (Str × V)} : RepF T g H ds vs → RepO T g H (.ins c ds) (.ins (T.cls c) dx vs)
theorem RepO.fix {T : Tx} {g g' : Gh} {H H' : Hp} (f : Fix g H g' H') {o : SO} {ho : HO} (r : RepO T g H o ho) : RepO T g' H' o ho := by
  cases r with
  | lst r => exact .lst (r.fix f)
  | dct r => exact .dct (r.fix f)
  | ins r => exact .ins (r.fix f)
noncomputable def Plain (u : HO) : Prop := (∀ ps, u ≠ .tbl ps) ∧ ∀ a q, u ≠ LamX.CodeO a q
theorem RepO.plain {T : Tx} {g : Gh} {H : Hp} {o : SO} {ho : HO} (r : RepO T g H o ho) : Plain ho := by
  cases r <;> (refine ⟨fun _ z => ?_, fun _ _ z => ?_⟩ <;> first | (cases z; done) | (unfold LamX.CodeO at z; cases z))
structure TabI (T : Tx) (g : Gh) (H : Hp) : Prop where
  lv : ∀ a ps, H a = some (.tbl ps) → g.L a
  ok : LamX.Tabs T.tabs H
theorem TabI.ghost {T : Tx} {g g' : Gh} {H : Hp} (t : TabI T g H) (h : ∀ b ps, H b = some (.tbl ps) → g.L b → g'.L b) : TabI T g' H := ⟨fun a ps e => h a ps e (t.lv a ps e), t.ok⟩
theorem TabI.upd {T : Tx} {g g' : Gh} {H : Hp} {a : Addr} {ho : HO} (t : TabI T g H) (ha : ∀ u, H a = some u → Plain u) (hn : ∀ ps, ho ≠ .tbl ps) (hL : ∀ b, b ≠ a → g.L b → g'.L b) : TabI T g' (L2.upd H a ho) := by
  refine ⟨fun b ps e => ?_, fun p hp => ?_⟩
  · by_cases q : b = a
    · subst q
      rw [upd_same] at e
      exact (hn ps (Option.some.inj e)).elim
    · rw [upd_ne q] at e
      exact hL b q (t.lv b ps e)
  · obtain ⟨ps, h1, h2, h3⟩ := t.ok p hp
    refine ⟨ps, by rw [upd_ne (show p.1 ≠ a from fun z => (ha _ (z ▸ h1)).1 ps rfl)]; exact h1, h2, fun pos cv hc => ?_⟩
    obtain ⟨c, e1, e2⟩ := h3 pos cv hc
    exact ⟨c, e1, by rw [upd_ne (show c ≠ a from fun z => (ha _ (z ▸ e2)).2 c p.2 rfl)]; exact e2⟩
theorem TabI.new {T : Tx} {g g' : Gh} {H : Hp} {a : Addr} {ho : HO} (t : TabI T g H) (ha : H a = none) (hn : ∀ ps, ho ≠ .tbl ps) (hL : ∀ b, b ≠ a → g.L b → g'.L b) : TabI T g' (L2.upd H a ho) := t.upd (fun u e => by rw [ha] at e; cases e) hn hL
structure RelS (T : Tx) (g : Gh) (S : Store) (H : Hp) : Prop where
  len : g.io.length = S.length
  nd : g.io.Nodup
  liv : ∀ a, a ∈ g.io → g.L a
  obj : ∀ (n : Nat) (o : SO) (a : Addr), S[n]? = some o → g.io[n]? = some a → ∃ ho, H a = some ho ∧ RepO T g H o ho
  tab : TabI T g H
structure Ext (g : Gh) (H : Hp) (g' : Gh) (H' : Hp) : Prop where
  pre : ∃ t, g'.io = g.io ++ t
  trk : ∀ a o, H a = some o → ∃ o', H' a = some o'
  liv : ∀ a o, H a = some o → (g'.L a ↔ g.L a)
  kp : ∀ a o, (∀ ps, o ≠ .tbl ps) → H a = some o → a ∉ g.io → H' a = some o ∧ a ∉ g'.io
theorem Ext.refl (g : Gh) (H : Hp) : Ext g H g H := ⟨⟨[], by simp⟩, fun _ o h => ⟨o, h⟩, fun _ _ _ => Iff.rfl, fun _ _ _ h n => ⟨h, n⟩⟩
theorem Ext.trans {g g' g'' : Gh} {H H' H'' : Hp} (a : Ext g H g' H') (b : Ext g' H' g'' H'') : Ext g H g'' H'' := by
  refine ⟨?_, fun x o h => ?_, fun x o h => ?_, fun x o nt h n => ?_⟩
  · obtain ⟨t, e⟩ := a.pre
    obtain ⟨u, e'⟩ := b.pre
    exact ⟨t ++ u, by rw [e', e, List.append_assoc]⟩
  · obtain ⟨o', h'⟩ := a.trk x o h
    exact b.trk x o' h'
  · obtain ⟨o', h'⟩ := a.trk x o h
    exact (b.liv x o' h').trans (a.liv x o h)
  · obtain ⟨h1, n1⟩ := a.kp x o nt h n
    exact b.kp x o nt h1 n1
theorem Ext.fix {T : Tx} {g g' : Gh} {S : Store} {H H' : Hp} (e : Ext g H g' H') (r : RelS T g S H) : Fix g H g' H' :=
  ⟨e.pre, fun a o h n => ⟨(e.kp a o (fun ps z => n (r.tab.lv a ps (z ▸ h))) h fun z => n (r.liv a z)).1, fun z => n ((e.liv a o h).mp z)⟩⟩
theorem Ext.free {g g' : Gh} {H H' : Hp} (e : Ext g H g' H') {a : Addr} (h : H' a = none) : H a = none := by
  cases q : H a with
  | none => rfl
  | some o =>
    obtain ⟨o', h'⟩ := e.trk a o q
    rw [h] at h'; cases h'
structure Own (T : Tx) (H0 : Hp) (g : Gh) (H : Hp) (so : SO) (a : Addr) : Prop where
  new : H0 a = none
  liv : g.L a
  nio : a ∉ g.io
  obj : ∃ ho, H a = some ho ∧ RepO T g H so ho
noncomputable def RepW (T : Tx) (H0 : Hp) (g : Gh) (H : Hp) : Wv → V → Prop
  | .fz d, v => Rep T g H d v
  | .ow so, v => ∃ a, v = .ref a ∧ Own T H0 g H so a
  | .xc, _ => False
noncomputable def RepX (T : Tx) (g : Gh) (H : Hp) (x : Xn) (cls : Value) (dx : Option Addr) : Prop :=
  cls = .ref (T.cls x.1) ∧ match x.2 with
    | none => dx = none
    | some (f, i) => ∃ a, dx = some a ∧ H a = some (.xd [(f, .int i)]) ∧ ¬ g.L a
structure EnvR (T : Tx) (H0 : Hp) (g : Gh) (H : Hp) (ds : Env) (σ : SV) : Prop where
  len : ds.length = σ.length
  fz : ∀ (i : Nat) (d : D), ds[i]? = some (some (.fz d)) → ∃ v, σ[i]? = some (some v) ∧ Rep T g H d v
  ow : ∀ (i : Nat) (so : SO), ds[i]? = some (some (.ow so)) → ∃ a, σ[i]? = some (some (.ref a)) ∧ Own T H0 g H so a
  ne : ∀ (i j : Nat) (so so' : SO) (a : Addr), i ≠ j → ds[i]? = some (some (.ow so)) → ds[j]? = some (some (.ow so')) → σ[i]? = some (some (.ref a)) → σ[j]? = some (some (.ref a)) → False
  xc : ∀ (i : Nat), ds[i]? = some (some .xc) → σ[i]? = some (some (.ref T.xa))
theorem Own.ext {T : Tx} {H0 : Hp} {g g' : Gh} {H H' : Hp} {S : Store} {so : SO} {a : Addr} (o : Own T H0 g H so a) (e : Ext g H g' H') (r : RelS T g S H) : Own T H0 g' H' so a := by
  obtain ⟨ho, h, p⟩ := o.obj
  exact ⟨o.new, (e.liv a ho h).mpr o.liv, (e.kp a ho p.plain.1 h o.nio).2, ho, (e.kp a ho p.plain.1 h o.nio).1, p.fix (e.fix r)⟩
theorem EnvR.ext {T : Tx} {H0 : Hp} {g g' : Gh} {H H' : Hp} {S : Store} {ds : Env} {σ : SV} (v : EnvR T H0 g H ds σ) (e : Ext g H g' H') (r : RelS T g S H) : EnvR T H0 g' H' ds σ := by
  refine ⟨v.len, fun i d h => ?_, fun i so h => ?_, v.ne, v.xc⟩
  · obtain ⟨x, hx, rx⟩ := v.fz i d h
    exact ⟨x, hx, rx.fix (e.fix r)⟩
  · obtain ⟨a, ha, oa⟩ := v.ow i so h
    exact ⟨a, ha, oa.ext e r⟩
structure Chk where
  fz : Addr → HO → Prop
  io : List Addr
structure FR (T : Tx) (g0 : Gh) (H0 : Hp) (c : Chk) (g : Gh) (H : Hp) (S : Store) (ds : Env) (σ : SV) : Prop where
  ext : Ext g0 H0 g H
  st : RelS T g S H
  env : EnvR T H0 g H ds σ
  fz : ∀ a o, c.fz a o → H a = some o ∧ ¬ g.L a
  io : ∃ t, g.io = c.io ++ t
  ln : ∀ a o, T.lean a o → H a = some o ∧ ¬ g.L a
theorem FR.on {T : Tx} {g0 g g' : Gh} {H0 H H' : Hp} {c : Chk} {S S' : Store} {ds : Env} {σ : SV} (f : FR T g0 H0 c g H S ds σ) (e : Ext g H g' H') (r : RelS T g' S' H') : FR T g0 H0 c g' H' S' ds σ := by
  refine ⟨f.ext.trans e, r, f.env.ext e f.st, fun a o h => ?_, ?_, fun a o h => (e.fix f.st).kp a o (f.ln a o h).1 (f.ln a o h).2⟩
  · obtain ⟨h1, n1⟩ := f.fz a o h
    exact (e.fix f.st).kp a o h1 n1
  · obtain ⟨t, h1⟩ := f.io
    obtain ⟨u, h2⟩ := e.pre
    exact ⟨t ++ u, by rw [h2, h1, List.append_assoc]⟩
theorem FR.chk {T : Tx} {g0 g : Gh} {H0 H : Hp} {c c' : Chk} {S : Store} {ds : Env} {σ : SV} (f : FR T g0 H0 c g H S ds σ) (h : ∀ a o, c'.fz a o → H a = some o ∧ ¬ g.L a) (i : ∃ t, g.io = c'.io ++ t) : FR T g0 H0 c' g H S ds σ :=
  ⟨f.ext, f.st, f.env, h, i, f.ln⟩
noncomputable def RepB (T : Tx) (g : Gh) (H : Hp) : Wv → V → Prop
  | .fz d, v => Rep T g H d v
  | .ow so, v => ∃ a ho, v = .ref a ∧ a ∉ g.io ∧ H a = some ho ∧ RepO T g H so ho
  | .xc, _ => False
noncomputable abbrev Rl (α β : Type) := Hp → Gh → Hp → α → β → Prop
noncomputable abbrev RW (T : Tx) : Rl Wv V := RepW T
noncomputable abbrev RB (T : Tx) : Rl Wv V := fun _ => RepB T
noncomputable abbrev RD (T : Tx) : Rl D V := fun _ => Rep T
noncomputable abbrev RA (T : Tx) : Rl (List D) (List V) := fun _ => Reps T
noncomputable abbrev RT : Rl Bool Bool := fun _ _ _ a b => a = b
noncomputable def Mono {α β : Type} (r : Rl α β) : Prop := ∀ H H2 g' H' w v, (∀ a, H2 a = none → H a = none) → r H2 g' H' w v → r H g' H' w v
theorem mono_w {T : Tx} : Mono (RW T) := fun H H2 g' H' w v h r => by
  cases w with
  | fz d => exact r
  | ow so =>
    obtain ⟨a, e, o⟩ := r
    exact ⟨a, e, h a o.new, o.liv, o.nio, o.obj⟩
  | xc => exact r
theorem mono_d {T : Tx} : Mono (RD T) := fun _ _ _ _ _ _ _ r => r
theorem mono_a {T : Tx} : Mono (RA T) := fun _ _ _ _ _ _ _ r => r
theorem mono_t : Mono RT := fun _ _ _ _ _ _ _ r => r
noncomputable def PostG {α β : Type} (T : Tx) (Wx : WX) (r : Gh → Hp → α → β → Prop) (g : Gh) (H : Hp) (σ : SV) (Q : β → Hp → Prop) : R α → Prop
  | .ok w S' => ∀ g' H' v, Ext g H g' H' → RelS T g' S' H' → r g' H' w v → Q v H'
  | .ex x S' => ∀ g' H' cls dx, Ext g H g' H' → RelS T g' S' H' → RepX T g' H' x cls dx → Wx cls dx σ H'
  | .bad => False
noncomputable def tG {α β : Type} (T : Tx) (Wx : WX) (r : Rl α β) (f : Env → M α) : SV → Hp → (β → Hp → Prop) → Prop := fun σ H Q =>
  ∃ g0 H0 c g S ds, FR T g0 H0 c g H S ds σ ∧ PostG T Wx (r H) g H σ Q (f ds S)
noncomputable def PostS (T : Tx) (Wx : WX) (g0 : Gh) (H0 : Hp) (c : Chk) (D' : Ends) : RS → Prop
  | .nx ds S => ∀ g H σ, FR T g0 H0 c g H S ds σ → D'.nx σ H
  | .bk ds S => ∀ g H σ, FR T g0 H0 c g H S ds σ → D'.bk σ H
  | .ct ds S => ∀ g H σ, FR T g0 H0 c g H S ds σ → D'.ct σ H
  | .rt w S => ∀ g H v, Ext g0 H0 g H → RelS T g S H → RepW T H0 g H w v → D'.rt v H
  | .ex x ds S => ∀ g H σ cls dx, FR T g0 H0 c g H S ds σ → RepX T g H x cls dx → Wx cls dx σ H
  | .bad => False
noncomputable def tS (T : Tx) (Wx : WX) (f : CS) : TS := fun D' σ H => ∃ g0 H0 c g S ds, FR T g0 H0 c g H S ds σ ∧ PostS T Wx g0 H0 c D' (f ds S)
noncomputable def JE (T : Tx) (Wx : WX) (X : Cx) (e : Expr) (f : CE) : Prop := PE X e (tG T Wx (RW T) f)
noncomputable def JB (T : Tx) (Wx : WX) (X : Cx) (e : Expr) (f : CE) : Prop := PE X e (tG T Wx (RB T) f)
noncomputable def JD (T : Tx) (Wx : WX) (X : Cx) (e : Expr) (f : Env → M D) : Prop := PE X e (tG T Wx (RD T) f)
noncomputable def JA (T : Tx) (Wx : WX) (X : Cx) (es : List Expr) (f : Env → M (List D)) : Prop := PA X es (tG T Wx (RA T) f)
noncomputable def JT (T : Tx) (Wx : WX) (X : Cx) (e : Expr) (f : Env → M Bool) : Prop := PT X e (tG T Wx RT f)
noncomputable def JS (T : Tx) (Wx : WX) (X : Cx) (s : Stmt) (f : CS) : Prop := PS X s (tS T Wx f)
noncomputable def JSs (T : Tx) (Wx : WX) (X : Cx) (s : List Stmt) (f : CS) : Prop := PSs X s (tS T Wx f)
section
variable {X : Cx}
theorem PE.imp {e : Expr} {t t' : TE} (h : PE X e t) (i : ∀ σ H Q, t' σ H Q → t σ H Q) : PE X e t' := ⟨fun pins s σ H Q I q => h.run pins s σ H Q I (i σ H Q q)⟩
theorem PT.imp {e : Expr} {t t' : TT} (h : PT X e t) (i : ∀ σ H Q, t' σ H Q → t σ H Q) : PT X e t' := ⟨fun pins s σ H Q I q => h.run pins s σ H Q I (i σ H Q q)⟩
theorem PW.imp {e : Expr} {t t' : TT} (h : PW X e t) (i : ∀ σ H Q, t' σ H Q → t σ H Q) : PW X e t' := ⟨fun wh pins s σ H Q I q => h.run wh pins s σ H Q I (i σ H Q q)⟩
theorem PA.imp {e : List Expr} {t t' : TA} (h : PA X e t) (i : ∀ σ H Q, t' σ H Q → t σ H Q) : PA X e t' := ⟨fun pos pins s σ H Q I q => h.run pos pins s σ H Q I (i σ H Q q)⟩
theorem PS.imp {e : Stmt} {t t' : TS} (h : PS X e t) (i : ∀ D σ H, t' D σ H → t D σ H) : PS X e t' := ⟨fun pins s σ H D I q => h.run pins s σ H D I (i D σ H q)⟩
theorem PSs.imp {e : List Stmt} {t t' : TS} (h : PSs X e t) (i : ∀ D σ H, t' D σ H → t D σ H) : PSs X e t' := ⟨fun pins s σ H D I q => h.run pins s σ H D I (i D σ H q)⟩
end
noncomputable def bindR {α β : Type} (r : R α) (k : α → Store → R β) : R β := match r with
  | .ok a S => k a S
  | .ex x S => .ex x S
  | .bad => .bad
section
variable {T : Tx} {Wx : WX} {g0 g g2 : Gh} {H0 H H2 : Hp} {c : Chk} {S S2 : Store} {ds : Env} {σ : SV}
theorem PostG.from {α β : Type} {r : Rl α β} (m : Mono r) {Q : β → Hp → Prop} (e : Ext g H g2 H2) : ∀ {x : R α}, PostG T Wx (r H) g H σ Q x → PostG T Wx (r H2) g2 H2 σ Q x
  | .ok w S', h => fun g' H' v e' rs rv => h g' H' v (e.trans e') rs (m _ _ _ _ _ _ (fun _ q => e.free q) rv)
  | .ex x S', h => fun g' H' cls dx e' rs rx => h g' H' cls dx (e.trans e') rs rx
  | .bad, h => h
theorem PostG.bind {α β γ δ : Type} {r1 : Rl α β} {r2 : Rl γ δ} (m : Mono r2) (fr : FR T g0 H0 c g H S ds σ) {x : R α} {k : α → Store → R γ} {Q : δ → Hp → Prop} {Q' : β → Hp → Prop}
    (h : PostG T Wx (r2 H) g H σ Q (bindR x k))
    (hk : ∀ w S1 g1 H1 v, Ext g H g1 H1 → FR T g0 H0 c g1 H1 S1 ds σ → r1 H g1 H1 w v → PostG T Wx (r2 H1) g1 H1 σ Q (k w S1) → Q' v H1) : PostG T Wx (r1 H) g H σ Q' x := by
  cases x with
  | ok w S1 => exact fun g1 H1 v e rs rv => hk w S1 g1 H1 v e (fr.on e rs) rv (PostG.from m e h)
  | ex x S1 => exact h
  | bad => exact h
theorem tG.bind {α β γ δ : Type} {r1 : Rl α β} {r2 : Rl γ δ} (m : Mono r2) {f : Env → M α} {k : α → Store → R γ} {Q : δ → Hp → Prop} {Q' : β → Hp → Prop} (fr : FR T g0 H0 c g H S ds σ)
    (h : PostG T Wx (r2 H) g H σ Q (bindR (f ds S) k))
    (hk : ∀ w S1 g1 H1 v, Ext g H g1 H1 → FR T g0 H0 c g1 H1 S1 ds σ → r1 H g1 H1 w v → PostG T Wx (r2 H1) g1 H1 σ Q (k w S1) → Q' v H1) : tG T Wx r1 f σ H Q' :=
  ⟨g0, H0, c, g, S, ds, fr, PostG.bind m fr h hk⟩
theorem RepW.ext {T : Tx} {Hs : Hp} {g g' : Gh} {H H' : Hp} {S : Store} {w : Wv} {v : V} (r : RepW T Hs g H w v) (e : Ext g H g' H') (s : RelS T g S H) : RepW T Hs g' H' w v := by
  cases w with
  | fz d => exact Rep.fix (e.fix s) r
  | ow so =>
    obtain ⟨a, ea, o⟩ := r
    exact ⟨a, ea, o.ext e s⟩
  | xc => exact r
theorem RepB.ext {T : Tx} {g g' : Gh} {H H' : Hp} {S : Store} {w : Wv} {v : V} (r : RepB T g H w v) (e : Ext g H g' H') (s : RelS T g S H) : RepB T g' H' w v := by
  cases w with
  | fz d => exact Rep.fix (e.fix s) r
  | ow so =>
    obtain ⟨a, ho, ea, n, h, p⟩ := r
    exact ⟨a, ho, ea, (e.kp a ho p.plain.1 h n).2, (e.kp a ho p.plain.1 h n).1, p.fix (e.fix s)⟩
  | xc => exact r
theorem RepW.b {T : Tx} {Hs : Hp} {g : Gh} {H : Hp} {w : Wv} {v : V} (r : RepW T Hs g H w v) : RepB T g H w v := by
  cases w with
  | fz d => exact r
  | ow so =>
    obtain ⟨a, ea, o⟩ := r
    obtain ⟨ho, h, p⟩ := o.obj
    exact ⟨a, ho, ea, o.nio, h, p⟩
  | xc => exact r
end
end Mir
set_option Elab.async false
set_option linter.all false
set_option maxRecDepth 100000
namespace Mir
open PySem PySem.Spec PyProof.Rows L2
structure Lv (T : Tx) (Wx : WX) (X : Cx) : Prop where
  hK : X.K = T.K
  tk : Takes X Wx
  un : X.A.units + 200 < cLine
section
variable {T : Tx} {Wx : WX} {X : Cx} {e a b : Expr} {g g0 : Gh} {H H0 : Hp} {c : Chk} {S : Store} {ds : Env} {σ : SV}
theorem PostG.imp {α β : Type} {r r' : Gh → Hp → α → β → Prop} {Q : β → Hp → Prop} (h : ∀ g' H' w v, r' g' H' w v → r g' H' w v) : ∀ {x : R α}, PostG T Wx r g H σ Q x → PostG T Wx r' g H σ Q x
  | .ok _ _, p => fun g' H' v e rs rv => p g' H' v e rs (h _ _ _ _ rv)
  | .ex _ _, p => p
  | .bad, p => p
theorem PostG.now {α β : Type} {r : Gh → Hp → α → β → Prop} {Q : β → Hp → Prop} {w : α} {v : β} (p : PostG T Wx r g H σ Q (.ok w S)) (rs : RelS T g S H) (rv : r g H w v) : Q v H := p g H v (Ext.refl g H) rs rv
noncomputable def cUp (f : Env → M D) : CE := fun ds S => bindR (f ds S) fun d S => .ok (.fz d) S
noncomputable def Wv.frz : Wv → D
  | .fz d => d
  | .ow (.lst xs) => .lst xs
  | .ow (.dct kvs) => .dct kvs
  | .ow (.ins c fs) => .ins c fs
  | .xc => .non
noncomputable def cFz (f : CE) : Env → M D := fun ds S => bindR (f ds S) fun w S => .ok w.frz S
theorem jb_e {f : CE} (h : JE T Wx X e f) : JB T Wx X e f := PE.imp h fun σ H Q ⟨g0, H0, c, g, S, ds, fr, p⟩ => ⟨g0, H0, c, g, S, ds, fr, p.imp fun _ _ _ _ r => r.b⟩
theorem je_d {f : Env → M D} (h : JD T Wx X e f) : JE T Wx X e (cUp f) := PE.imp h fun σ H Q hh_ => by
  obtain ⟨g0, H0, c, g, S, ds, fr, p⟩ := hh_
  refine tG.bind (r2 := RW T) mono_w fr p fun w S1 g1 H1 v e1 fr1 rv p1 => ?_
  exact p1.now fr1.st rv
theorem jb_d {f : Env → M D} (h : JD T Wx X e f) : JB T Wx X e (cUp f) := jb_e (je_d h)
theorem pe_post {e : Expr} {t : TE} (h : PE X e t) : PE X e (fun σ H Q => t σ H fun v H1 => Q v H1 ∨ ∃ a u, v = .ref a ∧ H1 a = some u ∧ Mut (some u) ∧ ∀ od, Q v (L2.upd H1 a (.frz od u))) := by
  refine ⟨fun pins s σ H Q I hw => ?_⟩
  refine thn (h.run pins s σ H _ I hw) fun v s1 ⟨x, H1, I1, r, q⟩ => ?_
  rcases q with q | ⟨a, u, ex, hd, mu, q⟩
  · exact ⟨x, H1, I1, r, q⟩
  · obtain ⟨od, I2⟩ := I1.lock hd mu
    exact ⟨x, _, I2, r, q od⟩
theorem lock_fix {g : Gh} {H : Hp} {a : Addr} {u : HO} (hl : g.L a) : Fix g H ⟨g.io, fun b => g.L b ∧ b ≠ a⟩ (L2.upd H a u) :=
  ⟨⟨[], by simp⟩, fun b o hb n => by
    have nb : b ≠ a := fun z => n (z ▸ hl)
    exact ⟨by rw [upd_ne nb]; exact hb, fun z => n z.1⟩⟩
theorem lock_st {T : Tx} {g : Gh} {H : Hp} {S : Store} {a : Addr} {ho u : HO} (rs : RelS T g S H) (hl : g.L a) (nio : a ∉ g.io) (h : H a = some ho) (hp : Plain ho) (hu : ∀ ps, u ≠ .tbl ps) : RelS T ⟨g.io, fun b => g.L b ∧ b ≠ a⟩ S (L2.upd H a u) := by
  refine ⟨rs.len, rs.nd, fun b hb => ⟨rs.liv b hb, fun z => nio (z ▸ hb)⟩, fun n so' b h1 h2 => ?_, rs.tab.upd (fun w e => by rw [h] at e; cases e; exact hp) hu fun b nb l => ⟨l, nb⟩⟩
  obtain ⟨ho', h3, p'⟩ := rs.obj n so' b h1 h2
  have nb : b ≠ a := fun z => nio (z ▸ (List.mem_of_getElem? h2))
  exact ⟨ho', by rw [upd_ne nb]; exact h3, p'.fix (lock_fix hl)⟩
theorem freeze {T : Tx} {Hs : Hp} {g1 : Gh} {H1 : Hp} {S1 : Store} {w : Wv} {v : V} (rs : RelS T g1 S1 H1) (r : RepW T Hs g1 H1 w v) {g : Gh} (ex : Ext g Hs g1 H1) :
    (∃ g2, Ext g Hs g2 H1 ∧ RelS T g2 S1 H1 ∧ Rep T g2 H1 w.frz v) ∨ ∃ a u, v = .ref a ∧ H1 a = some u ∧ Mut (some u) ∧ ∀ od, ∃ g2, Ext g Hs g2 (L2.upd H1 a (.frz od u)) ∧ RelS T g2 S1 (L2.upd H1 a (.frz od u)) ∧ Rep T g2 (L2.upd H1 a (.frz od u)) w.frz v := by
  cases w with
  | fz d => exact .inl ⟨g1, ex, rs, r⟩
  | ow so =>
    obtain ⟨a, rfl, o⟩ := r
    obtain ⟨ho, h, p⟩ := o.obj
    by_cases hd : ∃ kvs, so = .dct kvs
    · obtain ⟨kvs, rfl⟩ := hd
      cases p with
      | @dct _ vs r =>
        refine .inr ⟨a, _, rfl, h, trivial, fun od => ?_⟩
        have na : ¬ (g1.L a ∧ a ≠ a) := fun z => z.2 rfl
        refine ⟨⟨g1.io, fun b => g1.L b ∧ b ≠ a⟩, ⟨ex.pre, fun b u hb => ?_, fun b u hb => ?_, fun b u nt hb n => ?_⟩, lock_st rs o.liv o.nio h (RepO.plain (T := T) (g := g1) (H := H1) (.dct r)) (fun ps z => by cases z), .dct upd_same na (r.fix (lock_fix o.liv))⟩
        · by_cases q : b = a
          · rw [q]
            exact ⟨_, upd_same⟩
          · rw [upd_ne q]
            exact ex.trk b u hb
        · have nb : b ≠ a := fun z => by
            rw [z, o.new] at hb
            cases hb
          exact ⟨fun z => (ex.liv b u hb).mp z.1, fun z => ⟨(ex.liv b u hb).mpr z, nb⟩⟩
        · have nb : b ≠ a := fun z => by
            rw [z, o.new] at hb
            cases hb
          rw [upd_ne nb]
          exact ex.kp b u nt hb n
    refine .inl ?_
    have fx : Fix g1 H1 ⟨g1.io, fun b => g1.L b ∧ b ≠ a⟩ H1 := ⟨⟨[], by simp⟩, fun b o hb n => ⟨hb, fun z => n z.1⟩⟩
    refine ⟨⟨g1.io, fun b => g1.L b ∧ b ≠ a⟩, ⟨ex.pre, ex.trk, fun b u hb => ?_, ex.kp⟩, ⟨rs.len, rs.nd, fun b hb => ⟨rs.liv b hb, fun z => o.nio (z ▸ hb)⟩, fun n so' b h1 h2 => ?_, rs.tab.ghost fun b ps e l => ⟨l, fun z => p.plain.1 ps (Option.some.inj (h.symm.trans (z ▸ e)))⟩⟩, ?_⟩
    · have nb : b ≠ a := fun z => by
        rw [z, o.new] at hb
        cases hb
      exact ⟨fun z => (ex.liv b u hb).mp z.1, fun z => ⟨(ex.liv b u hb).mpr z, nb⟩⟩
    · obtain ⟨ho', h3, p'⟩ := rs.obj n so' b h1 h2
      exact ⟨ho', h3, p'.fix fx⟩
    · have na : ¬ (g1.L a ∧ a ≠ a) := fun z => z.2 rfl
      have p2 := p.fix fx
      cases p2 with
      | lst r => exact .lst h na r
      | dct r => exact (hd ⟨_, rfl⟩).elim
      | ins r => exact .ins h na r
  | xc => exact r.elim
theorem jd_fz {f : CE} (h : JE T Wx X e f) : JD T Wx X e (cFz f) := PE.imp (pe_post h) fun σ H Q hh_ => by
  obtain ⟨g0, H0, c, g, S, ds, fr, p⟩ := hh_
  refine ⟨g0, H0, c, g, S, ds, fr, ?_⟩
  unfold cFz at p
  cases q : f ds S with
  | ok w S1 =>
    rw [q] at p
    intro g1 H1 v e1 rs rv
    rcases freeze rs rv e1 with ⟨g2, e2, rs2, rv2⟩ | ⟨a, u, ea, hu, mu, k⟩
    · exact .inl (p g2 H1 v e2 rs2 rv2)
    · refine .inr ⟨a, u, ea, hu, mu, fun od => ?_⟩
      obtain ⟨g2, e2, rs2, rv2⟩ := k od
      exact p g2 _ v e2 rs2 rv2
  | ex x S1 =>
    rw [q] at p
    exact p
  | bad =>
    rw [q] at p
    exact p
noncomputable def cBor (i : Nat) : CE := fun ds S => match ds[i]? with
  | some (some (.fz d)) => .ok (.fz d) S
  | some (some (.ow so)) => .ok (.ow so) S
  | _ => .bad
noncomputable def cVar (i : Nat) : Env → M D := fun ds S => match ds[i]? with
  | some (some (.fz d)) => .ok d S
  | _ => .bad
theorem jd_var (i : Nat) {x : Str} {pos : Pos} (hN : X.N[i]? = some x := by rfl) (hv : Vis X.env.scope x := by first | exact Or.inl rfl | exact Or.inr (Or.inl rfl) | exact Or.inr (Or.inr rfl)) (hd : (x == ("__debug__" : Str)) = false := by decide)
    (hcd : (x == ("__classdict__" : Str)) = false := by decide) : JD T Wx X (.Name x pos) (cVar i) := PE.imp (pe_var hN hv hd hcd) fun σ H Q hh_ => by
  obtain ⟨g0, H0, c, g, S, ds, fr, p⟩ := hh_
  unfold cVar at p
  split at p
  · rename_i d h
    obtain ⟨v, hv, rv⟩ := fr.env.fz i d h
    exact ⟨v, hv, p.now fr.st rv⟩
  · exact p.elim
theorem jb_var (i : Nat) {x : Str} {pos : Pos} (hN : X.N[i]? = some x := by rfl) (hv : Vis X.env.scope x := by first | exact Or.inl rfl | exact Or.inr (Or.inl rfl) | exact Or.inr (Or.inr rfl)) (hd : (x == ("__debug__" : Str)) = false := by decide)
    (hcd : (x == ("__classdict__" : Str)) = false := by decide) : JB T Wx X (.Name x pos) (cBor i) := PE.imp (pe_var hN hv hd hcd) fun σ H Q hh_ => by
  obtain ⟨g0, H0, c, g, S, ds, fr, p⟩ := hh_
  unfold cBor at p
  split at p
  · rename_i d h
    obtain ⟨v, hv, rv⟩ := fr.env.fz i d h
    exact ⟨v, hv, PostG.now (r := RB T H) p fr.st rv⟩
  · rename_i so h
    obtain ⟨ad, hv, o⟩ := fr.env.ow i so h
    obtain ⟨ho, h1, h2⟩ := o.obj
    exact ⟨_, hv, PostG.now (r := RB T H) p fr.st ⟨ad, ho, rfl, o.nio, h1, h2⟩⟩
  · exact p.elim
noncomputable def cC (d : D) : Env → M D := fun _ S => .ok d S
theorem jd_c {v : V} {d : D} (h : PE X e (tC v)) (r : ∀ g H, Rep T g H d v) : JD T Wx X e (cC d) := PE.imp h fun σ H Q hh_ => by
  obtain ⟨g0, H0, c, g, S, ds, fr, p⟩ := hh_
  show Q v H
  exact PostG.now (r := RD T H) p fr.st (r g H)
theorem jd_int {i : Int} {j pos} : JD T Wx X (.Constant (.int i) j pos) (cC (.int i)) := jd_c pe_int fun _ _ => .int i
theorem jd_bl {i : Bool} {j pos} : JD T Wx X (.Constant (.bool i) j pos) (cC (.bl i)) := jd_c pe_bl fun _ _ => .bl i
theorem jd_non {j pos} : JD T Wx X (.Constant .none j pos) (cC .non) := jd_c pe_non fun _ _ => .non
theorem jd_str {x : Str} {j pos} : JD T Wx X (.Constant (.str x) j pos) (cC (.str x)) := jd_c pe_str fun _ _ => .str x
theorem jd_gI {x : Str} {i : Int} {t : Tok} {pos : Pos} (hg : Gl X x) (hm : X.mg x = some (.int i t)) (hd : (x == ("__debug__" : Str)) = false := by decide) : JD T Wx X (.Name x pos) (cC (.int i)) := jd_c (pe_glob (v := .int i) hg hm ⟨_, rfl⟩ hd) fun _ _ => .int i
theorem jd_gS {x : Str} {i : Str} {t : Tok} {pos : Pos} (hg : Gl X x) (hm : X.mg x = some (.str i t)) (hd : (x == ("__debug__" : Str)) = false := by decide) : JD T Wx X (.Name x pos) (cC (.str i)) := jd_c (pe_glob (v := .str i) hg hm ⟨_, rfl⟩ hd) fun _ _ => .str i
theorem tracked {T : Tx} {g : Gh} {S : Store} {H : Hp} (rs : RelS T g S H) {a : Addr} (h : a ∈ g.io) : ∃ o, H a = some o := by
  obtain ⟨n, hn, e⟩ := List.getElem_of_mem h
  have hs : n < S.length := by rw [← rs.len]; exact hn
  obtain ⟨ho, h1, _⟩ := rs.obj n S[n] a (List.getElem?_eq_getElem hs) (by rw [List.getElem?_eq_getElem hn, e])
  exact ⟨ho, h1⟩
theorem fresh_io {T : Tx} {g : Gh} {S : Store} {H : Hp} (rs : RelS T g S H) {a : Addr} (h : H a = none) : a ∉ g.io := fun z => by
  obtain ⟨o, e⟩ := tracked rs z
  rw [h] at e
  cases e
theorem alloc_ow {T : Tx} {g : Gh} {S : Store} {H : Hp} (rs : RelS T g S H) {p : Addr} (hp : H p = none) {ho : HO} {so : SO} (hr : ∀ g' H', Fix g H g' H' → RepO T g' H' so ho) :
    ∃ g', Ext g H g' (upd H p ho) ∧ RelS T g' S (upd H p ho) ∧ RepW T H g' (upd H p ho) (.ow so) (.ref p) := by
  have ne : ∀ {b : Addr} {u : HO}, H b = some u → b ≠ p := fun {b u} h z => by
    rw [z, hp] at h
    cases h
  have nio : p ∉ g.io := fresh_io rs hp
  have fx : Fix g H ⟨g.io, fun b => g.L b ∨ b = p⟩ (upd H p ho) := ⟨⟨[], by simp⟩, fun b u h n => ⟨by rw [upd_ne (ne h)]; exact h, fun z => z.elim n (ne h)⟩⟩
  refine ⟨⟨g.io, fun b => g.L b ∨ b = p⟩, ⟨⟨[], by simp⟩, fun b u h => ⟨u, by rw [upd_ne (ne h)]; exact h⟩, fun b u h => ⟨fun z => z.elim id fun q => (ne h q).elim, fun z => .inl z⟩, fun b u _ h n => ⟨by rw [upd_ne (ne h)]; exact h, n⟩⟩,
    ⟨rs.len, rs.nd, fun b hb => .inl (rs.liv b hb), fun n o b h1 h2 => ?_, rs.tab.new hp (hr _ _ fx).plain.1 fun b _ l => .inl l⟩, ⟨p, rfl, hp, .inr rfl, nio, ho, upd_same, hr _ _ fx⟩⟩
  obtain ⟨ho', h3, p'⟩ := rs.obj n o b h1 h2
  exact ⟨ho', by rw [upd_ne (ne h3)]; exact h3, p'.fix fx⟩
theorem alloc_fz {T : Tx} {g : Gh} {S : Store} {H : Hp} (rs : RelS T g S H) {p : Addr} (hp : H p = none) (ho : HO) (nt : ∀ ps, ho ≠ .tbl ps := by intro _ z; cases z) :
    ∃ g', Ext g H g' (upd H p ho) ∧ RelS T g' S (upd H p ho) ∧ Fix g H g' (upd H p ho) ∧ ¬ g'.L p := by
  have ne : ∀ {b : Addr} {u : HO}, H b = some u → b ≠ p := fun {b u} h z => by
    rw [z, hp] at h
    cases h
  have fx : Fix g H ⟨g.io, fun b => g.L b ∧ b ≠ p⟩ (upd H p ho) := ⟨⟨[], by simp⟩, fun b u h n => ⟨by rw [upd_ne (ne h)]; exact h, fun z => n z.1⟩⟩
  refine ⟨⟨g.io, fun b => g.L b ∧ b ≠ p⟩, ⟨⟨[], by simp⟩, fun b u h => ⟨u, by rw [upd_ne (ne h)]; exact h⟩, fun b u h => ⟨fun z => z.1, fun z => ⟨z, ne h⟩⟩, fun b u _ h n => ⟨by rw [upd_ne (ne h)]; exact h, n⟩⟩,
    ⟨rs.len, rs.nd, fun b hb => ⟨rs.liv b hb, fun z => ?_⟩, fun n o b h1 h2 => ?_, rs.tab.new hp nt fun b n l => ⟨l, n⟩⟩, fx, fun z => z.2 rfl⟩
  · obtain ⟨u, hu⟩ := tracked rs hb
    exact ne hu z
  · obtain ⟨ho', h3, p'⟩ := rs.obj n o b h1 h2
    exact ⟨ho', by rw [upd_ne (ne h3)]; exact h3, p'.fix fx⟩
noncomputable def cNil : Env → M (List D) := fun _ S => .ok [] S
noncomputable def cCons (f : Env → M D) (fs : Env → M (List D)) : Env → M (List D) := fun ds S => bindR (f ds S) fun d S => bindR (fs ds S) fun r S => .ok (d :: r) S
theorem ja_nil : JA T Wx X [] cNil := PA.imp pa_nil fun σ H Q hh_ => by
  obtain ⟨g0, H0, c, g, S, ds, fr, p⟩ := hh_
  show Q [] H
  exact PostG.now (r := RA T H) p fr.st .nil
theorem ja_cons {es : List Expr} {f : Env → M D} {fs : Env → M (List D)} (h : JD T Wx X e f) (hr : JA T Wx X es fs) (hs : starEach (e :: es) X.env = (false, eval e X.env) :: starEach es X.env := by rfl) : JA T Wx X (e :: es) (cCons f fs) :=
  PA.imp (pa_cons h hr hs) fun σ H Q hh_ => by
    obtain ⟨g0, H0, c, g, S, ds, fr, p⟩ := hh_
    refine tG.bind (r2 := RA T) mono_a fr p fun d S1 g1 H1 v e1 fr1 rv p1 => ?_
    refine tG.bind (r1 := RA T) (r2 := RA T) mono_a fr1 p1 fun r S2 g2 H2 vs e2 fr2 rvs p2 => ?_
    exact p2.now fr2.st (.cons (Rep.fix (e2.fix fr1.st) rv) rvs)
noncomputable def szOk (n : Nat) : Bool := decide (n ≤ 16777216)
theorem szOk_of {n : Nat} (h : szOk n = true) : n ≤ sizeLine := by
  have h' := of_decide_eq_true h
  rw [sizeLine_eq]
  exact h'
theorem Reps.length {T : Tx} {g : Gh} {H : Hp} : ∀ {ds : List D} {vs : List V}, Reps T g H ds vs → ds.length = vs.length
  | _, _, .nil => rfl
  | _, _, .cons _ r => congrArg (· + 1) (Reps.length r)
noncomputable def cTup (fs : Env → M (List D)) : Env → M D := fun ds S => bindR (fs ds S) fun r S => if szOk r.length then .ok (.tup r) S else .bad
noncomputable def cLst (fs : Env → M (List D)) : CE := fun ds S => bindR (fs ds S) fun r S => if szOk r.length then .ok (.ow (.lst r)) S else .bad
theorem jd_tup {es : List Expr} {k} {pos : Pos} {fs : Env → M (List D)} (h : JA T Wx X es fs) : JD T Wx X (.Tuple es k pos) (cTup fs) :=
  PE.imp (pe_tup h) fun σ H Q hh_ => by
    obtain ⟨g0, H0, c, g, S, ds, fr, p⟩ := hh_
    refine tG.bind (r1 := RA T) (r2 := RD T) mono_d fr p fun r S1 g1 H1 vs e1 fr1 rv p1 => ?_
    split at p1
    · rename_i hz
      refine ⟨by rw [← rv.length]; exact szOk_of hz, fun q hq => ?_⟩
      obtain ⟨g2, e2, rs2, fx, nl⟩ := alloc_fz fr1.st hq (.tup vs)
      exact p1 g2 _ _ e2 rs2 (.tup upd_same nl (Reps.fix fx rv))
    · exact p1.elim
theorem je_lst {es : List Expr} {pos : Pos} {fs : Env → M (List D)} (h : JA T Wx X es fs) : JE T Wx X (.List es pos) (cLst fs) :=
  PE.imp (pe_lst h) fun σ H Q hh_ => by
    obtain ⟨g0, H0, c, g, S, ds, fr, p⟩ := hh_
    refine tG.bind (r1 := RA T) (r2 := RW T) mono_w fr p fun r S1 g1 H1 vs e1 fr1 rv p1 => ?_
    split at p1
    · rename_i hz
      refine ⟨by rw [← rv.length]; exact szOk_of hz, fun q hq => ?_⟩
      obtain ⟨g2, e2, rs2, rw2⟩ := alloc_ow (so := .lst r) fr1.st hq (ho := .lst vs) fun g' H' fx => .lst (rv.fix fx)
      exact p1 g2 _ _ e2 rs2 rw2
    · exact p1.elim
end
end Mir
set_option Elab.async false
set_option linter.all false
set_option maxRecDepth 100000
namespace Mir
open PySem PySem.Spec PyProof.Rows L2
noncomputable def viewL (S : Store) : Wv → Option (List D)
  | .fz (.lst xs) => some xs
  | .ow (.lst xs) => some xs
  | .fz (.ref n) => match S[n]? with
    | some (.lst xs) => some xs
    | _ => none
  | _ => none
noncomputable def viewR (S : Store) : Wv → Option (List D)
  | .fz (.scr ns) => some (ns.map D.int)
  | w => viewL S w
noncomputable def viewT : Wv → Option (List D)
  | .fz (.tup xs) => some xs
  | _ => none
section
variable {T : Tx} {g : Gh} {H : Hp} {S : Store} {w : Wv} {v : V} {xs : List D}
theorem viewL_ok (rs : RelS T g S H) (r : RepB T g H w v) (h : viewL S w = some xs) : ∃ a vs, v = .ref a ∧ H a = some (.lst vs) ∧ Reps T g H xs vs := by
  cases w with
  | fz d =>
    cases d with
    | lst ys =>
      cases h
      cases r with
      | lst h1 _ h2 => exact ⟨_, _, rfl, h1, h2⟩
    | ref n =>
      cases r with
      | ref hio =>
        unfold viewL at h
        dsimp only at h
        cases hn : S[n]? with
        | none =>
          rw [hn] at h
          cases h
        | some so =>
          rw [hn] at h
          cases so with
          | lst ys =>
            cases h
            obtain ⟨ho, h1, h2⟩ := rs.obj n _ _ hn hio
            cases h2 with
            | lst h2 => exact ⟨_, _, rfl, h1, h2⟩
          | dct _ => cases h
          | ins _ _ => cases h
    | _ => cases h
  | ow so =>
    obtain ⟨a, ho, rfl, _, h1, h2⟩ := r
    cases so with
    | lst ys =>
      cases h
      cases h2 with
      | lst h2 => exact ⟨_, _, rfl, h1, h2⟩
    | dct _ => cases h
    | ins _ _ => cases h
  | xc => cases h
theorem reps_ints {T : Tx} {g : Gh} {H : Hp} : ∀ ns : List Int, Reps T g H (ns.map D.int) (ns.map V.int)
  | [] => .nil
  | n :: r => .cons (.int n) (reps_ints r)
theorem viewR_ok (rs : RelS T g S H) (r : RepB T g H w v) (h : viewR S w = some xs) : ∃ a vs, v = .ref a ∧ SqL T.K H a vs ∧ Reps T g H xs vs := by
  have low : viewL S w = some xs → ∃ a vs, v = .ref a ∧ SqL T.K H a vs ∧ Reps T g H xs vs := fun q => by
    obtain ⟨a, vs, e, h1, h2⟩ := viewL_ok rs r q
    exact ⟨a, vs, e, SqL.of h1, h2⟩
  cases w with
  | fz d =>
    cases d with
    | scr ns =>
      cases h
      cases r with
      | scr h1 =>
        refine ⟨_, _, rfl, ?_, reps_ints ns⟩
        rcases h1 with ⟨h1, _⟩ | h1
        · exact .inl h1
        · exact .inr h1
    | _ => exact low h
  | ow so => exact low h
  | xc => cases h
theorem viewT_ok (r : RepB T g H w v) (h : viewT w = some xs) : ∃ a vs, v = .ref a ∧ H a = some (.tup vs) ∧ Reps T g H xs vs := by
  cases w with
  | fz d =>
    cases d with
    | tup ys =>
      cases h
      cases r with
      | tup h1 _ h2 => exact ⟨_, _, rfl, h1, h2⟩
    | _ => cases h
  | ow so => cases h
  | xc => cases h
theorem Reps.append {T : Tx} {g : Gh} {H : Hp} : ∀ {ds : List D} {vs : List V} {ds' : List D} {vs' : List V}, Reps T g H ds vs → Reps T g H ds' vs' → Reps T g H (ds ++ ds') (vs ++ vs')
  | _, _, _, _, .nil, s => s
  | _, _, _, _, .cons r t, s => .cons r (Reps.append t s)
theorem Reps.get {T : Tx} {g : Gh} {H : Hp} : ∀ {ds : List D} {vs : List V} {i : Nat} {d : D}, Reps T g H ds vs → ds[i]? = some d → ∃ v, vs[i]? = some v ∧ Rep T g H d v
  | _, _, _, _, .nil, e => by simp at e
  | _, _, 0, _, .cons r _, e => by
    simp at e
    subst e
    exact ⟨_, rfl, r⟩
  | _, _, i + 1, d, .cons _ t, e => by
    obtain ⟨u, h1, h2⟩ := Reps.get (i := i) (d := d) t (by simpa using e)
    exact ⟨u, by simpa using h1, h2⟩
theorem Reps.drop {T : Tx} {g : Gh} {H : Hp} : ∀ (n : Nat) {ds : List D} {vs : List V}, Reps T g H ds vs → Reps T g H (ds.drop n) (vs.drop n)
  | 0, _, _, r => r
  | _ + 1, _, _, .nil => .nil
  | n + 1, _, _, .cons _ t => Reps.drop n t
theorem Reps.take {T : Tx} {g : Gh} {H : Hp} : ∀ (n : Nat) {ds : List D} {vs : List V}, Reps T g H ds vs → Reps T g H (ds.take n) (vs.take n)
  | 0, _, _, _ => .nil
  | _ + 1, _, _, .nil => .nil
  | n + 1, _, _, .cons r t => .cons r (Reps.take n t)
end
noncomputable def V2 {α : Type} (T : Tx) (Wx : WX) (Rr : Rl α V) (r : R2) (k : Wv → Wv → M α) : Prop :=
  ∀ (g : Gh) (H : Hp) (S : Store) (σ : SV) (w1 w2 : Wv) (v1 v2 : V) (Q : VK), RelS T g S H → RepB T g H w1 v1 → RepB T g H w2 v2 → PostG T Wx (Rr H) g H σ Q (k w1 w2 S) → r v1 v2 H Q
noncomputable def cBin {α : Type} (k : Wv → Wv → M α) (f1 f2 : CE) : Env → M α := fun ds S => bindR (f1 ds S) fun w1 S => bindR (f2 ds S) fun w2 S => k w1 w2 S
noncomputable def cUn {α : Type} (k : Wv → M α) (f1 : CE) : Env → M α := fun ds S => bindR (f1 ds S) fun w1 S => k w1 S
section
variable {T : Tx} {Wx : WX} {X : Cx} {e a b : Expr}
theorem t2 {α : Type} {Rr : Rl α V} (m : Mono Rr) {r : R2} {k : Wv → Wv → M α} {f1 f2 : CE} (hv : V2 T Wx Rr r k) {σ : SV} {H : Hp} {Q : VK} (h : tG T Wx Rr (cBin k f1 f2) σ H Q) : tOp r (tG T Wx (RB T) f1) (tG T Wx (RB T) f2) σ H Q := by
  obtain ⟨g0, H0, c, g, S, ds, fr, p⟩ := h
  refine tG.bind (r1 := RB T) (r2 := Rr) m fr p fun w1 S1 g1 H1 v1 e1 fr1 rv1 p1 => ?_
  refine tG.bind (r1 := RB T) (r2 := Rr) m fr1 p1 fun w2 S2 g2 H2 v2 e2 fr2 rv2 p2 => ?_
  exact hv g2 H2 S2 σ w1 w2 v1 v2 Q fr2.st (rv1.ext e2 fr1.st) rv2 p2
theorem je_op {op : Operator} {pos : Pos} {r : R2} {k : Wv → Wv → M Wv} {f1 f2 : CE} (ho : OpR X (binaryOp op) r) (hv : V2 T Wx (RW T) r k) (ha : JB T Wx X a f1) (hb : JB T Wx X b f2) : JE T Wx X (.BinOp a op b pos) (cBin k f1 f2) :=
  PE.imp (pe_op ho ha hb) fun σ H Q h => t2 mono_w hv h
theorem OpR.or {f : Value → Value → Sem Value} {r r' : R2} (h : OpR X f r) (h' : OpR X f r') : OpR X f (fun x y H Q => r x y H Q ∨ r' x y H Q) := by
  intro pins s σ H x y v u Q I rx ry q
  rcases q with q | q
  · exact h pins s σ H x y v u Q I rx ry q
  · exact h' pins s σ H x y v u Q I rx ry q
end
noncomputable def opAdd : Wv → Wv → M Wv := fun w1 w2 S => match w1, w2 with
  | .fz (.int i), .fz (.int j) => .ok (.fz (.int (i + j))) S
  | .fz (.str i), .fz (.str j) => if szOk (i.length + j.length) then .ok (.fz (.str (i ++ j))) S else .bad
  | .fz (.tup xs), .fz (.tup ys) => if !xs.isEmpty && szOk (xs.length + ys.length) then .ok (.fz (.tup (xs ++ ys))) S else .bad
  | w1, w2 => match viewL S w1, viewL S w2 with
    | some xs, some ys => if szOk (xs.length + ys.length) then .ok (.ow (.lst (xs ++ ys))) S else .bad
    | _, _ => .bad
noncomputable def rAddI : R2 := rI0 fun i j => .int (i + j)
noncomputable def rAddS : R2 := fun x y H Q => ∃ i j, x = .str i ∧ y = .str j ∧ i.length + j.length ≤ sizeLine ∧ Q (.str (i ++ j)) H
noncomputable def rAddA (K : PySem.W.Frag) : R2 := fun x y H Q => (rAddI x y H Q ∨ rAddS x y H Q) ∨ (rCat x y H Q ∨ rCatT K x y H Q)
section
variable {T : Tx} {Wx : WX} {X : Cx} {e a b : Expr}
theorem cat_list {g : Gh} {H : Hp} {S : Store} {σ : SV} {w1 w2 : Wv} {v1 v2 : V} {Q : VK} (rs : RelS T g S H) (r1 : RepB T g H w1 v1) (r2 : RepB T g H w2 v2)
    (p : PostG T Wx (RW T H) g H σ Q (match viewL S w1, viewL S w2 with
      | some xs, some ys => if szOk (xs.length + ys.length) then R.ok (Wv.ow (.lst (xs ++ ys))) S else .bad
      | _, _ => .bad)) : rCat v1 v2 H Q := by
  cases h1 : viewL S w1 with
  | none =>
    rw [h1] at p
    exact p.elim
  | some xs =>
    cases h2 : viewL S w2 with
    | none =>
      rw [h1, h2] at p
      exact p.elim
    | some ys =>
      rw [h1, h2] at p
      dsimp only at p
      split at p
      · rename_i hz
        obtain ⟨a1, vs1, rfl, q1, s1⟩ := viewL_ok rs r1 h1
        obtain ⟨a2, vs2, rfl, q2, s2⟩ := viewL_ok rs r2 h2
        refine ⟨a1, a2, vs1, vs2, rfl, rfl, q1, q2, ?_, fun l hl => ?_⟩
        · rw [← s1.length, ← s2.length]
          exact szOk_of hz
        · obtain ⟨g2, e2, rs2, rw2⟩ := alloc_ow (so := .lst (xs ++ ys)) rs hl (ho := .lst (vs1 ++ vs2)) fun g' H' fx => .lst ((s1.append s2).fix fx)
          exact p g2 _ _ e2 rs2 rw2
      · exact p.elim
theorem v_add : V2 T Wx (RW T) (rAddA T.K) opAdd := by
  intro g H S σ w1 w2 v1 v2 Q rs r1 r2 p
  have gen : PostG T Wx (RW T H) g H σ Q (match viewL S w1, viewL S w2 with
      | some xs, some ys => if szOk (xs.length + ys.length) then R.ok (Wv.ow (.lst (xs ++ ys))) S else .bad
      | _, _ => .bad) → rAddA T.K v1 v2 H Q := fun p => .inr (.inl (cat_list rs r1 r2 p))
  unfold opAdd at p
  split at p
  · cases r1
    cases r2
    exact .inl (.inl ⟨_, _, rfl, rfl, PostG.now (r := RW T H) p rs (.int _)⟩)
  · cases r1
    cases r2
    split at p
    · rename_i hz
      exact .inl (.inr ⟨_, _, rfl, rfl, szOk_of hz, PostG.now (r := RW T H) p rs (.str _)⟩)
    · exact p.elim
  · rename_i xs ys
    split at p
    · rename_i hz
      rw [Bool.and_eq_true] at hz
      obtain ⟨a1, vs1, rfl, q1, s1⟩ := viewT_ok (xs := xs) r1 rfl
      obtain ⟨a2, vs2, rfl, q2, s2⟩ := viewT_ok (xs := ys) r2 rfl
      refine .inr (.inr ⟨a1, a2, vs1, vs2, rfl, rfl, SqT.of q1, SqT.of q2, ?_, ?_, fun e2 => ?_, fun _ l hl => ?_⟩)
      · intro z
        subst z
        cases s1
        exact absurd hz.1 (by decide)
      · rw [← s1.length, ← s2.length]
        exact szOk_of hz.2
      · subst e2
        cases s2
        rw [List.append_nil] at p
        exact PostG.now (r := RW T H) p rs r1
      · obtain ⟨g2, e2, rs2, fx, nl⟩ := alloc_fz rs hl (.tup (vs1 ++ vs2))
        exact p g2 _ _ e2 rs2 (Rep.tup upd_same nl ((s1.append s2).fix fx))
    · exact p.elim
  · exact gen p
theorem je_add {pos : Pos} {f1 f2 : CE} (lv : Lv T Wx X) (ha : JB T Wx X a f1) (hb : JB T Wx X b f2) : JE T Wx X (.BinOp a .Add b pos) (cBin opAdd f1 f2) := by
  have ho : OpR X (binaryOp .Add) (rAddA T.K) := by
    have q : OpR X (binaryOp .Add) (rAddA X.K) := OpR.or (OpR.or op_add op_add_str) (OpR.or op_cat op_catT)
    rw [lv.hK] at q
    exact q
  exact je_op ho v_add ha hb
end
noncomputable def int2 (C : Int → Int → Bool) (f : Int → Int → D) : Wv → Wv → M Wv := fun w1 w2 S => match w1, w2 with
  | .fz (.int i), .fz (.int j) => if C i j then .ok (.fz (f i j)) S else .bad
  | _, _ => .bad
theorem v_int2 {T : Tx} {Wx : WX} {C : Int → Int → Bool} {f : Int → Int → D} {CC : Int → Int → Prop} {fv : Int → Int → V} (hC : ∀ i j, C i j = true → CC i j) (hf : ∀ i j g H, Rep T g H (f i j) (fv i j)) : V2 T Wx (RW T) (rI CC fv) (int2 C f) := by
  intro g H S σ w1 w2 v1 v2 Q rs r1 r2 p
  unfold int2 at p
  split at p
  · cases r1
    cases r2
    split at p
    · rename_i hz
      exact ⟨_, _, rfl, rfl, hC _ _ hz, PostG.now (r := RW T H) p rs (hf _ _ _ _)⟩
    · exact p.elim
  · exact p.elim
theorem v_int0 {T : Tx} {Wx : WX} {f : Int → Int → D} {fv : Int → Int → V} (hf : ∀ i j g H, Rep T g H (f i j) (fv i j)) : V2 T Wx (RW T) (rI0 fv) (int2 (fun _ _ => true) f) := by
  intro g H S σ w1 w2 v1 v2 Q rs r1 r2 p
  unfold int2 at p
  split at p
  · cases r1
    cases r2
    exact ⟨_, _, rfl, rfl, PostG.now (r := RW T H) p rs (hf _ _ _ _)⟩
  · exact p.elim
noncomputable def mulOk (i j : Int) : Bool := decide (i.natAbs.log2 + j.natAbs.log2 < 1000000) || (decide (-(2 ^ 64) < i ∧ i < 2 ^ 64) || decide (-(2 ^ 64) < j ∧ j < 2 ^ 64))
theorem mulOk_of {i j : Int} (h : mulOk i j = true) : IntMulOk i j := by
  unfold mulOk at h
  rcases Bool.or_eq_true_iff.mp h with h | h
  · exact CMulW.ok (show i.natAbs.log2 + j.natAbs.log2 < 1000000 from of_decide_eq_true h)
  · rcases Bool.or_eq_true_iff.mp h with h | h
    · exact CMul.ok (.inl (of_decide_eq_true h))
    · exact CMul.ok (.inr (of_decide_eq_true h))
noncomputable def divOk (_ j : Int) : Bool := decide (0 < j) && decide (j.natAbs.log2 < 9000)
noncomputable def powOk (i j : Int) : Bool := decide (0 ≤ j) && (decide (j ≤ 1000000) && decide (i.natAbs < 2 ^ 64))
noncomputable def modOk (_ j : Int) : Bool := decide (0 < j)
noncomputable def opSub := int2 (fun _ _ => true) fun i j => .int (i - j)
noncomputable def opDiv := int2 divOk fun i j => .int (i / j)
noncomputable def opMod := int2 modOk fun i j => .int (i % j)
noncomputable def opPow := int2 powOk fun i j => .int (i ^ j.toNat)
noncomputable def repOk (k : Int) (n : Nat) : Bool := decide (0 ≤ k) && (decide (k < 2 ^ 63) && szOk (n * k.toNat))
noncomputable def opMul : Wv → Wv → M Wv := fun w1 w2 S => match w1, w2 with
  | .fz (.int i), .fz (.int j) => if mulOk i j then .ok (.fz (.int (i * j))) S else .bad
  | w1, .fz (.int k) => match viewL S w1 with
    | some xs => if repOk k xs.length then .ok (.ow (.lst (List.replicate k.toNat xs).flatten)) S else .bad
    | none => .bad
  | _, _ => .bad
section
variable {T : Tx} {Wx : WX} {X : Cx} {e a b : Expr} {pos : Pos} {f1 f2 : CE}
theorem op_mulA : OpR X (binaryOp .Mult) (rI IntMulOk fun i j => .int (i * j)) := opI fun _ _ _ _ _ _ _ hc q => mul_int q hc
theorem je_sub (ha : JB T Wx X a f1) (hb : JB T Wx X b f2) : JE T Wx X (.BinOp a .Sub b pos) (cBin opSub f1 f2) := je_op op_sub (v_int0 fun i j _ _ => .int _) ha hb
theorem je_div (ha : JB T Wx X a f1) (hb : JB T Wx X b f2) : JE T Wx X (.BinOp a .FloorDiv b pos) (cBin opDiv f1 f2) := je_op op_fdivW (v_int2 (fun i j h => by
    rcases Bool.and_eq_true_iff.mp h with ⟨h1, h2⟩
    exact ⟨of_decide_eq_true h1, of_decide_eq_true h2⟩) fun i j _ _ => .int _) ha hb
theorem je_mod (ha : JB T Wx X a f1) (hb : JB T Wx X b f2) : JE T Wx X (.BinOp a .Mod b pos) (cBin opMod f1 f2) := je_op op_mod (v_int2 (fun i j h => of_decide_eq_true h) fun i j _ _ => .int _) ha hb
theorem je_pow (ha : JB T Wx X a f1) (hb : JB T Wx X b f2) : JE T Wx X (.BinOp a .Pow b pos) (cBin opPow f1 f2) := je_op op_pow (v_int2 (fun i j h => by
    rcases Bool.and_eq_true_iff.mp h with ⟨h1, h2⟩
    rcases Bool.and_eq_true_iff.mp h2 with ⟨h2, h3⟩
    exact ⟨of_decide_eq_true h1, of_decide_eq_true h2, of_decide_eq_true h3⟩) fun i j _ _ => .int _) ha hb
theorem Reps.rep {T : Tx} {g : Gh} {H : Hp} {ds : List D} {vs : List V} (h : Reps T g H ds vs) : ∀ k : Nat, Reps T g H (List.replicate k ds).flatten (List.replicate k vs).flatten
  | 0 => .nil
  | k + 1 => by
    rw [List.replicate_succ, List.replicate_succ, List.flatten_cons, List.flatten_cons]
    exact h.append (Reps.rep h k)
noncomputable def rMulA : R2 := fun x y H Q => rI IntMulOk (fun i j => .int (i * j)) x y H Q ∨ rRep x y H Q
theorem v_mul : V2 T Wx (RW T) rMulA opMul := by
  intro g H S σ w1 w2 v1 v2 Q rs r1 r2 p
  unfold opMul at p
  split at p
  · cases r1
    cases r2
    split at p
    · rename_i hz
      exact .inl ⟨_, _, rfl, rfl, mulOk_of hz, PostG.now (r := RW T H) p rs (.int _)⟩
    · exact p.elim
  · rename_i k hne
    cases h1 : viewL S w1 with
    | none =>
      rw [h1] at p
      exact p.elim
    | some xs =>
      rw [h1] at p
      dsimp only at p
      split at p
      · rename_i hz
        unfold repOk at hz
        rcases Bool.and_eq_true_iff.mp hz with ⟨z1, z2⟩
        rcases Bool.and_eq_true_iff.mp z2 with ⟨z2, z3⟩
        have z1' : 0 ≤ k := of_decide_eq_true z1
        have z2' : k < 2 ^ 63 := of_decide_eq_true z2
        obtain ⟨a1, vs1, rfl, q1, s1⟩ := viewL_ok rs r1 h1
        cases r2
        refine .inr ⟨a1, k, vs1, rfl, rfl, q1, by omega, z2', ?_, fun l hl => ?_⟩
        · rw [← s1.length]
          exact szOk_of z3
        · obtain ⟨g2, e2, rs2, rw2⟩ := alloc_ow (so := .lst (List.replicate k.toNat xs).flatten) rs hl (ho := .lst (List.replicate k.toNat vs1).flatten) fun g' H' fx => .lst ((s1.fix fx).rep k.toNat)
          exact p g2 _ _ e2 rs2 rw2
      · exact p.elim
  · exact p.elim
theorem je_mul (ha : JB T Wx X a f1) (hb : JB T Wx X b f2) : JE T Wx X (.BinOp a .Mult b pos) (cBin opMul f1 f2) := je_op (OpR.or op_mulA op_rep) v_mul ha hb
noncomputable def opNeg : Wv → M Wv := fun w S => match w with
  | .fz (.int i) => .ok (.fz (.int (-i))) S
  | _ => .bad
theorem je_neg (ha : JB T Wx X a f1) : JE T Wx X (.UnaryOp .USub a pos) (cUn opNeg f1) := PE.imp (pe_un un_neg ha) fun σ H Q hh_ => by
  obtain ⟨g0, H0, c, g, S, ds, fr, p⟩ := hh_
  refine tG.bind (r1 := RB T) (r2 := RW T) mono_w fr p fun w1 S1 g1 H1 v1 e1 fr1 rv1 p1 => ?_
  unfold opNeg at p1
  split at p1
  · cases rv1
    exact ⟨_, rfl, PostG.now (r := RW T H1) p1 fr1.st (.int _)⟩
  · exact p1.elim
mutual
noncomputable def toPd : D → PyData
  | .non => .none
  | .bl b => .bool b
  | .int i => .int i
  | .str x => .str x
  | .tup xs => .tuple (toPds xs)
  | .lst xs => .list (toPds xs)
  | .scr ns => .list (ns.map PyData.int)
  | .dct _ => .none
  | .ins _ _ => .none
  | .ref _ => .none
noncomputable def toPds : List D → List PyData
  | [] => []
  | d :: r => toPd d :: toPds r
end
mutual
noncomputable def isPd : D → Bool
  | .tup xs => isPds xs
  | .lst xs => isPds xs
  | .dct _ => false
  | .ins _ _ => false
  | .ref _ => false
  | _ => true
noncomputable def isPds : List D → Bool
  | [] => true
  | d :: r => isPd d && isPds r
end
mutual
theorem toPd_ok {T : Tx} {g : Gh} {H : Hp} : ∀ {d : D} {v : V}, Rep T g H d v → isPd d = true → Dp T.K H v (toPd d)
  | _, _, .non, _ => .non
  | _, _, .bl b, _ => .bl b
  | _, _, .int i, _ => .int i
  | _, _, .str x, _ => .str x
  | _, _, .tup h _ r, q => by
    rw [isPd] at q
    rw [toPd]
    exact .tup (SqT.of h) (toPds_ok r q)
  | _, _, .lst h _ r, q => by
    rw [isPd] at q
    rw [toPd]
    exact .lst (SqL.of h) (toPds_ok r q)
  | _, _, .scr h, q => by
    rw [toPd]
    refine .lst (xs := _) (ds := _) ?_ (dp_ints _)
    rcases h with ⟨h, _⟩ | h
    · exact .inl h
    · exact .inr h
  | _, _, .dct _ _ _, q => nomatch q
  | _, _, .ins _ _ _, q => nomatch q
  | _, _, .ref _, q => nomatch q
theorem toPds_ok {T : Tx} {g : Gh} {H : Hp} : ∀ {ds : List D} {vs : List V}, Reps T g H ds vs → isPds ds = true → DpAll T.K H vs (toPds ds)
  | _, _, .nil, _ => .nil
  | _, _, .cons h r, q => by
    rw [isPds, Bool.and_eq_true] at q
    rw [toPds]
    exact .cons (toPd_ok h q.1) (toPds_ok r q.2)
theorem dp_ints {K : PySem.W.Frag} {H : Hp} : ∀ ns : List Int, DpAll K H (ns.map V.int) (ns.map PyData.int)
  | [] => .nil
  | n :: r => .cons (.int n) (dp_ints r)
end
noncomputable def viewD (S : Store) (w : Wv) : Option PyData := match viewR S w with
  | some xs => if isPds xs && SeqAt.shaped (.list (toPds xs)) then some (.list (toPds xs)) else none
  | none => match w with
    | .fz d => if isPd d && SeqAt.shaped (toPd d) then some (toPd d) else none
    | _ => none
theorem viewD_ok {T : Tx} {g : Gh} {H : Hp} {S : Store} {w : Wv} {v : V} {d : PyData} (rs : RelS T g S H) (r : RepB T g H w v) (h : viewD S w = some d) : Dp T.K H v d ∧ SeqAt.shaped d = true := by
  unfold viewD at h
  split at h
  · rename_i xs hx
    split at h
    · rename_i hz
      cases h
      rcases Bool.and_eq_true_iff.mp hz with ⟨z1, z2⟩
      obtain ⟨a, vs, rfl, q, s⟩ := viewR_ok rs r hx
      exact ⟨.lst q (toPds_ok s z1), z2⟩
    · cases h
  · split at h
    · split at h
      · rename_i hz
        cases h
        rcases Bool.and_eq_true_iff.mp hz with ⟨z1, z2⟩
        exact ⟨toPd_ok r z1, z2⟩
      · cases h
    · cases h
noncomputable def refsEq : List D → List D → Bool
  | [], [] => true
  | .ref n :: r, .ref m :: t => decide (n = m) && refsEq r t
  | _, _ => false
theorem refsEq_nil {xs : List D} (h : refsEq xs [] = true) : xs = [] := by
  cases xs with
  | nil => rfl
  | cons x r => cases x <;> cases h
theorem refsEq_cons {x y : D} {r t : List D} (h : refsEq (x :: r) (y :: t) = true) : ∃ n, x = .ref n ∧ y = .ref n ∧ refsEq r t = true := by
  cases x <;> cases y <;> first | (cases h; done) | skip
  rename_i n m
  rcases Bool.and_eq_true_iff.mp h with ⟨h1, h2⟩
  have e : n = m := of_decide_eq_true h1
  exact ⟨n, rfl, by rw [e], h2⟩
theorem refsEq_ok {T : Tx} {g : Gh} {H : Hp} {xs ys : List D} {us vs : List V} (h : refsEq xs ys = true) (r1 : Reps T g H xs us) (r2 : Reps T g H ys vs) : us = vs := by
  induction ys generalizing xs us vs with
  | nil =>
    have e := refsEq_nil h
    subst e
    cases r1
    cases r2
    rfl
  | cons y t ih =>
    cases xs with
    | nil => cases h
    | cons x r =>
      obtain ⟨n, e1, e2, h2⟩ := refsEq_cons h
      subst e1
      subst e2
      cases r1 with
      | cons a r1 =>
        cases r2 with
        | cons b r2 =>
          rw [ih h2 r1 r2]
          cases a with
          | ref a =>
            cases b with
            | ref b =>
              rw [a] at b
              cases b
              rfl
noncomputable def keyD : D → Option Key
  | .int i => some (.inl i)
  | .str x => some (.inr x)
  | _ => none
noncomputable def keyW : Wv → Option Key
  | .fz d => keyD d
  | _ => none
noncomputable def viewK (S : Store) : Wv → Option (List (Key × D))
  | .fz (.dct xs) => some xs
  | .ow (.dct xs) => some xs
  | .fz (.ref n) => match S[n]? with
    | some (.dct xs) => some xs
    | _ => none
  | _ => none
noncomputable def lkD (kvs : List (Key × D)) (k : Key) : Option D := (kvs.find? fun kv => decide (kv.1 = k)).map (·.2)
noncomputable def putD (kvs : List (Key × D)) (k : Key) (v : D) : List (Key × D) := if kvs.any fun kv => decide (kv.1 = k) then kvs.map fun kv => if kv.1 = k then (kv.1, v) else kv else kvs ++ [(k, v)]
noncomputable def delD (kvs : List (Key × D)) (k : Key) : List (Key × D) := kvs.filter fun kv => decide (kv.1 ≠ k)
section
variable {T : Tx} {g : Gh} {H : Hp} {S : Store} {w : Wv} {v : V} {xs : List (Key × D)}
theorem viewK_ok (rs : RelS T g S H) (r : RepB T g H w v) (h : viewK S w = some xs) : ∃ a vs, v = .ref a ∧ Rd H a (.dK vs) ∧ RepK T g H xs vs := by
  cases w with
  | fz d =>
    cases d with
    | dct ys =>
      cases h
      cases r with
      | dct h1 _ h2 => exact ⟨_, _, rfl, .inr ⟨_, h1⟩, h2⟩
    | ref n =>
      cases r with
      | ref hio =>
        unfold viewK at h
        dsimp only at h
        cases hn : S[n]? with
        | none =>
          rw [hn] at h
          cases h
        | some so =>
          rw [hn] at h
          cases so with
          | dct ys =>
            cases h
            obtain ⟨ho, h1, h2⟩ := rs.obj n _ _ hn hio
            cases h2 with
            | dct h2 => exact ⟨_, _, rfl, .inl h1, h2⟩
          | lst _ => cases h
          | ins _ _ => cases h
    | _ => cases h
  | ow so =>
    obtain ⟨a, ho, rfl, _, h1, h2⟩ := r
    cases so with
    | dct ys =>
      cases h
      cases h2 with
      | dct h2 => exact ⟨_, _, rfl, .inl h1, h2⟩
    | lst _ => cases h
    | ins _ _ => cases h
  | xc => cases h
theorem RepK.length {T : Tx} {g : Gh} {H : Hp} : ∀ {ds : List (Key × D)} {vs : List (Key × V)}, RepK T g H ds vs → ds.length = vs.length
  | _, _, .nil => rfl
  | _, _, .cons _ r => congrArg (· + 1) (RepK.length r)
theorem RepK.lk {T : Tx} {g : Gh} {H : Hp} {k : Key} : ∀ {ds : List (Key × D)} {vs : List (Key × V)}, RepK T g H ds vs → (lkD ds k = none ∧ valV vs k = none) ∨ ∃ d v, lkD ds k = some d ∧ valV vs k = some v ∧ Rep T g H d v
  | _, _, .nil => .inl ⟨rfl, rfl⟩
  | (j, d) :: ds, (_, v) :: vs, .cons h r => by
    by_cases e : j = k
    · refine .inr ⟨d, v, ?_, valV_pos e, h⟩
      simp [lkD, List.find?_cons, e]
    · rw [valV_neg (p := (j, v)) e, show lkD ((j, d) :: ds) k = lkD ds k by simp [lkD, List.find?_cons, e]]
      exact RepK.lk r
end
theorem DGet.kr {H : Hp} {a : Addr} {kvs : List (Key × V)} {k : Key} (e : Rd H a (.dK kvs)) : DGet H a (kV k) (valV kvs k) := .inl ⟨kvs, k, e, rfl, rfl⟩
noncomputable def pdK (xs : List (Key × D)) : Bool := xs.all fun kv => isPd kv.2 && SeqAt.shaped (toPd kv.2)
noncomputable def eqK (xs ys : List (Key × D)) : Bool := xs.length == ys.length && xs.all fun kv => match lkD ys kv.1 with
  | some d => PyData.eqv (toPd kv.2) (toPd d)
  | none => false
inductive DpK (K : PySem.W.Frag) (H : Hp) : List (Key × V) → List (Key × PyData) → Prop
  | nil : DpK K H [] []
  | cons {k : Key} {v : V} {d : PyData} {vs : List (Key × V)} {ds : List (Key × PyData)} : Dp K H v d → SeqAt.shaped d = true → DpK K H vs ds → DpK K H ((k, v) :: vs) ((k, d) :: ds)
noncomputable def lkP (ds : List (Key × PyData)) (k : Key) : Option PyData := (ds.find? fun kv => decide (kv.1 = k)).map (·.2)
noncomputable def eqP (xs ys : List (Key × PyData)) : Bool := xs.length == ys.length && xs.all fun kv => match lkP ys kv.1 with
  | some d => PyData.eqv kv.2 d
  | none => false
theorem DpK.len {K : PySem.W.Frag} {H : Hp} {vs : List (Key × V)} {ds : List (Key × PyData)} (h : DpK K H vs ds) : vs.length = ds.length := by
  induction h with
  | nil => rfl
  | cons _ _ _ ih => rw [List.length_cons, List.length_cons, ih]
theorem DpK.lk {K : PySem.W.Frag} {H : Hp} {vs : List (Key × V)} {ds : List (Key × PyData)} (h : DpK K H vs ds) (k : Key) : (lkP ds k = none ∧ valV vs k = none) ∨ ∃ d v, lkP ds k = some d ∧ valV vs k = some v ∧ Dp K H v d ∧ SeqAt.shaped d = true := by
  induction h with
  | nil => exact .inl ⟨rfl, rfl⟩
  | @cons j v d vs ds h1 h2 h3 ih =>
    by_cases e : j = k
    · refine .inr ⟨d, v, ?_, valV_pos e, h1, h2⟩
      simp [lkP, List.find?_cons, e]
    · rw [valV_neg (p := (j, v)) e, show lkP ((j, d) :: ds) k = lkP ds k by simp [lkP, List.find?_cons, e]]
      exact ih
theorem dpK_ok {T : Tx} {g : Gh} {H : Hp} : ∀ {xs : List (Key × D)} {vs : List (Key × V)}, RepK T g H xs vs → pdK xs = true → DpK T.K H vs (xs.map fun kv => (kv.1, toPd kv.2))
  | _, _, .nil, _ => .nil
  | _, _, .cons h r, q => by
    unfold pdK at q
    rw [List.all_cons, Bool.and_eq_true, Bool.and_eq_true] at q
    exact .cons (toPd_ok h q.1.1) q.1.2 (dpK_ok r q.2)
theorem lkP_map (xs : List (Key × D)) (k : Key) : lkP (xs.map fun kv => (kv.1, toPd kv.2)) k = (lkD xs k).map toPd := by
  induction xs with
  | nil => rfl
  | cons p r ih =>
    by_cases e : p.1 = k
    · simp [lkP, lkD, List.find?_cons, e]
    · rw [List.map_cons, show lkP ((p.1, toPd p.2) :: r.map fun kv => (kv.1, toPd kv.2)) k = lkP (r.map fun kv => (kv.1, toPd kv.2)) k by simp [lkP, List.find?_cons, e], ih, show lkD (p :: r) k = lkD r k by simp [lkD, List.find?_cons, e]]
theorem eqP_map (xs ys : List (Key × D)) : eqP (xs.map fun kv => (kv.1, toPd kv.2)) (ys.map fun kv => (kv.1, toPd kv.2)) = eqK xs ys := by
  unfold eqP eqK
  rw [List.length_map, List.length_map, List.all_map]
  congr 1
  refine congrArg (fun f => List.all xs f) (funext fun kv => ?_)
  show (match lkP (ys.map fun kv => (kv.1, toPd kv.2)) kv.1 with | some d => PyData.eqv (toPd kv.2) d | none => false) = _
  rw [lkP_map]
  cases lkD ys kv.1 <;> rfl
theorem hits_of {X : Cx} {pins : List (Addr × Obj)} {s : Shared} {σ : L2.St} {H : Hp} (I : Inv X pins σ H s) (hu : X.A.units + 66 < cLine) {ys : List (Key × V)} {kb : List (Key × Value)} {es : List (Key × PyData)} (rb : KV ys kb) (hb : DpK X.K H ys es) :
    ∀ {xs : List (Key × V)} {ka : List (Key × Value)} {ds : List (Key × PyData)}, KV xs ka → DpK X.K H xs ds → PySem.W.KeqHits X.A.in1 s kb ka (ds.all fun kv => match lkP es kv.1 with
      | some d => PyData.eqv kv.2 d
      | none => false) := by
  intro xs ka ds ra ha
  induction ha generalizing ka with
  | nil => cases ra; exact .nil
  | @cons k v d vs ds h1 h2 h3 ih =>
    cases ra with
    | @cons _ q _ qs h t =>
      obtain ⟨e1, rv⟩ := h
      obtain ⟨k', u⟩ := q
      dsimp only at e1 rv
      subst e1
      rw [List.all_cons]
      have rel := rb.val k
      rcases hb.lk k with ⟨z1, z2⟩ | ⟨d', v', z1, z2, z3, z4⟩
      · rw [z2] at rel
        rw [z1, Bool.false_and]
        refine .miss ?_
        cases q : valueAt kb k with
        | none => rfl
        | some _ => rw [q] at rel; exact (show False from rel).elim
      · rw [z2] at rel
        rw [z1]
        cases q : valueAt kb k with
        | none => rw [q] at rel; exact (show False from rel).elim
        | some u' =>
          rw [q] at rel
          obtain ⟨as, r1⟩ := Dp.reads I d v u h1 rv
          obtain ⟨bs, r2⟩ := Dp.reads I d' v' u' z3 rel
          exact .hit q (PySem.W.keq_at r1 r2 h2 z4 (by rw [Around.in1_units]; omega)) (ih t)
noncomputable def rEqK (f : Bool → Bool) (K : PySem.W.Frag) : R2 := fun x y H Q => ∃ (p q : Addr) (xs ys : List (Key × V)) (ds es : List (Key × PyData)), x = .ref p ∧ y = .ref q ∧ Rd H p (.dK xs) ∧ Rd H q (.dK ys) ∧ DpK K H xs ds ∧ DpK K H ys es ∧ Q (.bl (f (eqP ds es))) H
theorem op_eqK {X : Cx} (hu : X.A.units + 66 < cLine) : OpR X (compareOp .Eq) (rEqK id X.K) := by
  intro pins s σ H x y v u Q I rx ry h
  obtain ⟨p, q, xs, ys, ds, es, rfl, rfl, hp, hq, h1, h2, qq⟩ := h
  cases rx
  cases ry
  obtain ⟨_, la, ka, ra, da⟩ := dk_rd I.hok hp
  obtain ⟨_, lb, kb, rb, db⟩ := dk_rd I.hok hq
  refine PySem.W.keq_eq la lb da db (by omega) (fun _ => hits_of I hu rb h2 ra h1) ⟨.bl _, H, I, rfl, ?_⟩
  rw [← ra.length, ← rb.length, h1.len, h2.len]
  exact qq
theorem op_neK {X : Cx} (hu : X.A.units + 66 < cLine) : OpR X (compareOp .NotEq) (rEqK not X.K) := by
  intro pins s σ H x y v u Q I rx ry h
  obtain ⟨p, q, xs, ys, ds, es, rfl, rfl, hp, hq, h1, h2, qq⟩ := h
  cases rx
  cases ry
  obtain ⟨_, la, ka, ra, da⟩ := dk_rd I.hok hp
  obtain ⟨_, lb, kb, rb, db⟩ := dk_rd I.hok hq
  refine PySem.W.keq_ne la lb da db (by omega) (fun _ => hits_of I hu rb h2 ra h1) ⟨.bl _, H, I, rfl, ?_⟩
  rw [← ra.length, ← rb.length, h1.len, h2.len]
  exact qq
noncomputable def opEq : Wv → Wv → M Bool := fun w1 w2 S => match w1, w2 with
  | .fz (.int i), .fz (.int j) => .ok (decide (i = j)) S
  | .fz (.str x), .fz (.str y) => .ok (decide (x = y)) S
  | w1, w2 => match viewD S w1, viewD S w2 with
    | some a, some b => .ok (PyData.eqv a b) S
    | _, _ => match viewR S w1, viewR S w2 with
      | some xs, some ys => if xs.length = ys.length then (if refsEq xs ys then .ok true S else .bad) else .ok false S
      | _, _ => match viewK S w1, viewK S w2 with
        | some xs, some ys => if pdK xs && pdK ys then .ok (eqK xs ys) S else .bad
        | _, _ => .bad
noncomputable abbrev RBl : Rl Bool V := fun _ _ _ b v => v = .bl b
theorem mono_bl : Mono RBl := fun _ _ _ _ _ _ _ r => r
noncomputable def rEqL (b : Bool) (K : PySem.W.Frag) : R2 := fun x y H Q => ∃ (p q : Addr) (xs ys : List V), x = .ref p ∧ y = .ref q ∧ SqL K H p xs ∧ SqL K H q ys ∧ xs.length ≠ ys.length ∧ Q (.bl b) H
theorem op_eqL {X : Cx} (hu : X.A.units < cLine) : OpR X (compareOp .Eq) (rEqL false X.K) := by
  intro pins s σ H x y v u Q I rx ry h
  obtain ⟨p, q, xs, ys, rfl, rfl, hp, hq, hl, qq⟩ := h
  cases rx
  cases ry
  obtain ⟨its, r1, p1, _⟩ := I.list hp
  obtain ⟨its2, r2, p2, _⟩ := I.list hq
  exact SeqAt.RcAt.lists_lengths p1.isList p2.isList (by rw [List.size_toArray, List.size_toArray, ← r1.length, ← r2.length]; simpa using hl) hu X.prog X.w X.xe (EP X pins σ Q) ⟨.bl _, H, I, rfl, qq⟩
theorem op_neL {X : Cx} (hu : X.A.units < cLine) : OpR X (compareOp .NotEq) (rEqL true X.K) := by
  intro pins s σ H x y v u Q I rx ry h
  obtain ⟨p, q, xs, ys, rfl, rfl, hp, hq, hl, qq⟩ := h
  cases rx
  cases ry
  obtain ⟨its, r1, p1, _⟩ := I.list hp
  obtain ⟨its2, r2, p2, _⟩ := I.list hq
  exact SeqAt.RcNeAt.lists_lengths p1.isList p2.isList (by rw [List.size_toArray, List.size_toArray, ← r1.length, ← r2.length]; simpa using hl) hu X.prog X.w X.xe (EP X pins σ Q) ⟨.bl _, H, I, rfl, qq⟩
noncomputable def rEqS (b : Bool) (K : PySem.W.Frag) : R2 := fun x y H Q => ∃ (p q : Addr) (xs : List V), x = .ref p ∧ y = .ref q ∧ SqL K H p xs ∧ SqL K H q xs ∧ (∀ v ∈ xs, ∃ a, v = .ref a) ∧ Q (.bl b) H
theorem vals_refs : ∀ {xs : List V} {us us' : List Value}, (∀ v ∈ xs, ∃ a, v = V.ref a) → Vals xs us → Vals xs us' → us = us'
  | [], _, _, _, .nil, .nil => rfl
  | x :: r, _, _, h, .cons r1 t1, .cons r2 t2 => by
    obtain ⟨a, rfl⟩ := h x List.mem_cons_self
    cases r1
    cases r2
    rw [vals_refs (fun v hv => h v (List.mem_cons_of_mem _ hv)) t1 t2]
theorem op_eqS {X : Cx} (hu : X.A.units < cLine) : OpR X (compareOp .Eq) (rEqS true X.K) := by
  intro pins s σ H x y v u Q I rx ry h
  obtain ⟨p, q, xs, rfl, rfl, hp, hq, hr, qq⟩ := h
  cases rx
  cases ry
  obtain ⟨its, r1, p1, _⟩ := I.list hp
  obtain ⟨its2, r2, p2, _⟩ := I.list hq
  obtain rfl := vals_refs hr r1 r2
  refine SeqAt.RcAt.lists (e := fun _ => true) p1.isList p2.isList rfl hu (fun j h1 h2 => SeqAt.EqAt.same _) X.prog X.w X.xe (EP X pins σ Q) ⟨.bl true, H, I, ?_, qq⟩
  show Value.bool _ = _
  simp
theorem op_neS {X : Cx} (hu : X.A.units < cLine) : OpR X (compareOp .NotEq) (rEqS false X.K) := by
  intro pins s σ H x y v u Q I rx ry h
  obtain ⟨p, q, xs, rfl, rfl, hp, hq, hr, qq⟩ := h
  cases rx
  cases ry
  obtain ⟨its, r1, p1, _⟩ := I.list hp
  obtain ⟨its2, r2, p2, _⟩ := I.list hq
  obtain rfl := vals_refs hr r1 r2
  refine SeqAt.RcNeAt.lists (e := fun _ => true) p1.isList p2.isList rfl hu (fun j h1 h2 => SeqAt.EqAt.same _) X.prog X.w X.xe (EP X pins σ Q) ⟨.bl false, H, I, ?_, qq⟩
  show Value.bool _ = _
  simp
theorem refs_all {T : Tx} {g : Gh} {H : Hp} {xs ys : List D} {us : List V} (h : refsEq xs ys = true) (r1 : Reps T g H xs us) : ∀ v ∈ us, ∃ a, v = V.ref a := by
  induction ys generalizing xs us with
  | nil =>
    have e := refsEq_nil h
    subst e
    cases r1
    exact fun _ z => (nomatch z)
  | cons y t ih =>
    cases xs with
    | nil => cases h
    | cons x r =>
      obtain ⟨n, e1, e2, h2⟩ := refsEq_cons h
      subst e1
      cases r1 with
      | cons a r1 =>
        intro v hv
        rcases List.mem_cons.mp hv with e | z
        · subst e
          cases a
          exact ⟨_, rfl⟩
        · exact ih h2 r1 v z
noncomputable def rEqA (K : PySem.W.Frag) : R2 := fun x y H Q => rEq x y H Q ∨ rEqD K x y H Q ∨ rEqL false K x y H Q ∨ rEqS true K x y H Q ∨ rEqK id K x y H Q
noncomputable def rNeA (K : PySem.W.Frag) : R2 := fun x y H Q => rNe x y H Q ∨ rNeD K x y H Q ∨ rEqL true K x y H Q ∨ rEqS false K x y H Q ∨ rEqK not K x y H Q
noncomputable def notM (k : Wv → Wv → M Bool) : Wv → Wv → M Bool := fun w1 w2 S => bindR (k w1 w2 S) fun b S => .ok (!b) S
theorem v_eq : V2 T Wx RBl (rEqA T.K) opEq := by
  intro g H S σ w1 w2 v1 v2 Q rs r1 r2 p
  unfold opEq at p
  split at p
  · rename_i i j
    cases r1
    cases r2
    refine .inl ⟨rfl, ?_⟩
    have e : decide (V.int i = V.int j) = decide (i = j) := by simp
    rw [e]
    exact PostG.now (r := RBl H) p rs rfl
  · rename_i i j
    cases r1
    cases r2
    refine .inl ⟨rfl, ?_⟩
    have e : decide (V.str i = V.str j) = decide (i = j) := by simp
    rw [e]
    exact PostG.now (r := RBl H) p rs rfl
  · split at p
    · rename_i d1 d2 h1 h2
      obtain ⟨q1, s1⟩ := viewD_ok rs r1 h1
      obtain ⟨q2, s2⟩ := viewD_ok rs r2 h2
      exact .inr (.inl ⟨d1, d2, q1, q2, s1, s2, PostG.now (r := RBl H) p rs rfl⟩)
    · split at p
      · rename_i xs ys hx hy
        obtain ⟨a1, us1, rfl, l1, t1⟩ := viewR_ok rs r1 hx
        obtain ⟨a2, us2, rfl, l2, t2⟩ := viewR_ok rs r2 hy
        split at p
        · split at p
          · rename_i hz
            have e := refsEq_ok hz t1 t2
            subst e
            exact .inr (.inr (.inr (.inl ⟨a1, a2, us1, rfl, rfl, l1, l2, refs_all hz t1, PostG.now (r := RBl H) p rs rfl⟩)))
          · exact p.elim
        · rename_i hl
          exact .inr (.inr (.inl ⟨a1, a2, us1, us2, rfl, rfl, l1, l2, by rw [← t1.length, ← t2.length]; exact hl, PostG.now (r := RBl H) p rs rfl⟩))
      · split at p
        · rename_i xs ys hx hy
          obtain ⟨a1, us1, rfl, l1, t1⟩ := viewK_ok rs r1 hx
          obtain ⟨a2, us2, rfl, l2, t2⟩ := viewK_ok rs r2 hy
          split at p
          · rename_i hz
            rcases Bool.and_eq_true_iff.mp hz with ⟨z1, z2⟩
            refine .inr (.inr (.inr (.inr ⟨a1, a2, us1, us2, _, _, rfl, rfl, l1, l2, dpK_ok t1 z1, dpK_ok t2 z2, ?_⟩)))
            rw [eqP_map]
            exact PostG.now (r := RBl H) p rs rfl
          · exact p.elim
        · exact p.elim
theorem v_ne : V2 T Wx RBl (rNeA T.K) (notM opEq) := by
  intro g H S σ w1 w2 v1 v2 Q rs r1 r2 p
  unfold notM opEq at p
  split at p
  · rename_i i j
    cases r1
    cases r2
    refine .inl ⟨rfl, ?_⟩
    have e : decide (V.int i = V.int j) = decide (i = j) := by simp
    rw [e]
    exact PostG.now (r := RBl H) p rs rfl
  · rename_i i j
    cases r1
    cases r2
    refine .inl ⟨rfl, ?_⟩
    have e : decide (V.str i = V.str j) = decide (i = j) := by simp
    rw [e]
    exact PostG.now (r := RBl H) p rs rfl
  · split at p
    · rename_i d1 d2 h1 h2
      obtain ⟨q1, s1⟩ := viewD_ok rs r1 h1
      obtain ⟨q2, s2⟩ := viewD_ok rs r2 h2
      exact .inr (.inl ⟨d1, d2, q1, q2, s1, s2, PostG.now (r := RBl H) p rs rfl⟩)
    · split at p
      · rename_i xs ys hx hy
        obtain ⟨a1, us1, rfl, l1, t1⟩ := viewR_ok rs r1 hx
        obtain ⟨a2, us2, rfl, l2, t2⟩ := viewR_ok rs r2 hy
        split at p
        · split at p
          · rename_i hz
            have e := refsEq_ok hz t1 t2
            subst e
            exact .inr (.inr (.inr (.inl ⟨a1, a2, us1, rfl, rfl, l1, l2, refs_all hz t1, PostG.now (r := RBl H) p rs rfl⟩)))
          · exact p.elim
        · rename_i hl
          exact .inr (.inr (.inl ⟨a1, a2, us1, us2, rfl, rfl, l1, l2, by rw [← t1.length, ← t2.length]; exact hl, PostG.now (r := RBl H) p rs rfl⟩))
      · split at p
        · rename_i xs ys hx hy
          obtain ⟨a1, us1, rfl, l1, t1⟩ := viewK_ok rs r1 hx
          obtain ⟨a2, us2, rfl, l2, t2⟩ := viewK_ok rs r2 hy
          split at p
          · rename_i hz
            rcases Bool.and_eq_true_iff.mp hz with ⟨z1, z2⟩
            refine .inr (.inr (.inr (.inr ⟨a1, a2, us1, us2, _, _, rfl, rfl, l1, l2, dpK_ok t1 z1, dpK_ok t2 z2, ?_⟩)))
            rw [eqP_map]
            exact PostG.now (r := RBl H) p rs rfl
          · exact p.elim
        · exact p.elim
noncomputable def cmpI (p : Int → Int → Bool) : Wv → Wv → M Bool := fun w1 w2 S => match w1, w2 with
  | .fz (.int i), .fz (.int j) => .ok (p i j) S
  | _, _ => .bad
theorem v_cmpI {p : Int → Int → Bool} : V2 T Wx RBl (rI0 fun i j => .bl (p i j)) (cmpI p) := by
  intro g H S σ w1 w2 v1 v2 Q rs r1 r2 p
  unfold cmpI at p
  split at p
  · cases r1
    cases r2
    exact ⟨_, _, rfl, rfl, PostG.now (r := RBl H) p rs rfl⟩
  · exact p.elim
noncomputable def opLt := cmpI fun i j => decide (i < j)
noncomputable def opLe := cmpI fun i j => decide (i ≤ j)
noncomputable def opGt := cmpI fun i j => decide (j < i)
noncomputable def opGe := cmpI fun i j => decide (j ≤ i)
noncomputable def isNon : Wv → Bool
  | .fz .non => true
  | _ => false
noncomputable def opIsN : Wv → Wv → M Bool := fun w1 w2 S => match w2 with
  | .fz .non => .ok (isNon w1) S
  | _ => .bad
noncomputable def rIsN' : R2 := fun x y H Q => y = .non ∧ Q (.bl (decide (x = .non))) H
noncomputable def rNotN' : R2 := fun x y H Q => y = .non ∧ Q (.bl (!decide (x = .non))) H
theorem isNon_ok {T : Tx} {g : Gh} {H : Hp} {w : Wv} {v : V} (r : RepB T g H w v) : decide (v = .non) = isNon w := by
  cases w with
  | fz d => cases r <;> simp [isNon]
  | ow so =>
    obtain ⟨a, ho, rfl, _⟩ := r
    simp [isNon]
  | xc => exact r.elim
theorem v_isN : V2 T Wx RBl rIsN' opIsN := by
  intro g H S σ w1 w2 v1 v2 Q rs r1 r2 p
  unfold opIsN at p
  split at p
  · cases r2
    refine ⟨rfl, ?_⟩
    rw [isNon_ok r1]
    exact PostG.now (r := RBl H) p rs rfl
  · exact p.elim
theorem v_notN : V2 T Wx RBl rNotN' (notM opIsN) := by
  intro g H S σ w1 w2 v1 v2 Q rs r1 r2 p
  unfold notM opIsN at p
  split at p
  · cases r2
    refine ⟨rfl, ?_⟩
    rw [isNon_ok r1]
    exact PostG.now (r := RBl H) p rs rfl
  · exact p.elim
end
end Mir
set_option Elab.async false
set_option linter.all false
set_option maxRecDepth 100000
namespace Mir
open PySem PySem.Spec PyProof.Rows L2
noncomputable def cBl (f : Env → M Bool) : CE := fun ds S => bindR (f ds S) fun b S => .ok (.fz (.bl b)) S
section
variable {T : Tx} {Wx : WX} {X : Cx} {e a b c' : Expr} {f1 f2 f3 : CE}
theorem PE.or {e : Expr} {t t' : TE} (h : PE X e t) (h' : PE X e t') : PE X e (fun σ H Q => t σ H Q ∨ t' σ H Q) := ⟨fun pins s σ H Q I q => q.elim (h.run pins s σ H Q I) (h'.run pins s σ H Q I)⟩
theorem PT.or {e : Expr} {t t' : TT} (h : PT X e t) (h' : PT X e t') : PT X e (fun σ H Q => t σ H Q ∨ t' σ H Q) := ⟨fun pins s σ H Q I q => q.elim (h.run pins s σ H Q I) (h'.run pins s σ H Q I)⟩
theorem tb_v {f : Env → M Bool} {σ : SV} {H : Hp} {Q : VK} (h : tG T Wx (RW T) (cBl f) σ H Q) : tG T Wx RBl f σ H Q := by
  obtain ⟨g0, H0, c, g, S, ds, fr, p⟩ := h
  exact tG.bind (r1 := RBl) (r2 := RW T) mono_w fr p fun b S1 g1 H1 v e1 fr1 rv p1 => by
    subst rv
    exact PostG.now (r := RW T H1) p1 fr1.st (.bl b)
theorem tb_t {f : Env → M Bool} {σ : SV} {H : Hp} {Q : Bool → Hp → Prop} (h : tG T Wx RT f σ H Q) : tG T Wx RBl f σ H (fun x H' => ∃ k, x = .bl k ∧ Q k H') := by
  obtain ⟨g0, H0, c, g, S, ds, fr, p⟩ := h
  refine ⟨g0, H0, c, g, S, ds, fr, ?_⟩
  cases q : f ds S with
  | ok b S1 =>
    rw [q] at p
    intro g1 H1 v e1 rs rv
    exact ⟨b, rv, p g1 H1 b e1 rs rfl⟩
  | ex x S1 =>
    rw [q] at p
    exact p
  | bad =>
    rw [q] at p
    exact p
theorem je_cmp {op : CmpOp} {pos : Pos} {r : R2} {k : Wv → Wv → M Bool} (ho : OpR X (compareOp op) r) (hv : V2 T Wx RBl r k) (ha : JB T Wx X a f1) (hb : JB T Wx X b f2) (hm : behindInMarks op b = false) : JE T Wx X (.Compare a [op] [b] pos) (cBl (cBin k f1 f2)) :=
  PE.imp (pe_cmpR ho ha hb hm) fun σ H Q h => t2 mono_bl hv (tb_v h)
theorem jt_cmp {op : CmpOp} {pos : Pos} {r : R2} {k : Wv → Wv → M Bool} (ho : OpR X (compareOp op) r) (hv : V2 T Wx RBl r k) (ha : JB T Wx X a f1) (hb : JB T Wx X b f2) (hm : behindInMarks op b = false) : JT T Wx X (.Compare a [op] [b] pos) (cBin k f1 f2) :=
  PT.imp (pt_cmpR ho ha hb hm) fun σ H Q h => t2 mono_bl hv (tb_t h)
noncomputable def cChain (k k' : Wv → Wv → M Bool) (f1 f2 f3 : CE) : Env → M Bool := fun ds S => bindR (f1 ds S) fun w1 S => bindR (f2 ds S) fun w2 S => bindR (k w1 w2 S) fun b S =>
  if b then bindR (f3 ds S) fun w3 S => k' w2 w3 S else .ok false S
theorem tchain {r r' : R2} {k k' : Wv → Wv → M Bool} (hv : V2 T Wx RBl r k) (hv' : V2 T Wx RBl r' k') {σ : SV} {H : Hp} {Q : VK} (h : tG T Wx RBl (cChain k k' f1 f2 f3) σ H Q) :
    tChain r r' (tG T Wx (RB T) f1) (tG T Wx (RB T) f2) (tG T Wx (RB T) f3) σ H Q := by
  obtain ⟨g0, H0, c, g, S, ds, fr, p⟩ := h
  refine tG.bind (r1 := RB T) (r2 := RBl) mono_bl fr p fun w1 S1 g1 H1 v1 e1 fr1 rv1 p1 => ?_
  refine tG.bind (r1 := RB T) (r2 := RBl) mono_bl fr1 p1 fun w2 S2 g2 H2 v2 e2 fr2 rv2 p2 => ?_
  refine hv g2 H2 S2 σ w1 w2 v1 v2 _ fr2.st (rv1.ext e2 fr1.st) rv2 (PostG.bind (r1 := RBl) (r2 := RBl) mono_bl fr2 p2 fun b S3 g3 H3 v3 e3 fr3 rv3 p3 => ?_)
  refine ⟨b, rv3, ?_⟩
  cases b with
  | true =>
    rw [if_pos rfl] at p3 ⊢
    refine tG.bind (r1 := RB T) (r2 := RBl) mono_bl fr3 p3 fun w4 S4 g4 H4 v4 e4 fr4 rv4 p4 => ?_
    exact hv' g4 H4 S4 σ w2 w4 v2 v4 _ fr4.st (rv2.ext (e3.trans e4) fr2.st) rv4 p4
  | false =>
    rw [if_neg Bool.false_ne_true] at p3 ⊢
    exact PostG.now (r := RBl H3) p3 fr3.st rfl
theorem je_chain {op op' : CmpOp} {pos : Pos} {r r' : R2} {k k' : Wv → Wv → M Bool} (ho : OpR X (compareOp op) r) (ho' : OpR X (compareOp op') r') (hv : V2 T Wx RBl r k) (hv' : V2 T Wx RBl r' k') (ha : JB T Wx X a f1) (hb : JB T Wx X b f2) (hc : JB T Wx X c' f3)
    (hm : lastMarks [op, op'] [b, c'] = false := by with_unfolding_all rfl) : JE T Wx X (.Compare a [op, op'] [b, c'] pos) (cBl (cChain k k' f1 f2 f3)) := PE.imp (pe_chain ho ho' ha hb hc hm) fun σ H Q h => tchain hv hv' (tb_v h)
theorem jt_chain {op op' : CmpOp} {pos : Pos} {r r' : R2} {k k' : Wv → Wv → M Bool} (ho : OpR X (compareOp op) r) (ho' : OpR X (compareOp op') r') (hv : V2 T Wx RBl r k) (hv' : V2 T Wx RBl r' k') (ha : JB T Wx X a f1) (hb : JB T Wx X b f2) (hc : JB T Wx X c' f3)
    (hm : lastMarks [op, op'] [b, c'] = false := by with_unfolding_all rfl) : JT T Wx X (.Compare a [op, op'] [b, c'] pos) (cChain k k' f1 f2 f3) := PT.imp (pt_chain ho ho' ha hb hc hm) fun σ H Q h => tchain hv hv' (tb_t h)
noncomputable def JW (T : Tx) (Wx : WX) (X : Cx) (e : Expr) (f : Env → M Bool) : Prop := PW X e (tG T Wx RT f)
noncomputable def cAnd (p q : Env → M Bool) : Env → M Bool := fun ds S => bindR (p ds S) fun b S => if b then q ds S else .ok false S
noncomputable def cOr (p q : Env → M Bool) : Env → M Bool := fun ds S => bindR (p ds S) fun b S => if b then .ok true S else q ds S
noncomputable def cNot (p : Env → M Bool) : Env → M Bool := fun ds S => bindR (p ds S) fun b S => .ok (!b) S
variable {p q : Env → M Bool} {rest : List Expr} {pos : Pos}
theorem jw_and1 (h : JT T Wx X a p) : JW T Wx X (.BoolOp .And [a] pos) p := pw_and1 h
theorem jw_or1 (h : JT T Wx X a p) : JW T Wx X (.BoolOp .Or [a] pos) p := pw_or1 h
theorem jw_and (h : JT T Wx X a p) (h' : JW T Wx X (.BoolOp .And (b :: rest) pos) q) : JW T Wx X (.BoolOp .And (a :: b :: rest) pos) (cAnd p q) := PW.imp (pw_and h h') fun σ H Q hh_ => by
  obtain ⟨g0, H0, c, g, S, ds, fr, pp⟩ := hh_
  refine tG.bind (r1 := RT) (r2 := RT) mono_t fr pp fun b' S1 g1 H1 v1 e1 fr1 rv1 p1 => ?_
  subst rv1
  cases b' with
  | true => exact ⟨g0, H0, c, g1, S1, ds, fr1, p1⟩
  | false => exact PostG.now (r := RT H1) p1 fr1.st rfl
theorem jw_or (h : JT T Wx X a p) (h' : JW T Wx X (.BoolOp .Or (b :: rest) pos) q) : JW T Wx X (.BoolOp .Or (a :: b :: rest) pos) (cOr p q) := PW.imp (pw_or h h') fun σ H Q hh_ => by
  obtain ⟨g0, H0, c, g, S, ds, fr, pp⟩ := hh_
  refine tG.bind (r1 := RT) (r2 := RT) mono_t fr pp fun b' S1 g1 H1 v1 e1 fr1 rv1 p1 => ?_
  subst rv1
  cases b' with
  | false => exact ⟨g0, H0, c, g1, S1, ds, fr1, p1⟩
  | true => exact PostG.now (r := RT H1) p1 fr1.st rfl
theorem jt_w (h : JW T Wx X e p) : JT T Wx X e p := PW.pt h
theorem jt_not (h : JT T Wx X a p) : JT T Wx X (.UnaryOp .Not a pos) (cNot p) := PT.imp (pt_not h) fun σ H Q hh_ => by
  obtain ⟨g0, H0, c, g, S, ds, fr, pp⟩ := hh_
  refine tG.bind (r1 := RT) (r2 := RT) mono_t fr pp fun b' S1 g1 H1 v1 e1 fr1 rv1 p1 => ?_
  subst rv1
  exact PostG.now (r := RT H1) p1 fr1.st rfl
noncomputable def cTst (f : CE) : Env → M Bool := fun ds S => bindR (f ds S) fun w S => match w with
  | .fz (.bl b) => .ok b S
  | _ => .bad
theorem jt_e {f : CE} (h : JB T Wx X e f) (he : ∀ whole, isTrue e X.env whole = (do let v ← whole; standAt e.pos; holding [v] (truthy v)) := by intro _; rfl) : JT T Wx X e (cTst f) := PT.imp (pt_val h he) fun σ H Q hh_ => by
  obtain ⟨g0, H0, c, g, S, ds, fr, pp⟩ := hh_
  refine tG.bind (r1 := RB T) (r2 := RT) mono_t fr pp fun w S1 g1 H1 v1 e1 fr1 rv1 p1 => ?_
  split at p1
  · cases rv1
    exact ⟨_, rfl, PostG.now (r := RT H1) p1 fr1.st rfl⟩
  · exact p1.elim
theorem je_one {op} {f : CE} (h : JE T Wx X a f) : JE T Wx X (.BoolOp op [a] pos) f := pe_one h
noncomputable def cAndV (f1 f2 : CE) : CE := fun ds S => bindR (f1 ds S) fun w S => match w with
  | .fz (.bl true) => f2 ds S
  | .fz (.bl false) => .ok (.fz (.bl false)) S
  | _ => .bad
noncomputable def cOrV (f1 f2 : CE) : CE := fun ds S => bindR (f1 ds S) fun w S => match w with
  | .fz (.bl false) => f2 ds S
  | .fz (.bl true) => .ok (.fz (.bl true)) S
  | _ => .bad
theorem je_and (h : JB T Wx X a f1) (h' : JE T Wx X (.BoolOp .And (b :: rest) pos) f2) : JE T Wx X (.BoolOp .And (a :: b :: rest) pos) (cAndV f1 f2) := PE.imp (pe_and h h') fun σ H Q hh_ => by
  obtain ⟨g0, H0, c, g, S, ds, fr, pp⟩ := hh_
  refine tG.bind (r1 := RB T) (r2 := RW T) mono_w fr pp fun w S1 g1 H1 v1 e1 fr1 rv1 p1 => ?_
  split at p1
  · cases rv1
    exact ⟨true, rfl, ⟨g0, H0, c, g1, S1, ds, fr1, p1⟩⟩
  · cases rv1
    exact ⟨false, rfl, PostG.now (r := RW T H1) p1 fr1.st (.bl _)⟩
  · exact p1.elim
theorem je_or (h : JB T Wx X a f1) (h' : JE T Wx X (.BoolOp .Or (b :: rest) pos) f2) : JE T Wx X (.BoolOp .Or (a :: b :: rest) pos) (cOrV f1 f2) := PE.imp (pe_or h h') fun σ H Q hh_ => by
  obtain ⟨g0, H0, c, g, S, ds, fr, pp⟩ := hh_
  refine tG.bind (r1 := RB T) (r2 := RW T) mono_w fr pp fun w S1 g1 H1 v1 e1 fr1 rv1 p1 => ?_
  split at p1
  · cases rv1
    exact ⟨false, rfl, ⟨g0, H0, c, g1, S1, ds, fr1, p1⟩⟩
  · cases rv1
    exact ⟨true, rfl, PostG.now (r := RW T H1) p1 fr1.st (.bl _)⟩
  · exact p1.elim
noncomputable def cNotV (f1 : CE) : CE := fun ds S => bindR (f1 ds S) fun w S => match w with
  | .fz (.bl b) => .ok (.fz (.bl (!b))) S
  | _ => .bad
noncomputable def cIf (t : Env → M Bool) (f1 f2 : CE) : CE := fun ds S => bindR (t ds S) fun b S => if b then f1 ds S else f2 ds S
end
section
variable {T : Tx} {g : Gh} {H : Hp} {S : Store} {w : Wv} {v : V} {xs : List (Key × D)}
theorem keyW_ok {k : Key} (r : RepB T g H w v) (h : keyW w = some k) : v = kV k := by
  cases w with
  | fz d =>
    cases d with
    | int i =>
      cases h
      cases r
      rfl
    | str x =>
      cases h
      cases r
      rfl
    | _ => cases h
  | ow so => cases h
  | xc => cases h
theorem RepK.any {T : Tx} {g : Gh} {H : Hp} {k : Key} : ∀ {ds : List (Key × D)} {vs : List (Key × V)}, RepK T g H ds vs → (ds.any fun kv => decide (kv.1 = k)) = vs.any fun kv => decide (kv.1 = k)
  | _, _, .nil => rfl
  | (j, d) :: ds, (_, v) :: vs, .cons h r => by
    rw [List.any_cons, List.any_cons, RepK.any r]
theorem RepK.repl {T : Tx} {g : Gh} {H : Hp} {k : Key} {d : D} {v : V} (hd : Rep T g H d v) : ∀ {ds : List (Key × D)} {vs : List (Key × V)}, RepK T g H ds vs →
    RepK T g H (ds.map fun kv => if kv.1 = k then (kv.1, d) else kv) (vs.map fun kv => if kv.1 = k then (kv.1, v) else kv)
  | _, _, .nil => .nil
  | (j, d') :: ds, (_, v') :: vs, .cons h r => by
    rw [List.map_cons, List.map_cons]
    dsimp only
    by_cases e : j = k
    · rw [if_pos e, if_pos e]
      exact .cons hd (RepK.repl hd r)
    · rw [if_neg e, if_neg e]
      exact .cons h (RepK.repl hd r)
theorem RepK.append {T : Tx} {g : Gh} {H : Hp} : ∀ {ds ds' : List (Key × D)} {vs vs' : List (Key × V)}, RepK T g H ds vs → RepK T g H ds' vs' → RepK T g H (ds ++ ds') (vs ++ vs')
  | _, _, _, _, .nil, s => s
  | _, _, _, _, .cons h r, s => .cons h (RepK.append r s)
theorem RepK.put {T : Tx} {g : Gh} {H : Hp} {k : Key} {d : D} {v : V} {ds : List (Key × D)} {vs : List (Key × V)} (hd : Rep T g H d v) (r : RepK T g H ds vs) : RepK T g H (putD ds k d) (putK vs k v) := by
  unfold putD putK
  rw [r.any (k := k)]
  split
  · exact r.repl hd
  · exact r.append (.cons hd .nil)
theorem RepK.del {T : Tx} {g : Gh} {H : Hp} {k : Key} : ∀ {ds : List (Key × D)} {vs : List (Key × V)}, RepK T g H ds vs → RepK T g H (delD ds k) (dropK vs k)
  | _, _, .nil => .nil
  | (j, d') :: ds, (_, v') :: vs, .cons h r => by
    unfold delD dropK
    rw [List.filter_cons, List.filter_cons]
    dsimp only
    by_cases e : j = k
    · rw [if_neg (by simp [e]), if_neg (by simp [e])]
      exact RepK.del r
    · rw [if_pos (by simp [e]), if_pos (by simp [e])]
      exact .cons h (RepK.del r)
end
noncomputable def atD (xs : List D) (i : Int) : Option D := (ixN xs.length i).bind fun j => xs[j]?
noncomputable def opIx : Wv → Wv → M Wv := fun w1 w2 S => match w2 with
  | .fz (.int i) => match viewR S w1 with
    | some xs => match atD xs i with
      | some d => .ok (.fz d) S
      | none => .bad
    | none => match w1 with
      | .fz (.tup xs) => match atD xs i with
        | some d => .ok (.fz d) S
        | none => .bad
      | .fz (.str z) => if szOk z.length then (match atI z.cps.toList i with
        | some c => .ok (.fz (.str ⟨#[c]⟩)) S
        | none => .bad) else .bad
      | _ => .bad
  | _ => .bad
theorem atD_ok {T : Tx} {g : Gh} {H : Hp} {xs : List D} {vs : List V} {i : Int} {d : D} (r : Reps T g H xs vs) (h : atD xs i = some d) : ∃ v, atI vs i = some v ∧ Rep T g H d v := by
  unfold atD at h
  unfold atI
  rw [r.length] at h
  cases q : ixN vs.length i with
  | none =>
    rw [q] at h
    cases h
  | some j =>
    rw [q] at h
    exact r.get h
section
variable {T : Tx} {Wx : WX} {X : Cx} {e a b : Expr} {f1 f2 : CE} {pos : Pos}
theorem v_ix : V2 T Wx (RW T) (rIx T.K) opIx := by
  intro g H S σ w1 w2 v1 v2 Q rs r1 r2 p
  unfold opIx at p
  split at p
  · rename_i i
    cases r2
    split at p
    · rename_i xs hx
      split at p
      · rename_i d hd
        obtain ⟨a1, vs1, rfl, q1, s1⟩ := viewR_ok rs r1 hx
        obtain ⟨y, hy, ry⟩ := atD_ok s1 hd
        exact .inl ⟨a1, vs1, i, y, rfl, rfl, q1, hy, PostG.now (r := RW T H) p rs ry⟩
      · exact p.elim
    · split at p
      · rename_i xs _
        split at p
        · rename_i d hd
          obtain ⟨a1, vs1, rfl, q1, s1⟩ := viewT_ok (xs := xs) r1 rfl
          obtain ⟨y, hy, ry⟩ := atD_ok s1 hd
          exact .inr (.inl ⟨a1, vs1, i, y, rfl, rfl, SqT.of q1, hy, PostG.now (r := RW T H) p rs ry⟩)
        · exact p.elim
      · rename_i z _
        cases r1
        split at p
        · rename_i hz
          split at p
          · rename_i c hc
            exact .inr (.inr ⟨z, i, c, rfl, rfl, szOk_of hz, hc, PostG.now (r := RW T H) p rs (.str _)⟩)
          · exact p.elim
        · exact p.elim
      · exact p.elim
  · exact p.elim
noncomputable def opGet : Wv → Wv → M Wv := fun w1 w2 S => match viewK S w1, keyW w2 with
  | some kvs, some k => match lkD kvs k with
    | some d => .ok (.fz d) S
    | none => .bad
  | _, _ => .bad
noncomputable def rGetD : R2 := fun x y H Q => ∃ a v, x = .ref a ∧ DGet H a y (some v) ∧ Q v H
theorem v_get : V2 T Wx (RW T) rGetD opGet := by
  intro g H S σ w1 w2 v1 v2 Q rs r1 r2 p
  unfold opGet at p
  split at p
  · rename_i kvs k h1 h2
    split at p
    · rename_i d hd
      obtain ⟨a1, vs1, rfl, q1, s1⟩ := viewK_ok rs r1 h1
      rw [keyW_ok r2 h2]
      rcases s1.lk (k := k) with ⟨z, _⟩ | ⟨d', v, z, zv, rv⟩
      · rw [hd] at z
        cases z
      · rw [hd] at z
        cases z
        exact ⟨a1, v, rfl, zv ▸ DGet.kr q1, PostG.now (r := RW T H) p rs rv⟩
    · exact p.elim
  · exact p.elim
noncomputable def opSub2 : Wv → Wv → M Wv := fun w1 w2 S => match viewK S w1 with
  | some _ => opGet w1 w2 S
  | none => opIx w1 w2 S
theorem je_sub2 (lv : Lv T Wx X) (ha : JB T Wx X a f1) (hb : JB T Wx X b f2) (hs : PlainIx b := by exact fun _ _ => rfl) (hs2 : NoSl b := by exact fun _ _ => rfl) : JE T Wx X (.Subscript a b pos) (cBin opSub2 f1 f2) := by
  have ho : IxR X (rIx T.K) := lv.hK ▸ ix_seq
  refine PE.imp (PE.or (pe_dget (by have := lv.un; omega) ha hb hs2) (pe_ix ho ha hb hs)) fun σ H Q hh_ => ?_
  obtain ⟨g0, H0, c, g, S, ds, fr, p⟩ := hh_
  cases q1 : f1 ds S with
  | bad =>
    unfold cBin at p
    rw [q1] at p
    exact p.elim
  | ex x S1 =>
    refine .inl (t2 (r := rGetD) mono_w v_get ⟨g0, H0, c, g, S, ds, fr, ?_⟩)
    unfold cBin at p ⊢
    rw [q1] at p ⊢
    exact p
  | ok w1 S1 =>
    cases q2 : f2 ds S1 with
    | bad =>
      unfold cBin at p
      rw [q1] at p
      dsimp only [bindR] at p
      rw [q2] at p
      exact p.elim
    | ex x S2 =>
      refine .inl (t2 (r := rGetD) mono_w v_get ⟨g0, H0, c, g, S, ds, fr, ?_⟩)
      unfold cBin at p ⊢
      rw [q1] at p ⊢
      dsimp only [bindR] at p ⊢
      rw [q2] at p ⊢
      exact p
    | ok w2 S2 =>
      cases q3 : viewK S2 w1 with
      | some kvs =>
        refine .inl (t2 (r := rGetD) mono_w v_get ⟨g0, H0, c, g, S, ds, fr, ?_⟩)
        unfold cBin at p ⊢
        rw [q1] at p ⊢
        dsimp only [bindR] at p ⊢
        rw [q2] at p ⊢
        dsimp only at p ⊢
        unfold opSub2 at p
        rw [q3] at p
        exact p
      | none =>
        refine .inr (t2 (r := rIx T.K) mono_w v_ix ⟨g0, H0, c, g, S, ds, fr, ?_⟩)
        unfold cBin at p ⊢
        rw [q1] at p ⊢
        dsimp only [bindR] at p ⊢
        rw [q2] at p ⊢
        dsimp only at p ⊢
        unfold opSub2 at p
        rw [q3] at p
        exact p
end
end Mir
set_option Elab.async false
set_option linter.all false
set_option maxRecDepth 100000
namespace Mir
open PySem PySem.Spec PyProof.Rows L2
noncomputable def cSkip : CS := fun ds S => .nx ds S
noncomputable def cSeq (a b : CS) : CS := fun ds S => match a ds S with
  | .nx ds' S' => b ds' S'
  | r => r
noncomputable def liftR {α : Type} (r : R α) (ds : Env) (k : α → Store → RS) : RS := match r with
  | .ok a S => k a S
  | .ex x S => .ex x ds S
  | .bad => .bad
section
variable {T : Tx} {Wx : WX} {X : Cx} {e : Expr} {g g0 g1 : Gh} {H H0 H1 : Hp} {c : Chk} {S S1 : Store} {ds : Env} {σ : SV} {st : Stmt} {rest : List Stmt} {pos : Pos} {f1 : CE}
theorem jss_nil : JSs T Wx X [] cSkip := PSs.imp pss_nil fun D σ H ⟨g0, H0, c, g, S, ds, fr, p⟩ => p g H σ fr
theorem jss_cons {a b : CS} (h : JS T Wx X st a) (h' : JSs T Wx X rest b) : JSs T Wx X (st :: rest) (cSeq a b) := PSs.imp (pss_cons h h') fun D σ H hh_ => by
  obtain ⟨g0, H0, c, g, S, ds, fr, p⟩ := hh_
  refine ⟨g0, H0, c, g, S, ds, fr, ?_⟩
  unfold cSeq at p
  cases q : a ds S with
  | nx ds' S' =>
    rw [q] at p
    exact fun g' H' σ' fr' => ⟨g0, H0, c, g', S', ds', fr', p⟩
  | rt w S' => rw [q] at p; exact p
  | bk ds' S' => rw [q] at p; exact p
  | ct ds' S' => rw [q] at p; exact p
  | ex x ds' S' => rw [q] at p; exact p
  | bad => rw [q] at p; exact p
theorem jss_one {a : CS} (h : JS T Wx X st a) : JSs T Wx X [st] a := PSs.imp (pss_one h) fun D σ H h => h
theorem PostS.expr {α β : Type} {r : Rl α β} (fr : FR T g0 H0 c g H S ds σ) {x : R α} {k : α → Store → RS} {D : Ends} {Q : β → Hp → Prop} (p : PostS T Wx g0 H0 c D (liftR x ds k))
    (h : ∀ w S1 g1 H1 v, Ext g H g1 H1 → FR T g0 H0 c g1 H1 S1 ds σ → r H g1 H1 w v → PostS T Wx g0 H0 c D (k w S1) → Q v H1) : PostG T Wx (r H) g H σ Q x := by
  cases x with
  | ok w S1 => exact fun g1 H1 v e rs rv => h w S1 g1 H1 v e (fr.on e rs) rv p
  | ex x S1 => exact fun g1 H1 cls dx e rs rx => p g1 H1 σ cls dx (fr.on e rs) rx
  | bad => exact p
theorem tG.stmt {α β : Type} {r : Rl α β} {f : Env → M α} (fr : FR T g0 H0 c g H S ds σ) {k : α → Store → RS} {D : Ends} {Q : β → Hp → Prop} (p : PostS T Wx g0 H0 c D (liftR (f ds S) ds k))
    (h : ∀ w S1 g1 H1 v, Ext g H g1 H1 → FR T g0 H0 c g1 H1 S1 ds σ → r H g1 H1 w v → PostS T Wx g0 H0 c D (k w S1) → Q v H1) : tG T Wx r f σ H Q := ⟨g0, H0, c, g, S, ds, fr, PostS.expr fr p h⟩
noncomputable def NewIn (T : Tx) (H0 : Hp) (g : Gh) (H : Hp) (ds : Env) (σ : SV) : Wv → V → Prop
  | .fz d, v => Rep T g H d v
  | .ow so, v => ∃ a, v = .ref a ∧ Own T H0 g H so a ∧ ∀ (i : Nat) (so' : SO), ds[i]? = some (some (.ow so')) → σ[i]? ≠ some (some (.ref a))
  | .xc, v => v = .ref T.xa
theorem NewIn.of {Hs : Hp} {gs : Gh} {w : Wv} {v : V} (fr : FR T g0 H0 c gs Hs S ds σ) (r : RepW T Hs g1 H1 w v) : NewIn T H0 g1 H1 ds σ w v := by
  cases w with
  | fz d => exact r
  | ow so =>
    obtain ⟨a, e, o⟩ := r
    refine ⟨a, e, ⟨fr.ext.free o.new, o.liv, o.nio, o.obj⟩, fun i so' hi z => ?_⟩
    obtain ⟨b, hb, ob⟩ := fr.env.ow i so' hi
    rw [z] at hb
    cases hb
    obtain ⟨ho, h1, _⟩ := ob.obj
    rw [o.new] at h1
    cases h1
  | xc => exact r.elim
theorem FR.set {i : Nat} {w : Wv} {v : V} (fr : FR T g0 H0 c g H S ds σ) (n : NewIn T H0 g H ds σ w v) (hi : i < ds.length) : FR T g0 H0 c g H S (ds.set i (some w)) (σ.set i (some v)) := by
  have hi' : i < σ.length := by rw [← fr.env.len]; exact hi
  refine ⟨fr.ext, fr.st, ⟨by simpa using fr.env.len, fun j d h => ?_, fun j so h => ?_, fun j k so so' a ne h1 h2 h3 h4 => ?_, fun j h => ?_⟩, fr.fz, fr.io, fr.ln⟩
  · by_cases e : i = j
    · subst e
      rw [List.getElem?_set_self hi] at h
      cases h
      exact ⟨v, List.getElem?_set_self hi', n⟩
    · rw [List.getElem?_set_ne e] at h ⊢
      exact fr.env.fz j d h
  · by_cases e : i = j
    · subst e
      rw [List.getElem?_set_self hi] at h
      cases h
      obtain ⟨a, ea, o, _⟩ := n
      subst ea
      exact ⟨a, List.getElem?_set_self hi', o⟩
    · rw [List.getElem?_set_ne e] at h ⊢
      exact fr.env.ow j so h
  · by_cases e : i = j
    · subst e
      rw [List.getElem?_set_self hi] at h1
      cases h1
      rw [List.getElem?_set_self hi'] at h3
      rw [List.getElem?_set_ne ne] at h2 h4
      obtain ⟨b, eb, o, nn⟩ := n
      cases h3
      cases eb
      exact nn k so' h2 h4
    · rw [List.getElem?_set_ne e] at h1 h3
      by_cases e' : i = k
      · subst e'
        rw [List.getElem?_set_self hi] at h2
        cases h2
        rw [List.getElem?_set_self hi'] at h4
        obtain ⟨b, eb, o, nn⟩ := n
        cases h4
        cases eb
        exact nn j so h1 h3
      · rw [List.getElem?_set_ne e'] at h2 h4
        exact fr.env.ne j k so so' a ne h1 h2 h3 h4
  · by_cases e : i = j
    · subst e
      rw [List.getElem?_set_self hi] at h
      cases h
      rw [List.getElem?_set_self hi']
      exact congrArg (fun z => some (some z)) n
    · rw [List.getElem?_set_ne e] at h ⊢
      exact fr.env.xc j h
noncomputable def setE (i : Nat) (w : Wv) (ds : Env) (S : Store) : RS := if i < ds.length then .nx (ds.set i (some w)) S else .bad
noncomputable def cSet (i : Nat) (f : CE) : CS := fun ds S => liftR (f ds S) ds fun w S => setE i w ds S
theorem js_set {i : Nat} {x : Str} {pos' : Pos} (hN : X.N.Nodup) (hi : X.N[i]? = some x) (hx : Loc X.env.scope x) (he : JE T Wx X e f1) (hs : swapsWith e (some (.Name x pos')) pos.line X.env = pure false := by rfl) (hf : X.fn x = true ∨ X.env.scope.names.lookup x = some .local := by first | exact .inl rfl | exact .inr rfl | assumption) :
    JS T Wx X (.Assign [.Name x pos'] e pos) (cSet i f1) := PS.imp (ps_set hN hi hx he hs hf) fun D σ H ⟨g0, H0, c, g, S, ds, fr, p⟩ =>
  tG.stmt fr p fun w S1 g1 H1 v e1 fr1 rv p1 => by
    unfold setE at p1
    split at p1
    · rename_i hl
      exact p1 g1 H1 _ (fr1.set (NewIn.of fr rv) hl)
    · exact p1.elim
noncomputable def cRet (f : CE) : CS := fun ds S => liftR (f ds S) ds fun w S => .rt w S
theorem js_ret (he : JE T Wx X e f1) : JS T Wx X (.Return (some e) pos) (cRet f1) := PS.imp (ps_ret he) fun D σ H hh_ => by
  obtain ⟨g0, H0, c, g, S, ds, fr, p⟩ := hh_
  exact
    tG.stmt fr p fun w S1 g1 H1 v e1 fr1 rv p1 => p1 g1 H1 v fr1.ext fr1.st (mono_w _ _ _ _ _ _ (fun a z => fr.ext.free z) rv)
noncomputable def cRetV (i : Nat) : CS := fun ds S => match ds[i]? with
  | some (some (.fz d)) => .rt (.fz d) S
  | some (some (.ow so)) => .rt (.ow so) S
  | _ => .bad
theorem js_retv (i : Nat) {x : Str} {p' : Pos} (hN : X.N[i]? = some x := by rfl) (hv : Vis X.env.scope x := by first | exact Or.inl rfl | exact Or.inr (Or.inl rfl) | exact Or.inr (Or.inr rfl)) (hd : (x == ("__debug__" : Str)) = false := by decide)
    (hcd : (x == ("__classdict__" : Str)) = false := by decide) : JS T Wx X (.Return (some (.Name x p')) pos) (cRetV i) := PS.imp (ps_ret (pe_var hN hv hd hcd)) fun D σ H hh_ => by
  obtain ⟨g0, H0, c, g, S, ds, fr, p⟩ := hh_
  unfold cRetV at p
  split at p
  · rename_i d h
    obtain ⟨v, hv, rv⟩ := fr.env.fz i d h
    exact ⟨v, hv, p g H v fr.ext fr.st rv⟩
  · rename_i so h
    obtain ⟨ad, hv, o⟩ := fr.env.ow i so h
    exact ⟨_, hv, p g H _ fr.ext fr.st ⟨ad, rfl, o⟩⟩
  · exact p.elim
noncomputable def cRetN : CS := fun _ S => .rt (.fz .non) S
noncomputable def cDrop (f : CE) : CS := fun ds S => liftR (f ds S) ds fun _ S => .nx ds S
theorem js_drop (he : JE T Wx X e f1) (hs : swapsWith e none pos.line X.env = pure false := by rfl) : JS T Wx X (.Expr e pos) (cDrop f1) := PS.imp (ps_expr he hs) fun D σ H hh_ => by
  obtain ⟨g0, H0, c, g, S, ds, fr, p⟩ := hh_
  exact
    tG.stmt fr p fun w S1 g1 H1 v e1 fr1 rv p1 => p1 g1 H1 σ fr1
noncomputable def cIfS (t : Env → M Bool) (a b : CS) : CS := fun ds S => liftR (t ds S) ds fun k S => if k then a ds S else b ds S
theorem js_if {t : Env → M Bool} {c' : Expr} {ss ss' : List Stmt} {a b : CS} (ht : JT T Wx X c' t) (ha : JSs T Wx X ss a) (hb : JSs T Wx X ss' b) : JS T Wx X (.If c' ss ss' pos) (cIfS t a b) := PS.imp (ps_if ht ha hb) fun D σ H hh_ => by
  obtain ⟨g0, H0, c, g, S, ds, fr, p⟩ := hh_
  exact
    tG.stmt (r := RT) fr p fun k S1 g1 H1 v e1 fr1 rv p1 => by
      subst rv
      cases k with
      | true => exact ⟨g0, H0, c, g1, S1, ds, fr1, p1⟩
      | false => exact ⟨g0, H0, c, g1, S1, ds, fr1, p1⟩
noncomputable def frzE (i : Nat) (ds : Env) : Env := match ds[i]? with
  | some (some (.ow so)) => ds.set i (some (.fz (Wv.ow so).frz))
  | _ => ds
theorem FR.frzG {i : Nat} {so : SO} {a : Addr} {H' : Hp} (fr : FR T g0 H0 c g H S ds σ) (h : ds[i]? = some (some (.ow so))) (ha : σ[i]? = some (some (.ref a))) (o : Own T H0 g H so a) (hH : ∀ b, b ≠ a → H' b = H b) (ht : ∃ u, H' a = some u)
    (rs : RelS T ⟨g.io, fun b => g.L b ∧ b ≠ a⟩ S H') (fx : Fix g H ⟨g.io, fun b => g.L b ∧ b ≠ a⟩ H') (rp : Rep T ⟨g.io, fun b => g.L b ∧ b ≠ a⟩ H' (Wv.ow so).frz (.ref a)) : FR T g0 H0 c ⟨g.io, fun b => g.L b ∧ b ≠ a⟩ H' S (ds.set i (some (.fz (Wv.ow so).frz))) σ := by
  have hi : i < ds.length := (List.getElem?_eq_some_iff.mp h).1
  have nl : ∀ {b : Addr}, ¬ g.L b → b ≠ a := fun {b} n z => n (z ▸ o.liv)
  have n0 : ∀ {b : Addr} {u : HO}, H0 b = some u → b ≠ a := fun {b u} hb z => by
    rw [z, o.new] at hb
    cases hb
  refine ⟨⟨fr.ext.pre, fun b u hb => ?_, fun b u hb => ?_, fun b u nt hb n => ?_⟩, rs,
    ⟨by simpa using fr.env.len, fun j d hj => ?_, fun j so' hj => ?_, fun j k so1 so2 b ne h1 h2 h3 h4 => ?_, fun j hj => ?_⟩, fun b u hb => ⟨by rw [hH b (nl (fr.fz b u hb).2)]; exact (fr.fz b u hb).1, fun z => (fr.fz b u hb).2 z.1⟩, fr.io, fun b u hb => ⟨by rw [hH b (nl (fr.ln b u hb).2)]; exact (fr.ln b u hb).1, fun z => (fr.ln b u hb).2 z.1⟩⟩
  · rw [hH b (n0 hb)]
    exact fr.ext.trk b u hb
  · exact ⟨fun z => (fr.ext.liv b u hb).mp z.1, fun z => ⟨(fr.ext.liv b u hb).mpr z, n0 hb⟩⟩
  · rw [hH b (n0 hb)]
    exact fr.ext.kp b u nt hb n
  · by_cases e : i = j
    · subst e
      rw [List.getElem?_set_self hi] at hj
      cases hj
      exact ⟨_, ha, rp⟩
    · rw [List.getElem?_set_ne e] at hj
      obtain ⟨v, hv, rv⟩ := fr.env.fz j d hj
      exact ⟨v, hv, rv.fix fx⟩
  · by_cases e : i = j
    · subst e
      rw [List.getElem?_set_self hi] at hj
      cases hj
    · rw [List.getElem?_set_ne e] at hj
      obtain ⟨b, hb, ob⟩ := fr.env.ow j so' hj
      have nb : b ≠ a := fun z => fr.env.ne i j so so' a e h hj ha (z ▸ hb)
      obtain ⟨ho', h3, p'⟩ := ob.obj
      exact ⟨b, hb, ob.new, ⟨ob.liv, nb⟩, ob.nio, ho', by rw [hH b nb]; exact h3, p'.fix fx⟩
  · have f : ∀ {m : Nat} {s : SO}, (ds.set i (some (Wv.fz (Wv.ow so).frz)))[m]? = some (some (.ow s)) → ds[m]? = some (some (.ow s)) := fun {m s} q => by
      by_cases e : i = m
      · subst e
        rw [List.getElem?_set_self hi] at q
        cases q
      · rw [List.getElem?_set_ne e] at q
        exact q
    exact fr.env.ne j k so1 so2 b ne (f h1) (f h2) h3 h4
  · by_cases e : i = j
    · subst e
      rw [List.getElem?_set_self hi] at hj
      cases hj
    · rw [List.getElem?_set_ne e] at hj
      exact fr.env.xc j hj
theorem FR.frz (i : Nat) (fr : FR T g0 H0 c g H S ds σ) : (∃ g', FR T g0 H0 c g' H S (frzE i ds) σ) ∨ ∃ a u, H a = some u ∧ Mut (some u) ∧ ∀ od, ∃ g', FR T g0 H0 c g' (L2.upd H a (.frz od u)) S (frzE i ds) σ := by
  unfold frzE
  split
  · rename_i so h
    have _ := h
    obtain ⟨a, ha, o⟩ := fr.env.ow i so h
    obtain ⟨ho, hH, p⟩ := o.obj
    have na : ¬ (g.L a ∧ a ≠ a) := fun z => z.2 rfl
    by_cases hd : ∃ kvs, so = .dct kvs
    · obtain ⟨kvs, rfl⟩ := hd
      cases p with
      | @dct _ vs r =>
        exact .inr ⟨a, _, hH, trivial, fun od => ⟨_, fr.frzG h ha o (fun b nb => upd_ne nb) ⟨_, upd_same⟩ (lock_st fr.st o.liv o.nio hH (RepO.plain (T := T) (g := g) (H := H) (.dct r)) (fun ps z => by cases z)) (lock_fix o.liv) (.dct upd_same na (r.fix (lock_fix o.liv)))⟩⟩
    · have fx : Fix g H ⟨g.io, fun b => g.L b ∧ b ≠ a⟩ H := ⟨⟨[], by simp⟩, fun b u hb n => ⟨hb, fun z => n z.1⟩⟩
      refine .inl ⟨_, fr.frzG h ha o (fun _ _ => rfl) ⟨_, hH⟩ ⟨fr.st.len, fr.st.nd, fun b hb => ⟨fr.st.liv b hb, fun z => o.nio (z ▸ hb)⟩, fun n so' b h1 h2 => ?_, fr.st.tab.ghost fun b ps e l => ⟨l, fun z => p.plain.1 ps (Option.some.inj (hH.symm.trans (z ▸ e)))⟩⟩ fx ?_⟩
      · obtain ⟨ho', h3, p'⟩ := fr.st.obj n so' b h1 h2
        exact ⟨ho', h3, p'.fix fx⟩
      · have p2 := p.fix fx
        cases p2 with
        | lst r => exact .lst hH na r
        | dct r => exact (hd ⟨_, rfl⟩).elim
        | ins r => exact .ins hH na r
  · exact .inl ⟨g, fr⟩
theorem ps_pre {t : TS} (h : PS X st t) : PS X st (fun D σ H => t D σ H ∨ ∃ a u, H a = some u ∧ Mut (some u) ∧ ∀ od, t D σ (L2.upd H a (.frz od u))) := by
  refine ⟨fun pins s σ H D I hw => ?_⟩
  rcases hw with q | ⟨a, u, hd, mu, q⟩
  · exact h.run pins s σ H D I q
  · obtain ⟨od, I1⟩ := I.lock hd mu
    exact h.run pins s σ _ D I1 (q od)
noncomputable def cFrz (i : Nat) (a : CS) : CS := fun ds S => a (frzE i ds) S
theorem js_frz (i : Nat) {a : CS} (h : JS T Wx X st a) : JS T Wx X st (cFrz i a) := PS.imp (ps_pre h) fun D σ H hh_ => by
  obtain ⟨g0, H0, c, g, S, ds, fr, p⟩ := hh_
  rcases fr.frz i with ⟨g', fr'⟩ | ⟨a, u, ha, mu, k⟩
  · exact .inl ⟨g0, H0, c, g', S, _, fr', p⟩
  · refine .inr ⟨a, u, ha, mu, fun od => ?_⟩
    obtain ⟨g', fr'⟩ := k od
    exact ⟨g0, H0, c, g', S, _, fr', p⟩
inductive Tgt where
  | nm (i : Nat) | tp (is : List Nat)
noncomputable def setAll : List Nat → List D → Env → Option Env
  | [], [], ds => some ds
  | i :: is, d :: r, ds => if i < ds.length then setAll is r (ds.set i (some (.fz d))) else none
  | _, _, _ => none
noncomputable def itemsOf (S : Store) (w : Wv) : Option (List D) := match viewT w with
  | some xs => some xs
  | none => viewR S w
noncomputable def asgT (t : Tgt) (w : Wv) (S : Store) (ds : Env) : Option Env := match t with
  | .nm i => if i < ds.length then some (ds.set i (some w)) else none
  | .tp is => match itemsOf S w with
    | some xs => setAll is xs ds
    | none => none
noncomputable def tGt (T : Tx) (t : Tgt) : TG := fun v σ H Q => ∃ g0 H0 c g S ds w ds', FR T g0 H0 c g H S ds σ ∧ RepB T g H w v ∧ NewIn T H0 g H ds σ w v ∧ asgT t w S ds = some ds' ∧ ∀ σ', FR T g0 H0 c g H S ds' σ' → Q σ' H
noncomputable def JG (T : Tx) (X : Cx) (target : Expr) (t : Tgt) : Prop := PG X target (tGt T t)
theorem PG.imp {target : Expr} {t t' : TG} (h : PG X target t) (i : ∀ v σ H Q, t' v σ H Q → t v σ H Q) : PG X target t' := ⟨fun pins s σ H v u Q I r q => h.run pins s σ H v u Q I r (i v σ H Q q)⟩
theorem PG.or {target : Expr} {t t' : TG} (h : PG X target t) (h' : PG X target t') : PG X target (fun v σ H Q => t v σ H Q ∨ t' v σ H Q) := ⟨fun pins s σ H v u Q I r q => q.elim (h.run pins s σ H v u Q I r) (h'.run pins s σ H v u Q I r)⟩
theorem jg_name {i : Nat} {x : Str} (hN : X.N.Nodup) (hi : X.N[i]? = some x) (hx : Loc X.env.scope x) (hf : X.fn x = true ∨ X.env.scope.names.lookup x = some .local := by first | exact .inl rfl | exact .inr rfl | assumption) : JG T X (.Name x pos) (.nm i) :=
  PG.imp (pg_name hN hi hx hf) fun v σ H Q hh_ => by
    obtain ⟨g0, H0, c, g, S, ds, w, ds', fr, rb, n, e, q⟩ := hh_
    unfold asgT at e
    dsimp only at e
    split at e
    · rename_i hl
      cases e
      exact q _ (fr.set n hl)
    · cases e
noncomputable def tNms : List Nat → TGs
  | [] => gNil
  | i :: is => gCons (gName i) (tNms is)
theorem nms_ok {is : List Nat} : ∀ {xs : List D} {vs : List V} {ds ds' : Env} {σ : SV} {Q : SV → Hp → Prop}, FR T g0 H0 c g H S ds σ → Reps T g H xs vs → setAll is xs ds = some ds' → (∀ σ', FR T g0 H0 c g H S ds' σ' → Q σ' H) → tNms is vs σ H Q := by
  induction is with
  | nil =>
    intro xs vs ds ds' σ Q fr r e q
    cases xs with
    | nil =>
      cases e
      cases r
      exact ⟨rfl, q _ fr⟩
    | cons _ _ => cases e
  | cons i is ih =>
    intro xs vs ds ds' σ Q fr r e q
    cases xs with
    | nil => cases e
    | cons d xr =>
      cases r with
      | cons rd rr =>
        unfold setAll at e
        split at e
        · rename_i hl
          refine ⟨_, _, rfl, ?_⟩
          exact ih (fr.set (w := .fz d) rd hl) rr e q
        · cases e
theorem setAll_len : ∀ {is : List Nat} {xs : List D} {ds ds' : Env}, setAll is xs ds = some ds' → is.length = xs.length
  | [], [], _, _, _ => rfl
  | [], _ :: _, _, _, h => nomatch h
  | _ :: _, [], _, _, h => nomatch h
  | i :: is, d :: r, ds, ds', h => by
    unfold setAll at h
    split at h
    · rw [List.length_cons, List.length_cons, setAll_len h]
    · cases h
theorem jg_tup {is : List Nat} {es : List Expr} {k : Nat} (lv : Lv T Wx X) (hc : X.calm = true) (h : PGs X es (tNms is)) (hl : es.length = is.length := by rfl)
    (hn : (assignEach es X.env).length = is.length := by rfl) (hst : (assignEach es X.env).findIdx? (·.1) = none := by rfl) : JG T X (.Tuple es k pos) (.tp is) :=
  PG.imp (PG.or (pg_tup hc h hn hst) (pg_lst hc h hn hst)) fun v σ H Q hh_ => by
    obtain ⟨g0, H0, c, g, S, ds, w, ds', fr, rb, n, e, q⟩ := hh_
    have hK := lv.hK
    unfold asgT itemsOf at e
    dsimp only at e
    cases hT : viewT w with
    | some xs =>
      rw [hT] at e
      dsimp only at e
      obtain ⟨a, vs, rfl, h1, r⟩ := viewT_ok rb hT
      exact .inl ⟨a, vs, rfl, SqT.of h1, by rw [← r.length, setAll_len e], nms_ok fr r e q⟩
    | none =>
      rw [hT] at e
      dsimp only at e
      cases hL : viewR S w with
      | none =>
        rw [hL] at e
        cases e
      | some xs =>
        rw [hL] at e
        dsimp only at e
        obtain ⟨a, vs, rfl, h1, r⟩ := viewR_ok fr.st rb hL
        exact .inr ⟨a, vs, rfl, hK ▸ h1, by rw [← r.length, setAll_len e], nms_ok fr r e q⟩
noncomputable def cAsg (t : Tgt) (f : CE) : CS := fun ds S => liftR (f ds S) ds fun w S => match asgT t w S ds with
  | some ds' => .nx ds' S
  | none => .bad
theorem js_asg {t : Tgt} {tg : Expr} (he : JE T Wx X e f1) (hg : JG T X tg t) (hs : swapsWithSole [tg] e pos.line X.env = pure false := by rfl) (hw : swappedStores [tg] e X.env = pure none := by rfl)
    (h1 : (assignEach [tg] X.env).map (·.2) = [assign tg X.env] := by rfl) : JS T Wx X (.Assign [tg] e pos) (cAsg t f1) := PS.imp (ps_asg he hg hs hw h1) fun D σ H ⟨g0, H0, c, g, S, ds, fr, p⟩ =>
  tG.stmt fr p fun w S1 g1 H1 v e1 fr1 rv p1 => by
    split at p1
    · rename_i ds' ha
      exact ⟨g0, H0, c, g1, S1, ds, w, ds', fr1, rv.b, NewIn.of fr rv, ha, fun σ' fr' => p1 g1 H1 σ' fr'⟩
    · exact p1.elim
noncomputable def cAug (i : Nat) (k : Wv → Wv → M Wv) (f : CE) : CS := fun ds S => match ds[i]? with
  | some (some .xc) => .bad
  | some (some w) => liftR (bindR (f ds S) fun w2 S => k w w2 S) ds fun w S => setE i w ds S
  | _ => .bad
end
end Mir
set_option Elab.async false
set_option linter.all false
set_option maxRecDepth 100000
namespace Mir
open PySem PySem.Spec PyProof.Rows L2
noncomputable def Held (c : Chk) (g : Gh) (H : Hp) : Prop := (∀ a o, c.fz a o → H a = some o ∧ ¬ g.L a) ∧ ∃ t, g.io = c.io ++ t
structure IterOk (T : Tx) (J : It) (items : List D) (c : Chk) : Prop where
  go : ∀ i g H S, i < items.length → Held c g H → RelS T g S H → J.go i H
  stop : ∀ g H S, Held c g H → RelS T g S H → J.stop items.length H
  yld : ∀ i d g H S x H', items[i]? = some d → Held c g H → RelS T g S H → J.yld i H x H' → ∃ g', Ext g H g' H' ∧ RelS T g' S H' ∧ Rep T g' H' d x
noncomputable def Chk.Le (c0 c : Chk) : Prop := (∀ a o, c0.fz a o → c.fz a o) ∧ ∃ t, c.io = c0.io ++ t
noncomputable def PostI (T : Tx) (Wx : WX) (c : Chk) (g : Gh) (H : Hp) (σ : SV) (Rr : It → Hp → Prop) : R (List D) → Prop
  | .ok items S' => ∀ g' H' J c', Ext g H g' H' → RelS T g' S' H' → Held c' g' H' → c.Le c' → IterOk T J items c' → Rr J H'
  | .ex x S' => ∀ g' H' cls dx, Ext g H g' H' → RelS T g' S' H' → RepX T g' H' x cls dx → Wx cls dx σ H'
  | .bad => False
noncomputable def tI (T : Tx) (Wx : WX) (f : Env → M (List D)) : TI := fun σ H Rr => ∃ g0 H0 c g S ds, FR T g0 H0 c g H S ds σ ∧ PostI T Wx c g H σ Rr (f ds S)
noncomputable def JI (T : Tx) (Wx : WX) (X : Cx) (tg e : Expr) (f : Env → M (List D)) : Prop := PI X tg e (tI T Wx f)
theorem PI.imp {X : Cx} {tg e : Expr} {t t' : TI} (h : PI X tg e t) (i : ∀ σ H Q, t' σ H Q → t σ H Q) : PI X tg e t' := ⟨fun pins s σ H Q I q => h.run pins s σ H Q I (i σ H Q q)⟩
theorem PI.or {X : Cx} {tg e : Expr} {t t' : TI} (h : PI X tg e t) (h' : PI X tg e t') : PI X tg e (fun σ H Q => t σ H Q ∨ t' σ H Q) := ⟨fun pins s σ H Q I q => q.elim (h.run pins s σ H Q I) (h'.run pins s σ H Q I)⟩
noncomputable def Chk.now (g : Gh) (H : Hp) : Chk := ⟨fun a o => H a = some o ∧ ¬ g.L a, g.io⟩
theorem Chk.now_held (g : Gh) (H : Hp) : Held (Chk.now g H) g H := ⟨fun _ _ h => h, [], by simp [Chk.now]⟩
theorem Chk.now_fix {g g' : Gh} {H H' : Hp} (h : Held (Chk.now g H) g' H') : Fix g H g' H' := ⟨h.2, fun a o e n => h.1 a o ⟨e, n⟩⟩
section
variable {T : Tx} {Wx : WX} {X : Cx} {e : Expr} {g g0 g1 : Gh} {H H0 H1 : Hp} {c : Chk} {S S1 : Store} {ds : Env} {σ : SV} {st : Stmt} {rest : List Stmt} {pos : Pos} {f1 : CE} {tg : Expr}
theorem FR.now (fr : FR T g0 H0 c g H S ds σ) : c.Le (Chk.now g H) := ⟨fun a o h => fr.fz a o h, fr.io⟩
theorem FR.held (fr : FR T g0 H0 c g H S ds σ) : Held c g H := ⟨fr.fz, fr.io⟩
noncomputable def keyDD : Key → D
  | .inl i => .int i
  | .inr x => .str x
theorem key_rep {k : Key} : Rep T g H (keyDD k) (kV k) := by
  cases k with
  | inl i => exact .int i
  | inr x => exact .str x
noncomputable def itemsD : D → Option (List D)
  | .lst xs => some xs
  | .tup xs => some xs
  | .scr ns => some (ns.map D.int)
  | .str x => some (x.cps.toList.map fun c => .str ⟨#[c]⟩)
  | .dct kvs => some (kvs.map fun kv => keyDD kv.1)
  | _ => none
noncomputable def cItems (f : Env → M D) : Env → M (List D) := fun ds S => bindR (f ds S) fun d S => match itemsD d with
  | some xs => .ok xs S
  | none => .bad
theorem iter_lst {a : Addr} {vs : List V} {items : List D} (hs : ∀ g' H', Held (Chk.now g H) g' H' → SqL T.K H' a vs) (r : Reps T g H items vs) : IterOk T (Itl T.K a) items (Chk.now g H) := by
  refine ⟨fun i g' H' S hi hh _ => ?_, fun g' H' S hh _ => ?_, fun i d g' H' S x H2 hd hh rs hy => ?_⟩
  · obtain ⟨v, hv, _⟩ := r.get (List.getElem?_eq_getElem hi)
    exact ⟨vs, v, hs g' H' hh, hv⟩
  · exact ⟨vs, hs g' H' hh, by rw [r.length]; exact Nat.le_refl _⟩
  · obtain ⟨rfl, q⟩ := hy
    obtain ⟨v, hv, rv⟩ := r.get hd
    have e1 := q vs (hs g' H2 hh)
    rw [hv] at e1
    cases e1
    exact ⟨g', Ext.refl _ _, rs, rv.fix (Chk.now_fix hh)⟩
theorem iter_tup {a : Addr} {vs : List V} {items : List D} (hs : ∀ g' H', Held (Chk.now g H) g' H' → SqT T.K H' a vs) (r : Reps T g H items vs) : IterOk T (Itt T.K a) items (Chk.now g H) := by
  refine ⟨fun i g' H' S hi hh _ => ?_, fun g' H' S hh _ => ?_, fun i d g' H' S x H2 hd hh rs hy => ?_⟩
  · obtain ⟨v, hv, _⟩ := r.get (List.getElem?_eq_getElem hi)
    exact ⟨vs, v, hs g' H' hh, hv⟩
  · exact ⟨vs, hs g' H' hh, by rw [r.length]; exact Nat.le_refl _⟩
  · obtain ⟨rfl, q⟩ := hy
    obtain ⟨v, hv, rv⟩ := r.get hd
    have e1 := q vs (hs g' H2 hh)
    rw [hv] at e1
    cases e1
    exact ⟨g', Ext.refl _ _, rs, rv.fix (Chk.now_fix hh)⟩
theorem tG.iter {α β : Type} {r : Rl α β} {f : Env → M α} {k : α → Store → R (List D)} {Rr : It → Hp → Prop} {Q : β → Hp → Prop} (fr : FR T g0 H0 c g H S ds σ) (p : PostI T Wx c g H σ Rr (bindR (f ds S) k))
    (h : ∀ w S1 g1 H1 v, f ds S = .ok w S1 → Ext g H g1 H1 → FR T g0 H0 c g1 H1 S1 ds σ → r H g1 H1 w v → PostI T Wx c g1 H1 σ Rr (k w S1) → Q v H1) : tG T Wx r f σ H Q := by
  refine ⟨g0, H0, c, g, S, ds, fr, ?_⟩
  cases q : f ds S with
  | ok w S1 =>
    rw [q] at p
    intro g1 H1 v e1 rs rv
    refine h w S1 g1 H1 v q e1 (fr.on e1 rs) rv ?_
    dsimp only [bindR] at p
    cases q2 : k w S1 with
    | ok items S2 =>
      rw [q2] at p
      exact fun g' H' J c' e' => p g' H' J c' (e1.trans e')
    | ex x S2 =>
      rw [q2] at p
      exact fun g' H' cls dx e' => p g' H' cls dx (e1.trans e')
    | bad =>
      rw [q2] at p
      exact p
  | ex x S1 =>
    rw [q] at p
    exact p
  | bad =>
    rw [q] at p
    exact p
theorem FzL.sq {a : Addr} {xs : List V} (z : FzL T.K g H a xs) : SqL T.K H a xs := by
  rcases z with ⟨z, _⟩ | z
  · exact .inl z
  · exact .inr z
theorem iter_str {x : Str} : IterOk T (Its x) (x.cps.toList.map fun c => D.str ⟨#[c]⟩) (Chk.now g H) := by
  refine ⟨fun i g' H' S hi hh _ => ?_, fun g' H' S hh _ => ?_, fun i d g' H' S y H2 hd hh rs hy => ?_⟩
  · show i < x.cps.size
    rw [List.length_map, Array.length_toList] at hi
    exact hi
  · show x.cps.size ≤ _
    rw [List.length_map, Array.length_toList]
    exact Nat.le_refl _
  · obtain ⟨rfl, ch, h1, rfl⟩ := hy
    rw [List.getElem?_map, Array.getElem?_toList, h1] at hd
    cases hd
    exact ⟨g', Ext.refl _ _, rs, .str _⟩
theorem RepK.getK {ds : List (Key × D)} {vs : List (Key × V)} (r : RepK T g H ds vs) : ds.map (·.1) = vs.map (·.1) := by
  induction ds generalizing vs with
  | nil => cases r; rfl
  | cons a b ih => cases r with | cons h t => rw [List.map_cons, List.map_cons, ih t]
theorem iter_keys {a : Addr} {o : Obj} {vs : List (Key × V)} {kvs : List (Key × D)} (hs : ∀ g' H', Held (Chk.now g H) g' H' → H' a = some (.frz o (.dK vs))) (r : RepK T g H kvs vs) : IterOk T (Itk a o vs) (kvs.map fun kv => keyDD kv.1) (Chk.now g H) := by
  have e : (kvs.map fun kv => keyDD kv.1) = vs.map fun kv => keyDD kv.1 := by
    have q := congrArg (List.map keyDD) r.getK
    rw [List.map_map, List.map_map] at q
    exact q
  rw [e]
  refine ⟨fun i g' H' S hi hh _ => ⟨hs g' H' hh, by rw [List.length_map] at hi; exact hi⟩, fun g' H' S hh _ => ⟨hs g' H' hh, by rw [List.length_map]; exact Nat.le_refl _⟩, fun i d g' H' S y H2 hd hh rs hy => ?_⟩
  obtain ⟨rfl, k, v, h1, rfl⟩ := hy
  rw [List.getElem?_map, h1] at hd
  cases hd
  exact ⟨g', Ext.refl _ _, rs, key_rep⟩
theorem ji_seq {f : Env → M D} (lv : Lv T Wx X) (h : JD T Wx X e f) : JI T Wx X tg e (cItems f) := PI.imp (PI.or (PI.or (pi_list h) (pi_tup h)) (PI.or (pi_str h) (pi_keys h))) fun σ H Rr hh_ => by
  obtain ⟨g0, H0, c, g, S, ds, fr, p⟩ := hh_
  have hK := lv.hK
  have left : (∀ xs S1, f ds S ≠ .ok (.tup xs) S1) → (∀ x S1, f ds S ≠ .ok (.str x) S1) → (∀ x S1, f ds S ≠ .ok (.dct x) S1) → iList X.K (tG T Wx (RD T) f) σ H Rr := fun nt ns nd => by
    refine tG.iter (r := RD T) fr p fun d S1 g1 H1 v hf e1 fr1 rv p1 => ?_
    split at p1
    · rename_i items hi
      cases d with
      | lst xs =>
        cases hi
        cases rv with
        | lst h1 n1 r1 =>
          refine ⟨_, rfl, ⟨_, SqL.of h1⟩, ?_⟩
          refine p1 g1 H1 _ (Chk.now g1 H1) (Ext.refl _ _) fr1.st (Chk.now_held _ _) fr1.now ?_
          rw [hK]
          exact iter_lst (fun g' H' hh => SqL.of (hh.1 _ _ ⟨h1, n1⟩).1) r1
      | tup xs => exact (nt xs S1 hf).elim
      | str xs => exact (ns xs S1 hf).elim
      | dct xs => exact (nd xs S1 hf).elim
      | scr ns =>
        cases hi
        cases rv with
        | scr h1 =>
          refine ⟨_, rfl, ⟨_, hK.symm ▸ FzL.sq h1⟩, ?_⟩
          refine p1 g1 H1 _ (Chk.now g1 H1) (Ext.refl _ _) fr1.st (Chk.now_held _ _) fr1.now ?_
          rw [hK]
          exact iter_lst (fun g' H' hh => FzL.sq ((Chk.now_fix hh).fzl h1)) (reps_ints ns)
      | _ => cases hi
    · exact p1.elim
  cases q : f ds S with
  | bad => exact .inl (.inl (left (fun _ _ z => by rw [q] at z; cases z) (fun _ _ z => by rw [q] at z; cases z) (fun _ _ z => by rw [q] at z; cases z)))
  | ex x S1 => exact .inl (.inl (left (fun _ _ z => by rw [q] at z; cases z) (fun _ _ z => by rw [q] at z; cases z) (fun _ _ z => by rw [q] at z; cases z)))
  | ok d S1 =>
    cases d with
    | tup xs =>
      refine .inl (.inr (tG.iter (r := RD T) fr p fun d S1 g1 H1 v hf e1 fr1 rv p1 => ?_))
      rw [q] at hf
      cases hf
      cases rv with
      | tup h1 n1 r1 =>
        refine ⟨_, rfl, ⟨_, SqT.of h1⟩, ?_⟩
        refine p1 g1 H1 _ (Chk.now g1 H1) (Ext.refl _ _) fr1.st (Chk.now_held _ _) fr1.now ?_
        rw [hK]
        exact iter_tup (fun g' H' hh => SqT.of (hh.1 _ _ ⟨h1, n1⟩).1) r1
    | str xs =>
      refine .inr (.inl (tG.iter (r := RD T) fr p fun d S1 g1 H1 v hf e1 fr1 rv p1 => ?_))
      rw [q] at hf
      cases hf
      cases rv
      exact ⟨_, rfl, p1 g1 H1 _ (Chk.now g1 H1) (Ext.refl _ _) fr1.st (Chk.now_held _ _) fr1.now iter_str⟩
    | dct xs =>
      refine .inr (.inr (tG.iter (r := RD T) fr p fun d S1 g1 H1 v hf e1 fr1 rv p1 => ?_))
      rw [q] at hf
      cases hf
      cases rv with
      | dct h1 n1 r1 => exact ⟨_, _, rfl, .inl ⟨_, h1, p1 g1 H1 _ (Chk.now g1 H1) (Ext.refl _ _) fr1.st (Chk.now_held _ _) fr1.now (iter_keys (fun g' H' hh => (hh.1 _ _ ⟨h1, n1⟩).1) r1)⟩⟩
    | _ => exact .inl (.inl (left (fun _ _ z => by rw [q] at z; cases z) (fun _ _ z => by rw [q] at z; cases z) (fun _ _ z => by rw [q] at z; cases z)))
noncomputable def rngOk (i : Int) : Bool := decide (-(2 ^ 62) ≤ i) && decide (i < 2 ^ 62)
theorem rngOk_of {i : Int} (h : rngOk i = true) : -(2 ^ 62) ≤ i ∧ i < 2 ^ 62 := by
  rcases Bool.and_eq_true_iff.mp h with ⟨h1, h2⟩
  exact ⟨of_decide_eq_true h1, of_decide_eq_true h2⟩
noncomputable def rngD (lo : Int) (n : Nat) : List D := (List.range n).map fun i => .int (lo + (i : Nat))
noncomputable def rng1 : List D → M (List D) := fun xs S => match xs with
  | [.int j] => if rngOk j then .ok (rngD 0 j.toNat) S else .bad
  | _ => .bad
noncomputable def rng2 : List D → M (List D) := fun xs S => match xs with
  | [.int i, .int j] => if rngOk i && rngOk j then .ok (rngD i (j - i).toNat) S else .bad
  | _ => .bad
noncomputable def cRng (k : List D → M (List D)) (fs : Env → M (List D)) : Env → M (List D) := fun ds S => bindR (fs ds S) fun xs S => k xs S
theorem iter_rng (lo : Int) (n : Nat) : IterOk T (Itr lo n) (rngD lo n) (Chk.now g H) := by
  have hl : (rngD lo n).length = n := by simp [rngD]
  refine ⟨fun i g' H' S hi hh _ => ?_, fun g' H' S hh _ => ?_, fun i d g' H' S x H2 hd hh rs hy => ?_⟩
  · show i < n
    rw [hl] at hi
    exact hi
  · show n ≤ (rngD lo n).length
    rw [hl]
    exact Nat.le_refl _
  · obtain ⟨rfl, rfl⟩ := hy
    have hi : i < n := by
      have := (List.getElem?_eq_some_iff.mp hd).1
      rw [hl] at this
      exact this
    have e1 : (rngD lo n)[i]? = some (.int (lo + (i : Nat))) := by simp [rngD, hi]
    rw [e1] at hd
    cases hd
    exact ⟨g', Ext.refl _ _, rs, .int _⟩
theorem ji_rng1 {a : Expr} {fs : Env → M (List D)} {p' : Pos} (hg : Gl X "range") (hm : X.mg "range" = none) (ha : JA T Wx X [a] fs) (hs : starEach [a] X.env = [(false, eval a X.env)] := by rfl) : JI T Wx X tg (.Call (.Name "range" p') [a] [] pos) (cRng rng1 fs) :=
  PI.imp (pi_range1 hg hm ha hs) fun σ H Rr hh_ => by
    obtain ⟨g0, H0, c, g, S, ds, fr, p⟩ := hh_
    refine tG.iter (r := RA T) fr p fun xs S1 g1 H1 vs hf e1 fr1 rv p1 => ?_
    unfold rng1 at p1
    split at p1
    · rename_i j
      split at p1
      · rename_i hz
        cases rv with
        | cons r1 r2 =>
          cases r2
          cases r1
          exact ⟨j, rfl, (rngOk_of hz).1, (rngOk_of hz).2, p1 g1 H1 _ (Chk.now g1 H1) (Ext.refl _ _) fr1.st (Chk.now_held _ _) fr1.now (iter_rng 0 j.toNat)⟩
      · exact p1.elim
    · exact p1.elim
noncomputable def forRun (t : Tgt) (body : CS) : List D → Env → Store → RS
  | [], ds, S => .nx ds S
  | d :: r, ds, S => match asgT t (.fz d) S ds with
    | none => .bad
    | some ds1 => match body ds1 S with
      | .nx ds2 S2 => forRun t body r ds2 S2
      | .ct ds2 S2 => forRun t body r ds2 S2
      | .bk ds2 S2 => .nx ds2 S2
      | .rt w S2 => .rt w S2
      | .ex x ds2 S2 => .ex x ds2 S2
      | .bad => .bad
noncomputable def cFor (fi : Env → M (List D)) (t : Tgt) (body : CS) : CS := fun ds S => liftR (fi ds S) ds fun items S => forRun t body items ds S
theorem js_for {fi : Env → M (List D)} {t : Tgt} {b : CS} {iter : Expr} {body : List Stmt} (lv : Lv T Wx X) (hc : X.calm = true) (hp : PassesOwn (model X.prog X.w) X.A X.env X.xe) (hi : JI T Wx X tg iter fi) (hg : JG T X tg t) (hb : JSs T Wx X body b)
    (hs : ∀ x, foldedSetIterable iter X.env x = pure x := by intro _; rfl) : JS T Wx X (.For tg iter body [] pos) (cFor fi t b) :=
  PS.imp (ps_for hp hc hi hg hb hs) fun D' σ H hh_ => by
    obtain ⟨g0, H0, c, g, S, ds, fr, p⟩ := hh_
    refine ⟨g0, H0, c, g, S, ds, fr, ?_⟩
    unfold cFor at p
    cases q : fi ds S with
    | ex x S1 =>
      rw [q] at p
      exact fun g1 H1 cls dx e1 rs rx => p g1 H1 σ cls dx (fr.on e1 rs) rx
    | bad =>
      rw [q] at p
      exact p
    | ok items S1 =>
      rw [q] at p
      intro g1 H1 J c' e1 rs1 hh le ok
      have p : PostS T Wx g0 H0 c D' (forRun t b items ds S1) := p
      refine ⟨fun i m σ' H' => m = items.length - i ∧ i ≤ items.length ∧ ∃ g' S' ds', FR T g0 H0 c' g' H' S' ds' σ' ∧ PostS T Wx g0 H0 c D' (forRun t b (items.drop i) ds' S'), ⟨items.length, by simp, Nat.zero_le _, g1, S1, ds, (fr.on e1 rs1).chk hh.1 hh.2, by simpa using p⟩, ?_⟩
      have back : ∀ {g' : Gh} {H' : Hp} {S' : Store} {ds' : Env} {σ' : SV}, FR T g0 H0 c' g' H' S' ds' σ' → FR T g0 H0 c g' H' S' ds' σ' := fun {g' H' S' ds' σ'} f => f.chk (fun a o z => f.fz a o (le.1 a o z)) (by
        obtain ⟨t1, h1⟩ := f.io
        obtain ⟨t2, h2⟩ := le.2
        exact ⟨t2 ++ t1, by rw [h1, h2, List.append_assoc]⟩)
      rintro i m σ' H' ⟨rfl, hi', g', S', ds', fr', p'⟩
      by_cases hlt : i < items.length
      · refine .inr ⟨ok.go i g' H' S' hlt fr'.held fr'.st, fun σ2 H2 => ∃ g2 S2 ds2, FR T g0 H0 c' g2 H2 S2 ds2 σ2 ∧ PostS T Wx g0 H0 c D' (forRun t b (items.drop (i + 1)) ds2 S2), fun σ2 H2 ⟨g2, S2, ds2, fr2, p2⟩ => ⟨items.length - (i + 1), by omega, rfl, hlt, g2, S2, ds2, fr2, p2⟩, fun x H2 hy => ?_⟩
        obtain ⟨g2, e2, rs2, rx⟩ := ok.yld i _ g' H' S' x H2 (List.getElem?_eq_getElem hlt) fr'.held fr'.st hy
        have fr2 := fr'.on e2 rs2
        have p2 := p'
        rw [List.drop_eq_getElem_cons hlt] at p2
        unfold forRun at p2
        split at p2
        · exact p2.elim
        · rename_i ds1 ha
          refine ⟨g0, H0, c', g2, S', ds', .fz items[i], ds1, fr2, rx, rx, ha, fun σ3 fr3 => ⟨g0, H0, c', g2, S', ds1, fr3, ?_⟩⟩
          cases q3 : b ds1 S' with
          | nx ds3 S3 =>
            rw [q3] at p2
            exact fun g3 H3 σ4 fr4 => ⟨g3, S3, ds3, fr4, p2⟩
          | ct ds3 S3 =>
            rw [q3] at p2
            exact fun g3 H3 σ4 fr4 => ⟨g3, S3, ds3, fr4, p2⟩
          | bk ds3 S3 =>
            rw [q3] at p2
            exact fun g3 H3 σ4 fr4 => p2 g3 H3 σ4 (back fr4)
          | rt w S3 =>
            rw [q3] at p2
            exact p2
          | ex x' ds3 S3 =>
            rw [q3] at p2
            exact fun g3 H3 σ4 cls dx fr4 rx => p2 g3 H3 σ4 cls dx (back fr4) rx
          | bad =>
            rw [q3] at p2
            exact p2
      · have ei : i = items.length := Nat.le_antisymm hi' (Nat.le_of_not_lt hlt)
        subst ei
        refine .inl ⟨ok.stop g' H' S' fr'.held fr'.st, ?_⟩
        rw [List.drop_length] at p'
        exact p' g' H' σ' (back fr')
noncomputable def whRun (t : Env → M Bool) (body : CS) : Nat → Env → Store → RS
  | 0, _, _ => .bad
  | n + 1, ds, S => liftR (t ds S) ds fun k S1 => if k then (match body ds S1 with
      | .nx ds2 S2 => whRun t body n ds2 S2
      | .ct ds2 S2 => whRun t body n ds2 S2
      | .bk ds2 S2 => .nx ds2 S2
      | .rt w S2 => .rt w S2
      | .ex x ds2 S2 => .ex x ds2 S2
      | .bad => .bad) else .nx ds S1
noncomputable def cWhile (fu : Env → Nat) (t : Env → M Bool) (body : CS) : CS := fun ds S => whRun t body (fu ds) ds S
end
end Mir
set_option Elab.async false
set_option linter.all false
set_option maxRecDepth 100000
namespace Mir
open PySem PySem.Spec PyProof.Rows L2
noncomputable abbrev Fn := List D → Store → R Wv
noncomputable def PostF (T : Tx) (g : Gh) (H : Hp) (Q : VK) (E : XK) : R Wv → Prop
  | .ok w S' => ∀ g' H' v, Ext g H g' H' → RelS T g' S' H' → RepW T H g' H' w v → Q v H'
  | .ex x S' => ∀ g' H' cls dx, Ext g H g' H' → RelS T g' S' H' → RepX T g' H' x cls dx → E cls dx H'
  | .bad => False
noncomputable def spF (T : Tx) (n : Nat) (m : Fn) : Sp := fun vs H Q E => vs.length = n ∧ ∃ g S ds, RelS T g S H ∧ Reps T g H ds vs ∧ PostF T g H Q E (m ds S)
noncomputable def startE (n : Nat) (args : List D) : Env := (args.map fun d => some (Wv.fz d)) ++ List.replicate (n - args.length) none
noncomputable def runF (n : Nat) (body : CS) : Fn := fun args S => match body (startE n args) S with
  | .nx _ S' => .ok (.fz .non) S'
  | .rt w S' => .ok w S'
  | .ex x _ S' => .ex x S'
  | _ => .bad
section
variable {T : Tx} {Wx : WX} {X : Cx} {e : Expr} {g g0 g1 : Gh} {H H0 H1 : Hp} {c : Chk} {S S1 : Store} {ds : Env} {σ : SV} {pos : Pos}
theorem EnvR.start {N : List Str} {args : List D} {vs : List V} (r : Reps T g H args vs) : EnvR T H0 g H (startE N.length args) (L2.start N vs) := by
  have hl := r.length
  have noow : ∀ (i : Nat) (so : SO), (startE N.length args)[i]? ≠ some (some (.ow so)) := fun i so h => by
    unfold startE at h
    by_cases hi : i < args.length
    · rw [List.getElem?_append_left (by simpa using hi), List.getElem?_map] at h
      cases q : args[i]? with
      | none =>
        rw [q] at h
        cases h
      | some d =>
        rw [q] at h
        cases h
    · rw [List.getElem?_append_right (by simpa using Nat.le_of_not_lt hi), List.getElem?_replicate] at h
      split at h <;> cases h
  have noxc : ∀ (i : Nat), (startE N.length args)[i]? ≠ some (some .xc) := fun i h => by
    unfold startE at h
    by_cases hi : i < args.length
    · rw [List.getElem?_append_left (by simpa using hi), List.getElem?_map] at h
      cases q : args[i]? with
      | none =>
        rw [q] at h
        cases h
      | some d =>
        rw [q] at h
        cases h
    · rw [List.getElem?_append_right (by simpa using Nat.le_of_not_lt hi), List.getElem?_replicate] at h
      split at h <;> cases h
  refine ⟨by simp [startE, L2.start, hl], fun i d h => ?_, fun i so h => (noow i so h).elim, fun i j so so' a ne h => (noow i so h).elim, fun i h => (noxc i h).elim⟩
  unfold startE at h
  by_cases hi : i < args.length
  · rw [List.getElem?_append_left (by simpa using hi), List.getElem?_map] at h
    cases q : args[i]? with
    | none =>
      rw [q] at h
      cases h
    | some d' =>
      rw [q] at h
      cases h
      obtain ⟨v, hv, rv⟩ := r.get q
      refine ⟨v, ?_, rv⟩
      unfold L2.start
      rw [List.getElem?_append_left (by simpa [← hl] using hi), List.getElem?_map, hv]
      rfl
  · rw [List.getElem?_append_right (by simpa using Nat.le_of_not_lt hi), List.getElem?_replicate] at h
    split at h <;> cases h
theorem FR.start {N : List Str} {args : List D} {vs : List V} (hl : ∀ a o, ¬ T.lean a o) (rs : RelS T g S H) (r : Reps T g H args vs) : FR T g H ⟨fun _ _ => False, []⟩ g H S (startE N.length args) (L2.start N vs) :=
  ⟨Ext.refl g H, rs, EnvR.start r, fun _ _ h => h.elim, ⟨g.io, rfl⟩, fun a o h => (hl a o h).elim⟩
theorem body_end {N : List Str} {n : Nat} {m : CS} {vs : List V} {Q : VK} {E : XK} (hl : ∀ a o, ¬ T.lean a o) (hsp : spF T n (runF N.length m) vs H Q E) : tS T (fun cls d _ H => E cls d H) m { nx := fun _ H' => Q .non H', rt := Q } (L2.start N vs) H := by
  obtain ⟨_, g, S, ds, rs, r, p⟩ := hsp
  refine ⟨g, H, _, g, S, startE N.length ds, FR.start hl rs r, ?_⟩
  unfold runF at p
  cases q : m (startE N.length ds) S with
  | nx ds' S' =>
    rw [q] at p
    exact fun g' H' σ' fr' => p g' H' .non fr'.ext fr'.st .non
  | rt w S' =>
    rw [q] at p
    exact fun g' H' v ex rs' rw' => p g' H' v ex rs' rw'
  | bk ds' S' =>
    rw [q] at p
    exact p.elim
  | ct ds' S' =>
    rw [q] at p
    exact p.elim
  | ex x ds' S' =>
    rw [q] at p
    exact fun g' H' σ' cls dx fr' rx => p g' H' cls dx fr'.ext fr'.st rx
  | bad =>
    rw [q] at p
    exact p.elim
structure Bd (T : Tx) (mg : Str → Option Value) (P : Program) (w : World) (base : Heap) (k : Nat) (Wx : WX) (X : Cx) : Prop extends Lv T Wx X where
  calm : X.calm = true
  mg : X.mg = mg
  prog : X.prog = P
  wo : X.w = w
  ba : X.base = base
  rm : Room k X.A
  po : PassesOwn (model X.prog X.w) X.A X.env X.xe
theorem fn_ok {P : Program} {w : World} {K : PySem.W.Frag} {mg : Str → Option Value} {base : Heap} {x qual : Str} {st : Stmt} {f : Addr} {fd : FuncData} {N ps : List Str} {k : Nat} {m : CS} (F : Fun K x qual st f fd) (Sc : FnScope N ps (defScope st)) {T : Tx} (hT : T.K = K) (hl : ∀ a o, ¬ T.lean a o)
    (hb : ∀ (cdv : Value) (A : Around) (outer : List PySem.Env) (s : Shared) (H : Hp) (E : XK), Bd T mg P w base k (fun cls d _ H => E cls d H) (cxOf (L2.CX P w) P w K mg base N qual (defScope st) f cdv A outer s H E) →
      JSs T (fun cls d _ H => E cls d H) (cxOf (L2.CX P w) P w K mg base N qual (defScope st) f cdv A outer s H E) (defBody st) m) :
    FnOk P w K mg base (L2.CX P w) (k + 1) f fd ps (spF T ps.length (runF N.length m)) := by
  refine F.okX Sc (fun vs H Q E h => h.1) (fun cdv A outer s H vs Q E hr h => ?_)
  have tk : Takes (cxOf (L2.CX P w) P w K mg base N qual (defScope st) f cdv A outer s H E) (fun cls d _ H => E cls d H) := takes_of rfl rfl rfl rfl
  have po : PassesOwn (model P w) (A.deeper (envOfC qual (defScope st) s.heap.objs.size f cdv)) (envOfC qual (defScope st) s.heap.objs.size f cdv) (cxOf (L2.CX P w) P w K mg base N qual (defScope st) f cdv A outer s H E).xe :=
    passes_of (X := cxOf (L2.CX P w) P w K mg base N qual (defScope st) f cdv A outer s H E) rfl
  exact ⟨_, hb cdv A outer s H E ⟨⟨hT.symm, tk, by have := hr.un; show (A.deeper _).units + 200 < _; omega⟩, rfl, rfl, rfl, rfl, rfl, hr, po⟩, body_end hl h⟩
structure Def (P : Program) (w : World) (K : PySem.W.Frag) (mg : Str → Option Value) (base : Heap) (T : Tx) (k : Nat) (x : Str) (np : Nat) (m : Fn) : Prop where
  ex : ∃ (f : Addr) (fd : FuncData) (ps : List Str), mg x = some (.ref f) ∧ PySem.W.keepIn K (.ref f) = true ∧ ps.length = np ∧ Binds K fd ps [] ∧ FnOk P w K mg base (L2.CX P w) k f fd ps (spF T np m)
theorem Def.mono {P : Program} {w : World} {K : PySem.W.Frag} {mg : Str → Option Value} {base : Heap} {j k : Nat} {x : Str} {np : Nat} {m : Fn} (d : Def P w K mg base T j x np m) (h : j ≤ k) : Def P w K mg base T k x np m := by
  obtain ⟨f, fd, ps, h1, h2, h3, h4, h5⟩ := d.ex
  exact ⟨f, fd, ps, h1, h2, h3, h4, h5.mono h⟩
noncomputable def cCall (m : Fn) (fs : Env → M (List D)) : CE := fun ds S => bindR (fs ds S) fun args S => m args S
theorem je_call {P : Program} {w : World} {mg : Str → Option Value} {base : Heap} {k : Nat} {x : Str} {np : Nat} {m : Fn} {p' : Pos} {es : List Expr} {fs : Env → M (List D)} (B : Bd T mg P w base k Wx X) (d : Def P w T.K mg base T k x np m) (hg : Gl X x) (ha : JA T Wx X (e :: es) fs)
    (hn : (e :: es).length = np := by rfl) (hdb : (x == ("__debug__" : Str)) = false := by decide) (he : starEach (e :: es) X.env = (false, eval e X.env) :: starEach es X.env := by rfl) (hpl : (backTo pos (starEach es X.env)).any (·.1) = false := by rfl)
    (hlen : ∀ ds S args S', fs ds S = .ok args S' → args.length = np) :
    JE T Wx X (.Call (.Name x p') (e :: es) [] pos) (cCall m fs) := by
  obtain ⟨f, fd, ps, h1, h2, h3, h4, h5⟩ := d.ex
  have hK := B.hK
  have F : FnOk X.prog X.w X.K X.mg X.base (L2.CX X.prog X.w) k f fd ps (spF T np m) := by rw [B.prog, B.wo, hK, B.mg, B.ba]; exact h5
  refine PE.imp (pe_callS (E := fun σ => WE Wx σ) F B.rm hg (by rw [B.mg]; exact h1) (by rw [hK]; exact h2) (by rw [hK]; exact h4) (fun σ => passAt B.tk σ) ha hdb he hpl) fun σ H Q hh_ => ?_
  obtain ⟨g0, H0, c, g, S, ds, fr, p⟩ := hh_
  unfold cCall at p
  refine ⟨g0, H0, c, g, S, ds, fr, ?_⟩
  cases q : fs ds S with
  | ok args S1 =>
    rw [q] at p
    intro g1 H1 vs e1 rs rv
    refine ⟨by rw [← rv.length]; exact hlen ds S args S1 q, g1, S1, args, rs, rv, ?_⟩
    have p2 : PostG T Wx (RW T H1) g1 H1 σ Q (m args S1) := PostG.from mono_w e1 p
    cases q2 : m args S1 with
    | ok w2 S2 =>
      rw [q2] at p2
      exact p2
    | ex x2 S2 =>
      rw [q2] at p2
      exact p2
    | bad =>
      rw [q2] at p2
      exact p2
  | ex x1 S1 =>
    rw [q] at p
    exact p
  | bad =>
    rw [q] at p
    exact p
end
end Mir
set_option Elab.async false
set_option linter.all false
set_option maxRecDepth 100000
namespace Mir
open PySem PySem.Spec PyProof.Rows L2
noncomputable def setAllV : List Nat → List V → SV → SV
  | i :: is, v :: r, σ => setAllV is r (σ.set i (some v))
  | _, _, σ => σ
noncomputable def tGc (K : PySem.W.Frag) : Tgt → TG
  | .nm i => gName i
  | .tp is => fun v σ H Q => gTup K is.length (tNms is) v σ H Q ∨ gLst K is.length (tNms is) v σ H Q
noncomputable def JGc (T : Tx) (X : Cx) (target : Expr) (t : Tgt) : Prop := PG X target (tGc T.K t)
noncomputable def Tgt.slots : Tgt → List Nat
  | .nm i => [i]
  | .tp is => is
section
variable {T : Tx} {Wx : WX} {X : Cx} {e : Expr} {g g0 g1 : Gh} {H H0 H1 : Hp} {c : Chk} {S S1 : Store} {ds : Env} {σ : SV} {pos : Pos} {tg : Expr}
theorem jgc_name {i : Nat} {x : Str} (hN : X.N.Nodup) (hi : X.N[i]? = some x) (hx : Loc X.env.scope x) (hf : X.fn x = true ∨ X.env.scope.names.lookup x = some .local := by first | exact .inl rfl | exact .inr rfl | assumption) : JGc T X (.Name x pos) (.nm i) := pg_name hN hi hx hf
theorem jgc_tup {is : List Nat} {es : List Expr} {k : Nat} (lv : Lv T Wx X) (hc : X.calm = true) (h : PGs X es (tNms is))
    (hn : (assignEach es X.env).length = is.length := by rfl) (hst : (assignEach es X.env).findIdx? (·.1) = none := by rfl) : JGc T X (.Tuple es k pos) (.tp is) := by
  have hK := lv.hK
  have q := PG.or (pg_tup (pos := pos) (k := k) hc h hn hst) (pg_lst (pos := pos) (k := k) hc h hn hst)
  rw [hK] at q
  exact q
theorem nms_eq {Q : SV → Hp → Prop} : ∀ {is : List Nat} {vs : List V} {σ : SV}, is.length = vs.length → Q (setAllV is vs σ) H → tNms is vs σ H Q
  | [], [], _, _, q => ⟨rfl, q⟩
  | [], _ :: _, _, h, _ => nomatch h
  | _ :: _, [], _, h, _ => nomatch h
  | i :: is, v :: r, σ, h, q => ⟨v, r, rfl, nms_eq (Nat.succ.inj h) q⟩
theorem FR.setAll {is : List Nat} : ∀ {xs : List D} {vs : List V} {ds ds' : Env} {σ : SV}, FR T g0 H0 c g H S ds σ → Reps T g H xs vs → setAll is xs ds = some ds' → FR T g0 H0 c g H S ds' (setAllV is vs σ) := by
  induction is with
  | nil =>
    intro xs vs ds ds' σ fr r e
    cases xs with
    | nil =>
      cases e
      cases r
      exact fr
    | cons _ _ => cases e
  | cons i is ih =>
    intro xs vs ds ds' σ fr r e
    cases xs with
    | nil => cases e
    | cons d xr =>
      cases r with
      | cons rd rr =>
        unfold Mir.setAll at e
        split at e
        · rename_i hl
          exact ih (fr.set (w := .fz d) rd hl) rr e
        · cases e
theorem wipe_get (σ : SV) : ∀ (own : List Nat) (j : Nat), (wipe σ own)[j]? = if j ∈ own ∧ j < σ.length then some none else σ[j]?
  | [], j => by simp [wipe]
  | v :: vs, j => by
    unfold wipe
    by_cases e : v = j
    · subst e
      by_cases h : v < σ.length
      · rw [List.getElem?_set_self (by rw [wipe_length]; exact h), if_pos ⟨List.mem_cons_self, h⟩]
      · rw [List.getElem?_eq_none (by rw [List.length_set, wipe_length]; exact Nat.le_of_not_lt h), if_neg (fun z => h z.2), List.getElem?_eq_none (Nat.le_of_not_lt h)]
    · rw [List.getElem?_set_ne e, wipe_get σ vs j]
      have q : (j ∈ v :: vs) ↔ j ∈ vs := by
        rw [List.mem_cons]
        exact ⟨fun z => z.elim (fun y => (e y.symm).elim) id, .inr⟩
      simp only [q]
theorem wipe_set {σ : SV} {own : List Nat} {i : Nat} {v : Option V} (h : i ∈ own) : wipe (σ.set i v) own = wipe σ own := by
  apply List.ext_getElem?
  intro j
  rw [wipe_get, wipe_get, List.length_set]
  by_cases e : i = j
  · subst e
    by_cases hl : i < σ.length
    · rw [if_pos ⟨h, hl⟩, if_pos ⟨h, hl⟩]
    · rw [if_neg (fun z => hl z.2), if_neg (fun z => hl z.2), List.getElem?_eq_none (by rw [List.length_set]; exact Nat.le_of_not_lt hl), List.getElem?_eq_none (Nat.le_of_not_lt hl)]
  · rw [List.getElem?_set_ne e]
theorem wipe_setAll {own : List Nat} : ∀ {is : List Nat} {vs : List V} {σ : SV}, (∀ i ∈ is, i ∈ own) → wipe (setAllV is vs σ) own = wipe σ own
  | [], _, _, _ => rfl
  | _ :: _, [], _, _ => rfl
  | i :: is, v :: r, σ, h => by
    unfold setAllV
    rw [wipe_setAll (fun j hj => h j (List.mem_cons_of_mem _ hj)), wipe_set (h i List.mem_cons_self)]
theorem wipe_wipe (σ : SV) (own : List Nat) : wipe (wipe σ own) own = wipe σ own := by
  apply List.ext_getElem?
  intro j
  rw [wipe_get, wipe_get, wipe_length]
  split <;> rfl
noncomputable def wipeE (ds : Env) : List Nat → Env
  | [] => ds
  | v :: vs => (wipeE ds vs).set v none
theorem FR.forget {i : Nat} (fr : FR T g0 H0 c g H S ds σ) : FR T g0 H0 c g H S (ds.set i none) (σ.set i none) := by
  refine ⟨fr.ext, fr.st, ⟨by simpa using fr.env.len, fun j d h => ?_, fun j so h => ?_, fun j k so so' a ne h1 h2 h3 h4 => ?_, fun j h => ?_⟩, fr.fz, fr.io, fr.ln⟩
  · by_cases e : i = j
    · subst e
      rw [List.getElem?_set] at h
      simp at h
    · rw [List.getElem?_set_ne e] at h ⊢
      exact fr.env.fz j d h
  · by_cases e : i = j
    · subst e
      rw [List.getElem?_set] at h
      simp at h
    · rw [List.getElem?_set_ne e] at h ⊢
      exact fr.env.ow j so h
  · have f : ∀ {m : Nat} {s : SO}, (ds.set i none)[m]? = some (some (.ow s)) → i ≠ m ∧ ds[m]? = some (some (.ow s)) := fun {m s} q => by
      by_cases e : i = m
      · subst e
        rw [List.getElem?_set] at q
        simp at q
      · rw [List.getElem?_set_ne e] at q
        exact ⟨e, q⟩
    obtain ⟨n1, q1⟩ := f h1
    obtain ⟨n2, q2⟩ := f h2
    rw [List.getElem?_set_ne n1] at h3
    rw [List.getElem?_set_ne n2] at h4
    exact fr.env.ne j k so so' a ne q1 q2 h3 h4
  · by_cases e : i = j
    · subst e
      rw [List.getElem?_set] at h
      simp at h
    · rw [List.getElem?_set_ne e] at h ⊢
      exact fr.env.xc j h
theorem FR.wipe (fr : FR T g0 H0 c g H S ds σ) : ∀ own : List Nat, FR T g0 H0 c g H S (wipeE ds own) (L2.wipe σ own)
  | [] => fr
  | v :: vs => (FR.wipe fr vs).forget
theorem fix_upd {a : Addr} {ho : HO} (h : g.L a) : Fix g H g (upd H a ho) := ⟨⟨[], by simp⟩, fun b o hb n => ⟨by rw [upd_ne (show b ≠ a from fun z => n (by rw [z]; exact h))]; exact hb, n⟩⟩
theorem Ext.upd_new {a : Addr} {ho : HO} (x : Ext g0 H0 g H) (h0 : H0 a = none) : Ext g0 H0 g (upd H a ho) := by
  have ne : ∀ {b : Addr} {u : HO}, H0 b = some u → b ≠ a := fun {b u} hb z => by
    rw [z, h0] at hb
    cases hb
  refine ⟨x.pre, fun b o hb => ?_, x.liv, fun b o nt hb n => ?_⟩
  · obtain ⟨o', h1⟩ := x.trk b o hb
    exact ⟨o', by rw [upd_ne (ne hb)]; exact h1⟩
  · obtain ⟨h1, n1⟩ := x.kp b o nt hb n
    exact ⟨by rw [upd_ne (ne hb)]; exact h1, n1⟩
theorem RelS.upd {a : Addr} {ho : HO} (rs : RelS T g S H) (hl : g.L a) (hn : a ∉ g.io) (pl : ∀ u, H a = some u → Plain u) (nt : ∀ ps, ho ≠ .tbl ps) : RelS T g S (L2.upd H a ho) := by
  refine ⟨rs.len, rs.nd, rs.liv, fun n o b h1 h2 => ?_, rs.tab.upd pl nt fun _ _ l => l⟩
  obtain ⟨ho', h3, p⟩ := rs.obj n o b h1 h2
  have nb : b ≠ a := fun z => hn (z ▸ List.mem_of_getElem? h2)
  exact ⟨ho', by rw [upd_ne nb]; exact h3, p.fix (fix_upd hl)⟩
theorem FR.upd {a : Addr} {ho : HO} (fr : FR T g0 H0 c g H S ds σ) (h0 : H0 a = none) (hl : g.L a) (hn : a ∉ g.io) (pl : ∀ u, H a = some u → Plain u) (nt : ∀ ps, ho ≠ .tbl ps) (hd : ∀ (i : Nat) (so : SO), ds[i]? = some (some (.ow so)) → σ[i]? ≠ some (some (.ref a))) : FR T g0 H0 c g (L2.upd H a ho) S ds σ := by
  have fx : Fix g H g (L2.upd H a ho) := fix_upd hl
  refine ⟨fr.ext.upd_new h0, fr.st.upd hl hn pl nt, ⟨fr.env.len, fun i d h => ?_, fun i so h => ?_, fr.env.ne, fr.env.xc⟩, fun b o h => ?_, fr.io, fun b o h => fx.kp b o (fr.ln b o h).1 (fr.ln b o h).2⟩
  · obtain ⟨v, hv, rv⟩ := fr.env.fz i d h
    exact ⟨v, hv, rv.fix fx⟩
  · obtain ⟨b, hb, o⟩ := fr.env.ow i so h
    obtain ⟨ho', h1, p⟩ := o.obj
    have nb : b ≠ a := fun z => hd i so h (z ▸ hb)
    exact ⟨b, hb, o.new, o.liv, o.nio, ho', by rw [upd_ne nb]; exact h1, p.fix fx⟩
  · obtain ⟨h1, n1⟩ := fr.fz b o h
    exact fx.kp b o h1 n1
noncomputable def noEx {α : Type} : R α → R α
  | .ok a S => .ok a S
  | _ => .bad
noncomputable def lcRun (own : List Nat) (t : Tgt) (tst : Env → M Bool) (fe : Env → M D) (ds : Env) : List D → List D → Store → R Wv
  | [], acc, S => .ok (.ow (.lst acc)) S
  | d :: r, acc, S => match asgT t (.fz d) S (wipeE ds own) with
    | none => .bad
    | some ds1 => bindR (noEx (tst ds1 S)) fun b S => if b then bindR (noEx (fe ds1 S)) (fun y S => if szOk (acc.length + 1) then lcRun own t tst fe ds r (acc ++ [y]) S else .bad) else lcRun own t tst fe ds r acc S
noncomputable def cLc (own : List Nat) (t : Tgt) (tst : Env → M Bool) (fe : Env → M D) (fi : Env → M (List D)) : CE := fun ds S => bindR (fi ds S) fun items S => lcRun own t tst fe ds items [] S
noncomputable abbrev W0 : WX := fun _ _ _ _ => False
noncomputable def cYes : Env → M Bool := fun _ S => .ok true S
theorem noEx_ok {ga : Gh} {Ha : Hp} {σa : SV} {α β : Type} {r : Gh → Hp → α → β → Prop} {Q : β → Hp → Prop} {x : R α} {γ δ : Type} {r2 : Gh → Hp → γ → δ → Prop} {Q2 : δ → Hp → Prop} {k : α → Store → R γ} (p : PostG T Wx r2 g H σ Q2 (bindR (noEx x) k))
    (h : ∀ w S1, x = .ok w S1 → PostG T Wx r2 g H σ Q2 (k w S1) → ∀ g' H' v, Ext ga Ha g' H' → RelS T g' S1 H' → r g' H' w v → Q v H') : PostG T W0 r ga Ha σa Q x := by
  cases x with
  | ok w S1 => exact h w S1 rfl p
  | ex x S1 => exact p.elim
  | bad => exact p.elim
noncomputable def JTs (T : Tx) (X : Cx) (es : List Expr) (f : Env → M Bool) : Prop := PTs X es (tG T W0 RT f)
theorem jts_nil : JTs T X [] cYes := ⟨fun pins s σ H Q I ⟨g0, H0, c, g, S, ds, fr, p⟩ => pts_nil.run pins s σ H Q I (show Q true H from PostG.now (r := RT H) p fr.st rfl)⟩
theorem jts_one {a : Expr} {f : Env → M Bool} (h : JT T W0 X a f) : JTs T X [a] f := pts_one h
theorem asgT_gc {t : Tgt} {w : Wv} {v : V} {ds' : Env} {own : List Nat} {σ0 : SV} {Q : SV → Hp → Prop} (fr : FR T g0 H0 c g H S ds σ) (rb : RepB T g H w v) (n : NewIn T H0 g H ds σ w v) (ho : ∀ i ∈ t.slots, i ∈ own) (hw : wipe σ own = σ0)
    (e : asgT t w S ds = some ds') (q : ∀ σ', FR T g0 H0 c g H S ds' σ' → wipe σ' own = σ0 → Q σ' H) : tGc T.K t v σ H Q := by
  unfold asgT at e
  cases t with
  | nm i =>
    dsimp only at e
    split at e
    · rename_i hl
      cases e
      exact q _ (fr.set n hl) (by rw [wipe_set (ho i (by simp [Tgt.slots])), hw])
    · cases e
  | tp is =>
    dsimp only at e
    unfold itemsOf at e
    cases hT : viewT w with
    | some xs =>
      rw [hT] at e
      dsimp only at e
      obtain ⟨a, vs, rfl, h1, r⟩ := viewT_ok rb hT
      exact .inl ⟨a, vs, rfl, SqT.of h1, by rw [← r.length, setAll_len e], nms_eq (by rw [← r.length, setAll_len e]) (q _ (fr.setAll r e) (by rw [wipe_setAll (is := is) ho, hw]))⟩
    | none =>
      rw [hT] at e
      dsimp only at e
      cases hL : viewR S w with
      | none =>
        rw [hL] at e
        cases e
      | some xs =>
        rw [hL] at e
        dsimp only at e
        obtain ⟨a, vs, rfl, h1, r⟩ := viewR_ok fr.st rb hL
        exact .inr ⟨a, vs, rfl, h1, by rw [← r.length, setAll_len e], nms_eq (by rw [← r.length, setAll_len e]) (q _ (fr.setAll r e) (by rw [wipe_setAll (is := is) ho, hw]))⟩
theorem tlc {own : List Nat} {t : Tgt} {tst : Env → M Bool} {fe : Env → M D} {fi : Env → M (List D)} (ho : ∀ i ∈ t.slots, i ∈ own) {Q : VK} (h : tG T Wx (RW T) (cLc own t tst fe fi) σ H Q) :
    tLc (tI T Wx fi) (tGc T.K t) (tG T W0 RT tst) (tG T W0 (RD T) fe) own σ H Q := by
  obtain ⟨g0, H0, c, g, S, ds, fr, p⟩ := h
  refine ⟨g0, H0, c, g, S, ds, fr, ?_⟩
  unfold cLc at p
  cases q : fi ds S with
  | ex x S1 =>
    rw [q] at p
    exact p
  | bad =>
    rw [q] at p
    exact p
  | ok items S1 =>
    rw [q] at p
    intro g1 H1 J c' e1 rs1 hh le ok Dd hD
    have p : PostG T Wx (RW T H) g H σ Q (lcRun own t tst fe ds items [] S1) := p
    have fr1 : FR T g0 H0 c' g1 H1 S1 ds σ := (fr.on e1 rs1).chk hh.1 hh.2
    -- the new list is a thing of our own
    obtain ⟨g2, e2, rs2, rw2⟩ := alloc_ow (so := .lst []) rs1 hD (ho := .lst []) fun g' H' fx => .lst .nil
    have fr2 := fr1.on e2 rs2
    obtain ⟨Da, ea, ow2⟩ := rw2
    cases ea
    have hD0 : H Dd = none := e1.free hD
    have nsl : ∀ (i : Nat) (so : SO), ds[i]? = some (some (.ow so)) → σ[i]? ≠ some (some (.ref Dd)) := fun i so h z => by
      obtain ⟨b, hb, ob⟩ := fr.env.ow i so h
      rw [z] at hb
      cases hb
      obtain ⟨ho, h1, _⟩ := ob.obj
      rw [hD0] at h1
      cases h1
    refine ⟨fun i m H' => m = items.length - i ∧ i ≤ items.length ∧ ∃ g' S' acc vacc, FR T g0 H0 c' g' H' S' ds σ ∧ Ext g H g' H' ∧ H' Dd = some (.lst vacc) ∧ g'.L Dd ∧ Dd ∉ g'.io ∧ Reps T g' H' acc vacc ∧ PostG T Wx (RW T H) g H σ Q (lcRun own t tst fe ds (items.drop i) acc S'),
      ⟨items.length, by simp, Nat.zero_le _, g2, S1, [], [], fr2, e1.trans e2, upd_same, ow2.liv, ow2.nio, .nil, by rw [List.drop_zero]; exact p⟩, ?_⟩
    rintro i m H' ⟨rfl, hi, g', S', acc, vacc, fr', ex', hDd, hL, hio, hacc, p'⟩
    by_cases hlt : i < items.length
    · refine .inr ⟨ok.go i g' H' S' hlt fr'.held fr'.st, fun H2 => ∃ g2 S2 acc2 vacc2, FR T g0 H0 c' g2 H2 S2 ds σ ∧ Ext g H g2 H2 ∧ H2 Dd = some (.lst vacc2) ∧ g2.L Dd ∧ Dd ∉ g2.io ∧ Reps T g2 H2 acc2 vacc2 ∧ PostG T Wx (RW T H) g H σ Q (lcRun own t tst fe ds (items.drop (i + 1)) acc2 S2),
        fun H2 ⟨g2, S2, acc2, vacc2, hN⟩ => ⟨items.length - (i + 1), by omega, rfl, hlt, g2, S2, acc2, vacc2, hN⟩, fun x H2 hy => ?_⟩
      obtain ⟨g2, e2, rs2, rx⟩ := ok.yld i _ g' H' S' x H2 (List.getElem?_eq_getElem hlt) fr'.held fr'.st hy
      have fr2 := fr'.on e2 rs2
      rw [List.drop_eq_getElem_cons hlt] at p'
      unfold lcRun at p'
      split at p'
      · exact p'.elim
      · rename_i ds1 ha
        refine asgT_gc (w := .fz items[i]) (fr2.wipe own) rx rx ho (wipe_wipe σ own) ha fun σ3 fr3 hw => ⟨hw, ⟨g0, H0, c', g2, S', ds1, fr3, ?_⟩⟩
        refine noEx_ok (r := RT H2) p' fun b S3 _ p3 g3 H3 b' e3 rs3 hb => ?_
        subst hb
        have k3 := e2.trans e3
        obtain ⟨hD3, hio3⟩ := k3.kp Dd _ (fun _ z => by cases z) hDd hio
        have hL3 := (k3.liv Dd _ hDd).mpr hL
        have fr4 := fr3.on e3 rs3
        cases b with
        | false =>
          rw [if_neg Bool.false_ne_true] at p3 ⊢
          exact ⟨g3, S3, acc, vacc, fr'.on k3 rs3, ex'.trans k3, hD3, hL3, hio3, hacc.fix (k3.fix fr'.st), p3⟩
        | true =>
          rw [if_pos rfl] at p3 ⊢
          refine ⟨g0, H0, c', g3, S3, ds1, fr4, ?_⟩
          refine noEx_ok (r := RD T H3) p3 fun y S4 _ p4 g4 H4 yv e4 rs4 hy4 => ?_
          have k4 := k3.trans e4
          obtain ⟨hD4, hio4⟩ := k4.kp Dd _ (fun _ z => by cases z) hDd hio
          have hL4 := (k4.liv Dd _ hDd).mpr hL
          split at p4
          · rename_i hz
            have hacc4 := hacc.fix (k4.fix fr'.st)
            have fx : Fix g4 H4 g4 (L2.upd H4 Dd (.lst (vacc ++ [yv]))) := fix_upd hL4
            refine ⟨vacc, hD4, ?_, g4, S4, acc ++ [y], vacc ++ [yv], (fr'.on k4 rs4).upd (fr.ext.free hD0) hL4 hio4 (fun u e => by rw [hD4] at e; cases e; exact RepO.plain (T := T) (g := g4) (H := H4) (.lst hacc4)) (fun _ z => by cases z) nsl, (ex'.trans k4).upd_new hD0, upd_same, hL4, hio4, (hacc4.fix fx).append (.cons (hy4.fix fx) .nil), p4⟩
            rw [← hacc4.length]
            have := szOk_of hz
            omega
          · exact p4.elim
    · have ei : i = items.length := Nat.le_antisymm hi (Nat.le_of_not_lt hlt)
      subst ei
      refine .inl ⟨ok.stop g' H' S' fr'.held fr'.st, ?_⟩
      rw [List.drop_length] at p'
      exact p' g' H' _ ex' fr'.st ⟨Dd, rfl, hD0, hL, hio, _, hDd, .lst hacc⟩
end
end Mir
set_option Elab.async false
set_option linter.all false
set_option maxRecDepth 100000
namespace Mir
open PySem PySem.Spec PyProof.Rows L2
section
variable {T : Tx} {Wx : WX} {X : Cx} {e : Expr} {g g0 g1 : Gh} {H H0 H1 : Hp} {c : Chk} {S S1 : Store} {ds : Env} {σ : SV} {pos : Pos} {tg : Expr} {f1 f2 : CE}
theorem Lv.blk (lv : Lv T Wx X) {s : Shared} {H : Hp} {scope : Scope} {cenv : PySem.Env} {fp : List Addr} : Lv T W0 (X.blk s H scope cenv fp) := ⟨lv.hK, takes0, lv.un⟩
theorem Bd.blk {mg : Str → Option Value} {P : Program} {w : World} {base : Heap} {k : Nat} (B : Bd T mg P w base k Wx X) {s : Shared} {H : Hp} {scope : Scope} {cenv : PySem.Env} {fp : List Addr} : Bd T mg P w base k W0 (X.blk s H scope cenv fp) :=
  ⟨B.toLv.blk, B.calm, B.mg, B.prog, B.wo, B.ba, B.rm, PassesOwn.never⟩
theorem je_lc {elt iter : Expr} {ifs : List Expr} {scope : Scope} {own : List (Str × Nat)} {t : Tgt} {tst : Env → M Bool} {fe : Env → M D} {fi : Env → M (List D)} (lv : Lv T Wx X) (hc : X.calm = true) (hN : X.N.Nodup) (hi : JI T Wx X tg iter fi) (ok : BlkOk X.N X.env.scope scope own)
    (hg : ∀ (s : Shared) (H : Hp) (C : Addr) (cl : List (Str × Addr)) (fp : List Addr), JGc T (X.blk s H scope (compEnvC scope cl C X.env) fp) tg t) (ht : ∀ (s : Shared) (H : Hp) (C : Addr) (cl : List (Str × Addr)) (fp : List Addr), JTs T (X.blk s H scope (compEnvC scope cl C X.env) fp) ifs tst)
    (he : ∀ (s : Shared) (H : Hp) (C : Addr) (cl : List (Str × Addr)) (fp : List Addr), JD T W0 (X.blk s H scope (compEnvC scope cl C X.env) fp) elt fe) (ho : ∀ i ∈ t.slots, i ∈ own.map (·.2) := by decide) (hs : ∀ x, foldedSetIterable iter X.env x = pure x := by intro _; rfl) :
    JE T Wx X (.ListComp elt [⟨tg, iter, ifs, 0⟩] scope pos) (cLc (own.map (·.2)) t tst fe fi) := PE.imp (pe_lc hc hN hi ok hg ht he hs) fun σ H Q h => tlc ho h
noncomputable def cNoP : Env → M (Option Int) := fun _ S => .ok none S
noncomputable def cPart (f : CE) : Env → M (Option Int) := fun ds S => bindR (f ds S) fun w S => match w with
  | .fz (.int i) => .ok (some i) S
  | _ => .bad
noncomputable abbrev RO : Rl (Option Int) (Option Int) := fun _ _ _ a b => a = b
theorem mono_o : Mono RO := fun _ _ _ _ _ _ _ r => r
noncomputable def JO (T : Tx) (Wx : WX) (X : Cx) (e : Option Expr) (f : Env → M (Option Int)) : Prop := PO X e (tG T Wx RO f)
theorem PO.imp {X : Cx} {e : Option Expr} {t t' : TO} (h : PO X e t) (i : ∀ σ H Q, t' σ H Q → t σ H Q) : PO X e t' := ⟨fun pins s σ H Q I q => h.run pins s σ H Q I (i σ H Q q)⟩
theorem jo_none : JO T Wx X none cNoP := PO.imp po_none fun σ H Q hh_ => by
  obtain ⟨g0, H0, c, g, S, ds, fr, p⟩ := hh_
  show Q none H
  exact PostG.now (r := RO H) p fr.st rfl
theorem jo_some (h : JB T Wx X e f1) : JO T Wx X (some e) (cPart f1) := PO.imp (po_some h) fun σ H Q hh_ => by
  obtain ⟨g0, H0, c, g, S, ds, fr, p⟩ := hh_
  refine tG.bind (r1 := RB T) (r2 := RO) mono_o fr p fun w S1 g1 H1 v e1 fr1 rv p1 => ?_
  split at p1
  · cases rv
    exact ⟨_, rfl, PostG.now (r := RO H1) p1 fr1.st rfl⟩
  · exact p1.elim
noncomputable def cutD {α : Type} (xs : List α) (lo hi : Option Int) : List α := (xs.drop (HT.sIx xs.length 0 lo)).take (HT.sIx xs.length xs.length hi - HT.sIx xs.length 0 lo)
noncomputable def opSl (w : Wv) (lo hi : Option Int) : M Wv := fun S => match w with
  | .fz (.tup xs) => .ok (.fz (.tup (cutD xs lo hi))) S
  | .fz (.str z) => if szOk z.length then .ok (.fz (.str (cutS z lo hi))) S else .bad
  | w => match viewR S w with
    | some xs => .ok (.ow (.lst (cutD xs lo hi))) S
    | none => .bad
noncomputable def cSl (f : CE) (fl fh : Env → M (Option Int)) : CE := fun ds S => bindR (f ds S) fun w S => bindR (fl ds S) fun lo S => bindR (fh ds S) fun hi S => opSl w lo hi S
theorem Reps.cut {T : Tx} {g : Gh} {H : Hp} {xs : List D} {vs : List V} (r : Reps T g H xs vs) (lo hi : Option Int) : Reps T g H (cutD xs lo hi) (cutV vs lo hi) := by
  unfold cutD cutV
  rw [r.length]
  exact (r.drop _).take _
theorem je_sl {pos2 : Pos} {lo hi : Option Expr} {fl fh : Env → M (Option Int)} (lv : Lv T Wx X) (h : JB T Wx X e f1) (hl : JO T Wx X lo fl) (hh : JO T Wx X hi fh) : JE T Wx X (.Subscript e (.Slice lo hi none pos2) pos) (cSl f1 fl fh) := by
  have hr : SlR X (fun x l u H Q => rSlL T.K x l u H Q ∨ (rSlA T.K x l u H Q ∨ rSlS x l u H Q)) := by
    have q : SlR X (fun x l u H Q => rSlL X.K x l u H Q ∨ (rSlA X.K x l u H Q ∨ rSlS x l u H Q)) := SlR.or sl_list (SlR.or sl_tupA sl_str)
    rw [lv.hK] at q
    exact q
  refine PE.imp (pe_slice hr h hl hh) fun σ H Q hh_ => ?_
  obtain ⟨g0, H0, c, g, S, ds, fr, p⟩ := hh_
  refine tG.bind (r1 := RB T) (r2 := RW T) mono_w fr p fun w S1 g1 H1 v e1 fr1 rv p1 => ?_
  refine tG.bind (r1 := RO) (r2 := RW T) mono_w fr1 p1 fun lo' S2 g2 H2 v2 e2 fr2 rv2 p2 => ?_
  refine tG.bind (r1 := RO) (r2 := RW T) mono_w fr2 p2 fun hi' S3 g3 H3 v3 e3 fr3 rv3 p3 => ?_
  subst rv2 rv3
  have rv' := rv.ext (e2.trans e3) fr1.st
  unfold opSl at p3
  split at p3
  · rename_i xs
    obtain ⟨a, vs, rfl, h1, r⟩ := viewT_ok (xs := xs) rv' rfl
    refine .inr (.inl ⟨a, vs, rfl, SqT.of h1, fun z => ?_, fun _ q hq => ?_⟩)
    · have e : cutD xs lo' hi' = xs := by
        unfold cutD
        rw [← r.length] at z
        rw [z.1, z.2, List.drop_zero, Nat.sub_zero, List.take_length]
      rw [e] at p3
      exact PostG.now (r := RW T H3) p3 fr3.st rv'
    · obtain ⟨g4, e4, rs4, fx, nl⟩ := alloc_fz fr3.st hq (.tup (cutV vs lo' hi'))
      exact p3 g4 _ _ e4 rs4 (Rep.tup upd_same nl (Reps.fix fx (r.cut lo' hi')))
  · rename_i z
    split at p3
    · rename_i hz
      cases rv'
      exact .inr (.inr ⟨z, rfl, szOk_of hz, PostG.now (r := RW T H3) p3 fr3.st (.str _)⟩)
    · exact p3.elim
  · split at p3
    · rename_i xs hx
      obtain ⟨a, vs, rfl, h1, r⟩ := viewR_ok fr3.st rv' hx
      refine .inl ⟨a, vs, rfl, h1, fun q hq => ?_⟩
      obtain ⟨g4, e4, rs4, rw4⟩ := alloc_ow (so := .lst (cutD xs lo' hi')) fr3.st hq (ho := .lst (cutV vs lo' hi')) fun g' H' fx => .lst (Reps.fix fx (r.cut lo' hi'))
      exact p3 g4 _ _ e4 rs4 rw4
    · exact p3.elim
inductive RepBs (T : Tx) (g : Gh) (H : Hp) : List Wv → List V → Prop
  | nil : RepBs T g H [] []
  | cons {w : Wv} {v : V} {ws : List Wv} {vs : List V} : RepB T g H w v → RepBs T g H ws vs → RepBs T g H (w :: ws) (v :: vs)
noncomputable abbrev RBs (T : Tx) : Rl (List Wv) (List V) := fun _ => RepBs T
theorem mono_bs {T : Tx} : Mono (RBs T) := fun _ _ _ _ _ _ _ r => r
noncomputable def JAB (T : Tx) (Wx : WX) (X : Cx) (es : List Expr) (f : Env → M (List Wv)) : Prop := PA X es (tG T Wx (RBs T) f)
noncomputable def bNil : Env → M (List Wv) := fun _ S => .ok [] S
noncomputable def bCons (f : CE) (fs : Env → M (List Wv)) : Env → M (List Wv) := fun ds S => bindR (f ds S) fun d S => bindR (fs ds S) fun r S => .ok (d :: r) S
theorem jab_nil : JAB T Wx X [] bNil := PA.imp pa_nil fun σ H Q hh_ => by
  obtain ⟨g0, H0, c, g, S, ds, fr, p⟩ := hh_
  show Q [] H
  exact PostG.now (r := RBs T H) p fr.st .nil
theorem jab_cons {es : List Expr} {fs : Env → M (List Wv)} (h : JB T Wx X e f1) (hr : JAB T Wx X es fs) (hs : starEach (e :: es) X.env = (false, eval e X.env) :: starEach es X.env := by rfl) : JAB T Wx X (e :: es) (bCons f1 fs) :=
  PA.imp (pa_cons h hr hs) fun σ H Q hh_ => by
    obtain ⟨g0, H0, c, g, S, ds, fr, p⟩ := hh_
    refine tG.bind (r1 := RB T) (r2 := RBs T) mono_bs fr p fun d S1 g1 H1 v e1 fr1 rv p1 => ?_
    refine tG.bind (r1 := RBs T) (r2 := RBs T) mono_bs fr1 p1 fun r S2 g2 H2 vs e2 fr2 rvs p2 => ?_
    exact p2.now fr2.st (.cons (rv.ext e2 fr1.st) rvs)
noncomputable def VC (T : Tx) (Wx : WX) (r : List V → Hp → VK → Prop) (k : List Wv → M Wv) : Prop :=
  ∀ (g : Gh) (H : Hp) (S : Store) (σ : SV) (ws : List Wv) (vs : List V) (Q : VK), RelS T g S H → RepBs T g H ws vs → PostG T Wx (RW T H) g H σ Q (k ws S) → r vs H Q
noncomputable def cBlt (k : List Wv → M Wv) (fs : Env → M (List Wv)) : CE := fun ds S => bindR (fs ds S) fun ws S => k ws S
theorem tcb {r : List V → Hp → VK → Prop} {k : List Wv → M Wv} {fs : Env → M (List Wv)} (hv : VC T Wx r k) {Q : VK} (h : tG T Wx (RW T) (cBlt k fs) σ H Q) : tCB r (tG T Wx (RBs T) fs) σ H Q := by
  obtain ⟨g0, H0, c, g, S, ds, fr, p⟩ := h
  exact tG.bind (r1 := RBs T) (r2 := RW T) mono_w fr p fun ws S1 g1 H1 vs e1 fr1 rv p1 => hv g1 H1 S1 σ ws vs Q fr1.st rv p1
theorem je_callB {id : String} {x : Str} {p' : Pos} {es : List Expr} {r : List V → Hp → VK → Prop} {k : List Wv → M Wv} {fs : Env → M (List Wv)} (hc : CallR X (.builtin id) r) (hv : VC T Wx r k) (hg : Gl X x) (hm : X.mg x = none) (hb : bootBuiltins x = some (.builtin id)) (ha : JAB T Wx X (e :: es) fs)
    (hn : x ≠ "__name__" := by decide) (hdb : (x == ("__debug__" : Str)) = false := by decide) (he : starEach (e :: es) X.env = (false, eval e X.env) :: starEach es X.env := by rfl) (hpl : (backTo pos (starEach es X.env)).any (·.1) = false := by rfl) :
    JE T Wx X (.Call (.Name x p') (e :: es) [] pos) (cBlt k fs) := PE.imp (pe_callB hc hg hm hb ha hn hdb he hpl) fun σ H Q h => tcb hv h
theorem je_callTy {id : String} {x : Str} {p' : Pos} {es : List Expr} {r : List V → Hp → VK → Prop} {k : List Wv → M Wv} {fs : Env → M (List Wv)} (hc : CallR X (.type id) r) (hv : VC T Wx r k) (hg : Gl X x) (hm : X.mg x = none) (hb : bootBuiltins x = some (.type id)) (ha : JAB T Wx X (e :: es) fs)
    (hn : x ≠ "__name__" := by decide) (hdb : (x == ("__debug__" : Str)) = false := by decide) (he : starEach (e :: es) X.env = (false, eval e X.env) :: starEach es X.env := by rfl) (hpl : (backTo pos (starEach es X.env)).any (·.1) = false := by rfl) :
    JE T Wx X (.Call (.Name x p') (e :: es) [] pos) (cBlt k fs) := PE.imp (pe_callTy hc hg hm hb ha hn hdb he hpl) fun σ H Q h => tcb hv h
noncomputable def bLen : List Wv → M Wv := fun ws S => match ws with
  | [w] => match viewT w with
    | some xs => .ok (.fz (.int xs.length)) S
    | none => match viewR S w with
      | some xs => .ok (.fz (.int xs.length)) S
      | none => match w with
        | .fz (.str z) => if szOk z.length then .ok (.fz (.int z.length)) S else .bad
        | w => match viewK S w with
          | some kvs => .ok (.fz (.int kvs.length)) S
          | none => .bad
  | _ => .bad
noncomputable def rLen1 (K : PySem.W.Frag) : List V → Hp → VK → Prop := fun xs H Q => ∃ x n, xs = [x] ∧ (LenV K x H n ∨ ∃ a kvs, x = .ref a ∧ Rd H a (.dK kvs) ∧ n = kvs.length) ∧ Q (.int n) H
theorem call_lenK : CallR X (.builtin "len") (rLen1 X.K) := by
  intro pins s σ H xs us Q I r h
  obtain ⟨x, n, rfl, h1, q⟩ := h
  rcases h1 with h1 | ⟨a, kvs, rfl, hd, rfl⟩
  · exact call_len pins s σ H [x] us Q I r ⟨x, n, rfl, h1, q⟩
  · obtain ⟨u, rfl, rx⟩ := vals1 r
    cases rx
    exact d_len I hd fun t s' I' => ⟨.int _, H, I', ⟨t, rfl⟩, q⟩
theorem v_len : VC T Wx (rLen1 T.K) bLen := by
  intro g H S σ ws vs Q rs rv p
  unfold bLen at p
  split at p
  · rename_i w
    cases rv with
    | cons r1 r2 =>
      cases r2
      split at p
      · rename_i xs hx
        obtain ⟨a, us, rfl, h1, r⟩ := viewT_ok r1 hx
        exact ⟨_, xs.length, rfl, .inl (.inr ⟨us, SqT.of h1, r.length⟩), PostG.now (r := RW T H) p rs (.int _)⟩
      · split at p
        · rename_i xs hx
          obtain ⟨a, us, rfl, h1, r⟩ := viewR_ok rs r1 hx
          exact ⟨_, xs.length, rfl, .inl (.inl ⟨us, h1, r.length⟩), PostG.now (r := RW T H) p rs (.int _)⟩
        · split at p
          · rename_i z _ _
            split at p
            · rename_i hz
              cases r1
              exact ⟨_, z.length, rfl, .inl ⟨szOk_of hz, rfl⟩, PostG.now (r := RW T H) p rs (.int _)⟩
            · exact p.elim
          · split at p
            · rename_i kvs hk
              obtain ⟨a, us, rfl, h1, r⟩ := viewK_ok rs r1 hk
              exact ⟨_, kvs.length, rfl, .inr ⟨a, us, rfl, h1, r.length⟩, PostG.now (r := RW T H) p rs (.int _)⟩
            · exact p.elim
  · exact p.elim
theorem je_len {p' : Pos} {fs : Env → M (List Wv)} {es : List Expr} (lv : Lv T Wx X) (hg : Gl X "len") (hm : X.mg "len" = none) (ha : JAB T Wx X (e :: es) fs)
    (he : starEach (e :: es) X.env = (false, eval e X.env) :: starEach es X.env := by rfl) (hpl : (backTo pos (starEach es X.env)).any (·.1) = false := by rfl) : JE T Wx X (.Call (.Name "len" p') (e :: es) [] pos) (cBlt bLen fs) := by
  have hc : CallR X (.builtin "len") (rLen1 T.K) := by rw [← lv.hK]; exact call_lenK
  exact je_callB hc v_len hg hm PySem.boot_len ha (by decide) (by decide) he hpl
noncomputable def bInt2 (f : Int → Int → Int) : List Wv → M Wv := fun ws S => match ws with
  | [.fz (.int i), .fz (.int j)] => .ok (.fz (.int (f i j))) S
  | _ => .bad
theorem v_int2c {f : Int → Int → Int} : VC T Wx (fun xs H Q => ∃ i j, xs = [.int i, .int j] ∧ Q (.int (f i j)) H) (bInt2 f) := by
  intro g H S σ ws vs Q rs rv p
  unfold bInt2 at p
  split at p
  · cases rv with
    | cons r1 r2 =>
      cases r2 with
      | cons r2 r3 =>
        cases r3
        cases r1
        cases r2
        exact ⟨_, _, rfl, PostG.now (r := RW T H) p rs (.int _)⟩
  · exact p.elim
noncomputable def maxI (i j : Int) : Int := if j > i then j else i
noncomputable def minI (i j : Int) : Int := if j < i then j else i
noncomputable def intsD : List D → Option (List Int)
  | [] => some []
  | .int i :: r => (intsD r).map (i :: ·)
  | _ => none
theorem intsD_ok {T : Tx} {g : Gh} {H : Hp} : ∀ {xs : List D} {vs : List V} {ns : List Int}, Reps T g H xs vs → intsD xs = some ns → vs = ns.map V.int
  | [], _, _, .nil, h => by
    cases h
    rfl
  | d :: r, _, ns, .cons rd rr, h => by
    cases d with
    | int i =>
      unfold intsD at h
      cases q : intsD r with
      | none =>
        rw [q] at h
        cases h
      | some ms =>
        rw [q] at h
        cases h
        cases rd
        rw [intsD_ok rr q]
        rfl
    | _ => cases h
noncomputable def bSum : List Wv → M Wv := fun ws S => match ws with
  | [w] => match viewR S w with
    | some xs => match intsD xs with
      | some ns => .ok (.fz (.int ns.sum)) S
      | none => .bad
    | none => .bad
  | _ => .bad
theorem v_sum : VC T Wx (rSum T.K) bSum := by
  intro g H S σ ws vs Q rs rv p
  unfold bSum at p
  split at p
  · cases rv with
    | cons r1 r2 =>
      cases r2
      split at p
      · rename_i xs hx
        split at p
        · rename_i ns hn
          obtain ⟨a, us, rfl, h1, r⟩ := viewR_ok rs r1 hx
          rw [intsD_ok r hn] at h1
          exact ⟨a, ns, rfl, h1, PostG.now (r := RW T H) p rs (.int _)⟩
        · exact p.elim
      · exact p.elim
  · exact p.elim
noncomputable def bIntL (f : List Int → Int) : List Wv → M Wv := fun ws S => match ws with
  | [w] => match viewR S w with
    | some xs => match intsD xs with
      | some ns => if ns.isEmpty then .bad else .ok (.fz (.int (f ns))) S
      | none => .bad
    | none => .bad
  | _ => .bad
noncomputable def bList : List Wv → M Wv := fun ws S => match ws with
  | [w] => match itemsOf S w with
    | some xs => .ok (.ow (.lst xs)) S
    | none => .bad
  | _ => .bad
noncomputable def rListA (K : PySem.W.Frag) : List V → Hp → VK → Prop := fun xs H Q => ∃ p ys, xs = [.ref p] ∧ (SqL K H p ys ∨ SqT K H p ys) ∧ ∀ l, H l = none → Q (.ref l) (upd H l (.lst ys))
theorem items_ok {w : Wv} {v : V} {xs : List D} (rs : RelS T g S H) (r : RepB T g H w v) (h : itemsOf S w = some xs) : ∃ a vs, v = .ref a ∧ (SqL T.K H a vs ∨ SqT T.K H a vs) ∧ Reps T g H xs vs := by
  unfold itemsOf at h
  split at h
  · rename_i ys hy
    cases h
    obtain ⟨a, us, rfl, h1, r⟩ := viewT_ok r hy
    exact ⟨a, us, rfl, .inr (SqT.of h1), r⟩
  · obtain ⟨a, us, rfl, h1, r⟩ := viewR_ok rs r h
    exact ⟨a, us, rfl, .inl h1, r⟩
theorem v_list : VC T Wx (rListA T.K) bList := by
  intro g H S σ ws vs Q rs rv p
  unfold bList at p
  split at p
  · cases rv with
    | cons r1 r2 =>
      cases r2
      split at p
      · rename_i xs hx
        obtain ⟨a, us, rfl, h1, r⟩ := items_ok rs r1 hx
        refine ⟨a, us, rfl, h1, fun l hl => ?_⟩
        obtain ⟨g2, e2, rs2, rw2⟩ := alloc_ow (so := .lst xs) rs hl (ho := .lst us) fun g' H' fx => .lst (r.fix fx)
        exact p g2 _ _ e2 rs2 rw2
      · exact p.elim
  · exact p.elim
noncomputable def bInt : List Wv → M Wv := fun ws S => match ws with
  | [.fz (.int i)] => .ok (.fz (.int i)) S
  | [.fz (.bl b)] => .ok (.fz (.int (if b then 1 else 0))) S
  | _ => .bad
theorem v_int1 : VC T Wx (fun xs H Q => (∃ i, xs = [.int i] ∧ Q (.int i) H) ∨ ∃ k, xs = [.bl k] ∧ Q (.int (if k then 1 else 0)) H) bInt := by
  intro g H S σ ws vs Q rs rv p
  unfold bInt at p
  split at p
  · cases rv with
    | cons r1 r2 =>
      cases r2
      cases r1
      exact .inl ⟨_, rfl, PostG.now (r := RW T H) p rs (.int _)⟩
  · cases rv with
    | cons r1 r2 =>
      cases r2
      cases r1
      exact .inr ⟨_, rfl, PostG.now (r := RW T H) p rs (.int _)⟩
  · exact p.elim
noncomputable def soTy : SO → Option String
  | .lst _ => some "list"
  | .dct _ => some "dict"
  | .ins _ _ => none
noncomputable def wTy (S : Store) : Wv → Option String
  | .fz .non => some "NoneType"
  | .fz (.bl _) => some "bool"
  | .fz (.int _) => some "int"
  | .fz (.str _) => some "str"
  | .fz (.tup _) => some "tuple"
  | .fz (.lst _) => some "list"
  | .fz (.scr _) => some "list"
  | .fz (.ins _ _) => none
  | .fz (.dct _) => none
  | .fz (.ref n) => match S[n]? with
    | some so => soTy so
    | none => none
  | .ow so => soTy so
  | .xc => none
noncomputable def isTy (a b : String) : Bool := a == b || (a == "bool" && b == "int")
noncomputable def opIsTy (b : String) : Wv → M Wv := fun w S => match wTy S w with
  | some a => .ok (.fz (.bl (isTy a b))) S
  | none => .bad
theorem soTy_ok {so : SO} {ho : HO} {a : Addr} {t : String} (h : H a = some ho) (r : RepO T g H so ho) (e : soTy so = some t) : TyX T.K H (.ref a) (.type t) := by
  cases r with
  | lst r =>
    cases e
    exact .base (.lst h)
  | dct r =>
    cases e
    exact .base (.dK h)
  | ins r => cases e
theorem wTy_ok {w : Wv} {v : V} {t : String} (rs : RelS T g S H) (r : RepB T g H w v) (e : wTy S w = some t) : TyX T.K H v (.type t) := by
  cases w with
  | ow so =>
    obtain ⟨a, ho, rfl, _, h1, h2⟩ := r
    exact soTy_ok h1 h2 e
  | xc => exact r.elim
  | fz d =>
    cases r with
    | non => cases e; exact .base .non
    | bl b => cases e; exact .base (.bl b)
    | int i => cases e; exact .base (.int i)
    | str x => cases e; exact .base (.str x)
    | tup h _ _ => cases e; exact .base (.tup h)
    | lst h _ _ => cases e; exact .base (.lst h)
    | dct h _ _ => cases e
    | scr h =>
      cases e
      rcases h with ⟨h | ⟨o, h⟩, _⟩ | ⟨o, its, n, h1, h2, _⟩
      · exact .base (.lst h)
      · exact .base (.frz h)
      · exact .kList h1 h2
    | ins _ _ _ => cases e
    | @ref n a hio =>
      unfold wTy at e
      dsimp only at e
      split at e
      · rename_i so hs
        obtain ⟨ho, h1, h2⟩ := rs.obj n so a hs hio
        exact soTy_ok h1 h2 e
      · cases e
theorem soTy_in {so : SO} {t : String} (e : soTy so = some t) : t ∈ ["list", "dict"] := by
  cases so with
  | lst _ => cases e; decide
  | dct _ => cases e; decide
  | ins _ _ => cases e
theorem wTy_in {w : Wv} {t : String} (e : wTy S w = some t) : t ∈ ["NoneType", "bool", "int", "str", "tuple", "list", "dict"] := by
  have up : t ∈ ["list", "dict"] → t ∈ ["NoneType", "bool", "int", "str", "tuple", "list", "dict"] := fun h => by
    rcases List.mem_cons.mp h with rfl | h
    · decide
    · rcases List.mem_cons.mp h with rfl | h
      · decide
      · cases h
  unfold wTy at e
  split at e <;> first
    | (cases e; decide)
    | cases e
    | exact up (soTy_in e)
    | (split at e
       · exact up (soTy_in e)
       · cases e)
theorem kit_all : ∀ t ∈ ["NoneType", "bool", "int", "str", "tuple", "list", "dict"], ∀ b ∈ ["int", "bool", "str", "list", "tuple", "dict"], kitB t b = some (isTy t b) := by decide +kernel
theorem je_isTy {b : String} {x : Str} {pf px : Pos} (lv : Lv T Wx X) (hb : b ∈ ["int", "bool", "str", "list", "tuple", "dict"]) (hg : Gl X "isinstance") (hm : X.mg "isinstance" = none) (hgx : Gl X x) (hmx : X.mg x = none) (hbx : bootBuiltins x = some (.type b)) (ha : JB T Wx X e f1)
    (hnx : x ≠ "__name__" := by decide) (hdbx : (x == ("__debug__" : Str)) = false := by decide)
    (he : starEach [e, .Name x px] X.env = (false, eval e X.env) :: starEach [.Name x px] X.env := by rfl) (he2 : starEach [.Name x px] X.env = [(false, eval (.Name x px) X.env)] := by rfl) (hpl : (backTo pos (starEach [.Name x px] X.env)).any (·.1) = false := by rfl) :
    JE T Wx X (.Call (.Name "isinstance" pf) [e, .Name x px] [] pos) (cUn (opIsTy b) f1) := by
  have hc : CallR X (.builtin "isinstance") (rIsi T.K) := by rw [← lv.hK]; exact call_isi
  have h2 : PE X (.Name x px) (tC (.ty b)) := pe_bltn (v := .ty b) hgx hmx hbx rfl hnx hdbx
  refine PE.imp (pe_callB hc hg hm (by decide +kernel) (pa_cons ha (pa_cons h2 pa_nil he2) he) (by decide) (by decide) he hpl) fun σ H Q hh_ => ?_
  obtain ⟨g0, H0, c, g, S, ds, fr, p⟩ := hh_
  refine tG.bind (r1 := RB T) (r2 := RW T) mono_w fr p fun w S1 g1 H1 v e1 fr1 rv p1 => ?_
  unfold opIsTy at p1
  split at p1
  · rename_i t ht
    exact ⟨v, .ty b, .type t, .type b, isTy t b, rfl, .ty b, wTy_ok fr1.st rv ht, kit_ty (kit_all t (wTy_in ht) b hb), PostG.now (r := RW T H1) p1 fr1.st (.bl _)⟩
  · exact p1.elim
end
end Mir
set_option Elab.async false
set_option linter.all false
set_option maxRecDepth 100000
namespace Mir
open PySem PySem.Spec PyProof.Rows L2
noncomputable abbrev Mu := SO → List D → Option (SO × D)
noncomputable def VM (T : Tx) (ty : String) (r : V → List V → Hp → VK → Prop) (m : Mu) : Prop :=
  ∀ (g : Gh) (H : Hp) (a : Addr) (ho : HO) (so : SO) (ds : List D) (vs : List V) (so' : SO) (d : D), H a = some ho → RepO T g H so ho → Reps T g H ds vs → m so ds = some (so', d) →
    ∃ ho' v, (∀ g' H', Fix g H g' H' → RepO T g' H' so' ho') ∧ (∀ g' H', Fix g H g' H' → Rep T g' H' d v) ∧ ∀ Q : VK, Q v (upd H a ho') → r (.ref a) vs H Q
noncomputable def MuTy (ty : String) (m : Mu) : Prop := ∀ so ds p, m so ds = some p → soTy so = some ty
section
variable {T : Tx} {Wx : WX} {X : Cx} {e o : Expr} {g g0 g1 : Gh} {H H0 H1 : Hp} {c : Chk} {S S1 : Store} {ds : Env} {σ : SV} {pos : Pos} {tg : Expr} {f1 f2 : CE}
theorem tyV_so {so : SO} {ho : HO} {a : Addr} {ty : String} (h : H a = some ho) (r : RepO T g H so ho) (e : soTy so = some ty) : tyV T.K ty (.ref a) H := by
  cases r with
  | lst r =>
    cases e
    exact .inl ⟨rfl, _, SqL.of h⟩
  | dct r =>
    cases e
    exact .inr (.inr (.inl ⟨rfl, .inl ⟨_, h⟩⟩))
  | ins r => cases e
theorem FR.forgetD {i : Nat} (fr : FR T g0 H0 c g H S ds σ) : FR T g0 H0 c g H S (ds.set i none) σ := by
  have f : ∀ {m : Nat} {w : Wv}, (ds.set i none)[m]? = some (some w) → i ≠ m ∧ ds[m]? = some (some w) := fun {m w} q => by
    by_cases e : i = m
    · subst e
      rw [List.getElem?_set] at q
      simp at q
    · rw [List.getElem?_set_ne e] at q
      exact ⟨e, q⟩
  exact ⟨fr.ext, fr.st, ⟨by simpa using fr.env.len, fun j d h => fr.env.fz j d (f h).2, fun j so h => fr.env.ow j so (f h).2, fun j k so so' a ne h1 h2 => fr.env.ne j k so so' a ne (f h1).2 (f h2).2, fun j h => fr.env.xc j (f h).2⟩, fr.fz, fr.io, fr.ln⟩
theorem FR.setOw {i : Nat} {so so' : SO} {a : Addr} {ho' : HO} (fr : FR T g0 H0 c g H S ds σ) (hi : ds[i]? = some (some (.ow so))) (ha : σ[i]? = some (some (.ref a))) (own : Own T H0 g H so a) (r : ∀ g' H', Fix g H g' H' → RepO T g' H' so' ho') :
    FR T g0 H0 c g (L2.upd H a ho') S (ds.set i (some (.ow so'))) σ := by
  have hl : i < ds.length := (List.getElem?_eq_some_iff.mp hi).1
  have f1 := fr.forgetD (i := i)
  have nd : ∀ (j : Nat) (s : SO), (ds.set i none)[j]? = some (some (.ow s)) → σ[j]? ≠ some (some (.ref a)) := fun j s h z => by
    by_cases e : i = j
    · subst e
      rw [List.getElem?_set] at h
      simp at h
    · rw [List.getElem?_set_ne e] at h
      exact fr.env.ne i j so s a e hi h ha z
  have f2 := f1.upd (ho := ho') own.new own.liv own.nio (fun u e => by obtain ⟨ho2, h2, p2⟩ := own.obj; rw [h2] at e; cases e; exact p2.plain) (r _ _ (Fix.refl g H)).plain.1 nd
  have f3 := f2.set (i := i) (w := .ow so') (v := .ref a) ⟨a, rfl, ⟨own.new, own.liv, own.nio, ho', upd_same, r _ _ (fix_upd own.liv)⟩, nd⟩ (by simpa using hl)
  have e1 : (ds.set i none).set i (some (.ow so')) = ds.set i (some (.ow so')) := List.set_set ..
  have e2 : σ.set i (some (.ref a)) = σ := by
    apply List.ext_getElem?
    intro j
    by_cases q : i = j
    · subst q
      rw [List.getElem?_set_self (List.getElem?_eq_some_iff.mp ha).1, ha]
    · rw [List.getElem?_set_ne q]
  rw [e1, e2] at f3
  exact f3
theorem nodup_at {l : List Addr} (h : l.Nodup) {i j : Nat} {a : Addr} (h1 : l[i]? = some a) (h2 : l[j]? = some a) : i = j := by
  obtain ⟨k1, e1⟩ := List.getElem?_eq_some_iff.mp h1
  obtain ⟨k2, e2⟩ := List.getElem?_eq_some_iff.mp h2
  exact (List.getElem_inj h).mp (e1.trans e2.symm)
theorem sto_upd {n : Nat} {so so' : SO} {a : Addr} {ho ho' : HO} (rs : RelS T g S H) (hn : S[n]? = some so) (ha : g.io[n]? = some a) (h : H a = some ho) (r : ∀ g' H', Fix g H g' H' → RepO T g' H' so' ho') :
    Ext g H g (upd H a ho') ∧ RelS T g (S.set n so') (upd H a ho') := by
  have hio : a ∈ g.io := List.mem_of_getElem? ha
  have hL := rs.liv a hio
  have fx : Fix g H g (upd H a ho') := fix_upd hL
  refine ⟨⟨⟨[], by simp⟩, fun b o hb => ?_, fun _ _ _ => Iff.rfl, fun b o _ hb nb => ⟨by rw [upd_ne (show b ≠ a from fun z => nb (by rw [z]; exact hio))]; exact hb, nb⟩⟩, ⟨by simpa using rs.len, rs.nd, rs.liv, fun m o b h1 h2 => ?_, rs.tab.upd (fun u e => by obtain ⟨ho2, h2, p2⟩ := rs.obj n so a hn ha; rw [h2] at e; cases e; exact p2.plain) (r _ _ (Fix.refl g H)).plain.1 fun _ _ l => l⟩⟩
  · by_cases e : b = a
    · subst e
      exact ⟨_, upd_same⟩
    · exact ⟨o, by rw [upd_ne e]; exact hb⟩
  · by_cases e : n = m
    · subst e
      rw [List.getElem?_set_self (List.getElem?_eq_some_iff.mp hn).1] at h1
      cases h1
      rw [ha] at h2
      cases h2
      exact ⟨ho', upd_same, r _ _ fx⟩
    · rw [List.getElem?_set_ne e] at h1
      have ne : b ≠ a := fun z => e (nodup_at rs.nd ha (z ▸ h2))
      obtain ⟨hb, h3, p⟩ := rs.obj m o b h1 h2
      exact ⟨hb, by rw [upd_ne ne]; exact h3, p.fix fx⟩
noncomputable def mutE (i : Nat) (m : Mu) (args : List D) (ds : Env) (S : Store) (k : D → Env → Store → RS) : RS := match ds[i]? with
  | some (some (.ow so)) => match m so args with
    | some (so', d) => k d (ds.set i (some (.ow so'))) S
    | none => .bad
  | some (some (.fz (.ref n))) => match S[n]? with
    | some so => match m so args with
      | some (so', d) => k d ds (S.set n so')
      | none => .bad
    | none => .bad
  | _ => .bad
theorem mutE_ok {i : Nat} {ty : String} {r : V → List V → Hp → VK → Prop} {m : Mu} {args : List D} {vs : List V} {k : D → Env → Store → RS} {D' : Ends} (hv : VM T ty r m) (hty : MuTy ty m) (fr : FR T g0 H0 c g H S ds σ) (ra : Reps T g H args vs) {v : V} (hσ : σ[i]? = some (some v)) {Q : VK}
    (p : PostS T Wx g0 H0 c D' (mutE i m args ds S k)) (q : ∀ d g' H' ds' S' y, FR T g0 H0 c g' H' S' ds' σ → Rep T g' H' d y → PostS T Wx g0 H0 c D' (k d ds' S') → Q y H') : r v vs H Q := by
  unfold mutE at p
  split at p
  · rename_i so hso
    split at p
    · rename_i so' d hm
      obtain ⟨a, ha, own⟩ := fr.env.ow i so hso
      rw [hσ] at ha
      cases ha
      obtain ⟨ho, h1, h2⟩ := own.obj
      obtain ⟨ho', y, r1, r2, r3⟩ := hv g H a ho so args vs so' d h1 h2 ra hm
      exact r3 Q (q d g _ _ S y (fr.setOw hso hσ own r1) (r2 _ _ (fix_upd own.liv)) p)
    · exact p.elim
  · rename_i n hn
    split at p
    · rename_i so hso
      split at p
      · rename_i so' d hm
        obtain ⟨v', hv', rv⟩ := fr.env.fz i _ hn
        rw [hσ] at hv'
        cases hv'
        cases rv with
        | @ref _ a hio =>
          obtain ⟨ho, h1, h2⟩ := fr.st.obj n so a hso hio
          obtain ⟨ho', y, r1, r2, r3⟩ := hv g H a ho so args vs so' d h1 h2 ra hm
          obtain ⟨e1, rs1⟩ := sto_upd fr.st hso hio h1 r1
          exact r3 Q (q d g _ _ _ y (fr.on e1 rs1) (r2 _ _ (e1.fix fr.st)) p)
      · exact p.elim
    · exact p.elim
  · exact p.elim
noncomputable def slTy (i : Nat) (ty : String) (ds : Env) (S : Store) : Bool := match ds[i]? with
  | some (some (.ow so)) => soTy so == some ty
  | some (some (.fz (.ref n))) => match S[n]? with
    | some so => soTy so == some ty
    | none => false
  | _ => false
theorem slTy_ok {i : Nat} {ty : String} (fr : FR T g0 H0 c g H S ds σ) (h : slTy i ty ds S = true) : ∃ v, σ[i]? = some (some v) ∧ tyV T.K ty v H := by
  unfold slTy at h
  split at h
  · rename_i so hso
    obtain ⟨a, ha, own⟩ := fr.env.ow i so hso
    obtain ⟨ho, h1, h2⟩ := own.obj
    exact ⟨_, ha, tyV_so h1 h2 (eq_of_beq h)⟩
  · rename_i n hn
    split at h
    · rename_i so hso
      obtain ⟨v', hv', rv⟩ := fr.env.fz i _ hn
      cases rv with
      | @ref _ a hio =>
        obtain ⟨ho, h1, h2⟩ := fr.st.obj n so a hso hio
        exact ⟨_, hv', tyV_so h1 h2 (eq_of_beq h)⟩
    · cases h
  · cases h
noncomputable def cMut (i : Nat) (ty : String) (m : Mu) (fs : Env → M (List D)) : CS := fun ds S => if slTy i ty ds S then liftR (fs ds S) ds fun args S => mutE i m args ds S fun _ ds S => .nx ds S else .bad
theorem js_mut {i : Nat} {x name : Str} {ty id : String} {m : Mu} {r : V → List V → Hp → VK → Prop} {a : Expr} {es : List Expr} {px apos cpos : Pos} {fs : Env → M (List D)} (lv : Lv T Wx X) (pa : PlainAttrs ty) (slot : Slot ty name id) (hty : typeOf (.builtin id) = pure (.type "method_descriptor")) (hm : MtR X id r) (hv : VM T ty r m) (ht : MuTy ty m)
    (hN : X.N[i]? = some x) (hx : Vis X.env.scope x) (ha : JA T Wx X (a :: es) fs) (hd : (x == ("__debug__" : Str)) = false := by decide) (hcd : (x == ("__classdict__" : Str)) = false := by decide)
    (hbase : attributeBase (.Name x px) name X.env (eval (.Name x px) X.env) = eval (.Name x px) X.env := by rfl)
    (hfew : ((backTo cpos (starEach (a :: es) X.env)).all (fun x => !x.1) && (backToKw cpos (keywordEach [] X.env)).all (fun x => x.1.isSome)
      && decide ((a :: es).length + ([] : List Keyword).length + (if ([] : List Keyword).isEmpty then 0 else 1) < 30)) = true := by rfl)
    (hline : (apos.endLine == cpos.line) = true := by rfl) (hs : starEach (a :: es) X.env = (false, eval a X.env) :: starEach es X.env := by rfl) (hplain : (backTo cpos (starEach es X.env)).any (·.1) = false := by rfl)
    (hsw : swapsWith (.Call (.Attribute (.Name x px) name apos) (a :: es) [] cpos) none pos.line X.env = pure false := by rfl) :
    JS T Wx X (.Expr (.Call (.Attribute (.Name x px) name apos) (a :: es) [] cpos) pos) (cMut i ty m fs) := by
  have hK := lv.hK
  refine PS.imp (ps_expr (pe_bm pa slot hty hm (pe_var hN hx hd hcd) ha hbase hfew hline hs hplain) hsw) fun D' σ H hh_ => ?_
  obtain ⟨g0, H0, c, g, S, ds, fr, p⟩ := hh_
  unfold cMut at p
  split at p
  · rename_i hz
    obtain ⟨v, hv1, tv⟩ := slTy_ok fr hz
    refine ⟨v, hv1, hK.symm ▸ tv, tG.stmt (r := RA T) fr p fun args S1 g1 H1 vs e1 fr1 rv p1 => ?_⟩
    exact mutE_ok hv ht fr1 rv hv1 p1 fun d g' H' ds' S' y fr' _ p2 => p2 g' H' σ fr'
  · exact p.elim
theorem js_mut0 {i : Nat} {x name : Str} {ty id : String} {m : Mu} {r : V → List V → Hp → VK → Prop} {px apos cpos : Pos} (lv : Lv T Wx X) (pa : PlainAttrs ty) (slot : Slot ty name id) (hty : typeOf (.builtin id) = pure (.type "method_descriptor")) (hm : MtR X id r) (hv : VM T ty r m) (ht : MuTy ty m)
    (hN : X.N[i]? = some x) (hx : Vis X.env.scope x) (hd : (x == ("__debug__" : Str)) = false := by decide) (hcd : (x == ("__classdict__" : Str)) = false := by decide)
    (hbase : attributeBase (.Name x px) name X.env (eval (.Name x px) X.env) = eval (.Name x px) X.env := by rfl) (hline : (apos.endLine == cpos.line) = true := by rfl)
    (hsw : swapsWith (.Call (.Attribute (.Name x px) name apos) [] [] cpos) none pos.line X.env = pure false := by rfl) :
    JS T Wx X (.Expr (.Call (.Attribute (.Name x px) name apos) [] [] cpos) pos) (cMut i ty m cNil) := by
  have hK := lv.hK
  refine PS.imp (ps_expr (pe_bm0 pa slot hty hm (pe_var hN hx hd hcd) hbase hline) hsw) fun D' σ H hh_ => ?_
  obtain ⟨g0, H0, c, g, S, ds, fr, p⟩ := hh_
  unfold cMut at p
  split at p
  · rename_i hz
    obtain ⟨v, hv1, tv⟩ := slTy_ok fr hz
    refine ⟨v, hv1, hK.symm ▸ tv, ?_⟩
    have p1 : PostS T Wx g0 H0 c D' (mutE i m [] ds S fun _ ds S => .nx ds S) := p
    exact mutE_ok hv ht fr .nil hv1 p1 fun d g' H' ds' S' y fr' _ p2 => p2 g' H' σ fr'
  · exact p.elim
noncomputable def mAppend : Mu := fun so xs => match so, xs with
  | .lst ys, [d] => if szOk (ys.length + 1) then some (.lst (ys ++ [d]), .non) else none
  | _, _ => none
theorem ty_append : MuTy "list" mAppend := fun so ds p h => by
  unfold mAppend at h
  split at h
  · rfl
  · cases h
theorem v_append : VM T "list" rAppend mAppend := by
  intro g H a ho so ds vs so' d h r ra hm
  unfold mAppend at hm
  split at hm
  · rename_i ys d
    split at hm
    · rename_i hz
      cases hm
      cases r with
      | @lst _ vys r =>
        cases ra with
        | cons r1 r2 =>
          cases r2
          rename_i v
          refine ⟨.lst (vys ++ [v]), .non, fun g' H' fx => .lst ((r.fix fx).append (.cons (r1.fix fx) .nil)), fun _ _ _ => .non, fun Q q => ⟨a, vys, v, rfl, rfl, h, ?_, q⟩⟩
          rw [← r.length]
          have := szOk_of hz
          omega
    · cases hm
  · cases hm
noncomputable def mClear : Mu := fun so xs => match so, xs with
  | .lst _, [] => some (.lst [], .non)
  | _, _ => none
theorem ty_clear : MuTy "list" mClear := fun so ds p h => by
  unfold mClear at h
  split at h
  · rfl
  · cases h
theorem v_clear : VM T "list" rClear mClear := by
  intro g H a ho so ds vs so' d h r ra hm
  unfold mClear at hm
  split at hm
  · cases hm
    cases r with
    | lst r =>
      cases ra
      exact ⟨.lst [], .non, fun g' H' fx => .lst .nil, fun _ _ _ => .non, fun Q q => ⟨a, _, rfl, rfl, h, q⟩⟩
  · cases hm
noncomputable def dV : D → Option V
  | .non => some .non
  | .bl b => some (.bl b)
  | .int i => some (.int i)
  | .str x => some (.str x)
  | _ => none
noncomputable def dVs : List D → Option (List V)
  | [] => some []
  | d :: r => match dV d, dVs r with
    | some v, some vs => some (v :: vs)
    | _, _ => none
theorem dV_ok {d : D} {v u : V} (r : Rep T g H d v) (h : dV d = some u) : v = u ∧ flatV u = true := by
  cases r with
  | non => cases h; exact ⟨rfl, rfl⟩
  | bl b => cases h; exact ⟨rfl, rfl⟩
  | int i => cases h; exact ⟨rfl, rfl⟩
  | str x => cases h; exact ⟨rfl, rfl⟩
  | _ => cases h
theorem dVs_ok : ∀ {ds : List D} {vs us : List V}, Reps T g H ds vs → dVs ds = some us → vs = us ∧ us.all flatV = true
  | _, _, _, .nil, h => by
    cases h
    exact ⟨rfl, rfl⟩
  | d :: ds, _, us, .cons r1 r2, h => by
    unfold dVs at h
    split at h
    · rename_i v vs h1 h2
      cases h
      obtain ⟨e1, q1⟩ := dV_ok r1 h1
      obtain ⟨e2, q2⟩ := dVs_ok r2 h2
      subst e1 e2
      exact ⟨rfl, by rw [List.all_cons, q1, q2]; rfl⟩
    · cases h
noncomputable def opIn : Wv → Wv → M Bool := fun w1 w2 S => match viewK S w2 with
  | some kvs => match keyW w1 with
    | some k => .ok (lkD kvs k).isSome S
    | none => .bad
  | none => match itemsOf S w2 with
    | some xs => match w1 with
      | .fz d => match dV d, dVs xs with
        | some v, some vs => .ok (inV v vs) S
        | _, _ => .bad
      | _ => .bad
    | none => match w1, w2 with
      | .fz (.str ⟨⟨[c]⟩⟩), .fz (.str z) => .ok (decide (c ∈ z.cps.toList)) S
      | _, _ => .bad
noncomputable def rDIn' : R2 := fun y x H Q => ∃ a o, x = .ref a ∧ DGet H a y o ∧ Q (.bl o.isSome) H
noncomputable def rDNi' : R2 := fun y x H Q => ∃ a o, x = .ref a ∧ DGet H a y o ∧ Q (.bl (!o.isSome)) H
theorem op_din (hu : X.A.units + 1 < cLine) : OpR X (compareOp .In) rDIn' := by
  intro pins s σ H x y v u Q I rx ry h
  obtain ⟨a, o, rfl, hd, q⟩ := h
  cases ry
  exact d_in hu I hd rx fun s' I' => ⟨.bl _, H, I', rfl, q⟩
theorem op_dni (hu : X.A.units + 1 < cLine) : OpR X (compareOp .NotIn) rDNi' := by
  intro pins s σ H x y v u Q I rx ry h
  obtain ⟨a, o, rfl, hd, q⟩ := h
  cases ry
  exact d_notIn hu I hd rx fun s' I' => ⟨.bl _, H, I', rfl, q⟩
noncomputable def rInA (K : PySem.W.Frag) : R2 := fun x y H Q => rDIn' x y H Q ∨ rIn K false x y H Q ∨ rInS x y H Q
noncomputable def rNiA (K : PySem.W.Frag) : R2 := fun x y H Q => rDNi' x y H Q ∨ rIn K true x y H Q ∨ rNotInS x y H Q
theorem v_in : V2 T Wx RBl (rInA T.K) opIn := by
  intro g H S σ w1 w2 v1 v2 Q rs r1 r2 p
  unfold opIn at p
  split at p
  · rename_i kvs hk
    split at p
    · rename_i k hkw
      obtain ⟨a, vs, rfl, h1, r⟩ := viewK_ok rs r2 hk
      rw [keyW_ok r1 hkw]
      refine .inl ⟨a, _, rfl, DGet.kr h1, ?_⟩
      rcases r.lk (k := k) with ⟨e1, e2⟩ | ⟨d, v, e1, e2, _⟩
      · rw [e1] at p
        rw [e2]
        exact PostG.now (r := RBl H) p rs rfl
      · rw [e1] at p
        rw [e2]
        exact PostG.now (r := RBl H) p rs rfl
    · exact p.elim
  · split at p
    · rename_i xs hx
      split at p
      · rename_i d
        split at p
        · rename_i v vs h1 h2
          obtain ⟨a, us, rfl, q1, r⟩ := items_ok rs r2 hx
          obtain ⟨e1, f1⟩ := dV_ok r1 h1
          obtain ⟨e2, f2⟩ := dVs_ok r h2
          subst e1 e2
          exact .inr (.inl ⟨a, us, rfl, q1, f1, f2, PostG.now (r := RBl H) p rs rfl⟩)
        · exact p.elim
      · exact p.elim
    · split at p
      · rename_i c' z _ _
        cases r1
        cases r2
        exact .inr (.inr ⟨c', z, rfl, rfl, PostG.now (r := RBl H) p rs rfl⟩)
      · exact p.elim
theorem v_ni : V2 T Wx RBl (rNiA T.K) (notM opIn) := by
  intro g H S σ w1 w2 v1 v2 Q rs r1 r2 p
  unfold notM opIn at p
  split at p
  · rename_i kvs hk
    split at p
    · rename_i k hkw
      obtain ⟨a, vs, rfl, h1, r⟩ := viewK_ok rs r2 hk
      rw [keyW_ok r1 hkw]
      refine .inl ⟨a, _, rfl, DGet.kr h1, ?_⟩
      rcases r.lk (k := k) with ⟨e1, e2⟩ | ⟨d, v, e1, e2, _⟩
      · rw [e1] at p
        rw [e2]
        exact PostG.now (r := RBl H) p rs rfl
      · rw [e1] at p
        rw [e2]
        exact PostG.now (r := RBl H) p rs rfl
    · exact p.elim
  · split at p
    · rename_i xs hx
      split at p
      · rename_i d
        split at p
        · rename_i v vs h1 h2
          obtain ⟨a, us, rfl, q1, r⟩ := items_ok rs r2 hx
          obtain ⟨e1, f1⟩ := dV_ok r1 h1
          obtain ⟨e2, f2⟩ := dVs_ok r h2
          subst e1 e2
          exact .inr (.inl ⟨a, us, rfl, q1, f1, f2, PostG.now (r := RBl H) p rs rfl⟩)
        · exact p.elim
      · exact p.elim
    · split at p
      · rename_i c' z _ _
        cases r1
        cases r2
        exact .inr (.inr ⟨c', z, rfl, rfl, PostG.now (r := RBl H) p rs rfl⟩)
      · exact p.elim
end
section
variable {T : Tx} {Wx : WX} {X : Cx} {a b : Expr} {f1 f2 : CE} {pos : Pos}
structure CmpR (T : Tx) (Wx : WX) (X : Cx) (op : CmpOp) (k : Wv → Wv → M Bool) : Prop where
  ex : ∃ r, OpR X (compareOp op) r ∧ V2 T Wx RBl r k
theorem cm_eq (lv : Lv T Wx X) : CmpR T Wx X .Eq opEq := ⟨rEqA T.K, by
  have q : OpR X (compareOp .Eq) (rEqA X.K) := OpR.or op_eq (OpR.or (op_eqD (by have := lv.un; omega)) (OpR.or (op_eqL (by have := lv.un; omega)) (OpR.or (op_eqS (by have := lv.un; omega)) (op_eqK (by have := lv.un; omega)))))
  rw [lv.hK] at q
  exact q, v_eq⟩
theorem cm_ne (lv : Lv T Wx X) : CmpR T Wx X .NotEq (notM opEq) := ⟨rNeA T.K, by
  have q : OpR X (compareOp .NotEq) (rNeA X.K) := OpR.or op_ne (OpR.or (op_neD (by have := lv.un; omega)) (OpR.or (op_neL (by have := lv.un; omega)) (OpR.or (op_neS (by have := lv.un; omega)) (op_neK (by have := lv.un; omega)))))
  rw [lv.hK] at q
  exact q, v_ne⟩
theorem cm_lt : CmpR T Wx X .Lt opLt := ⟨_, op_lt, v_cmpI⟩
theorem cm_le : CmpR T Wx X .LtE opLe := ⟨_, op_le, v_cmpI⟩
theorem cm_gt : CmpR T Wx X .Gt opGt := ⟨_, op_gt, v_cmpI⟩
theorem cm_is : CmpR T Wx X .Is opIsN := ⟨_, op_isN, v_isN⟩
theorem cm_isnot : CmpR T Wx X .IsNot (notM opIsN) := ⟨_, op_notN, v_notN⟩
theorem cm_in (lv : Lv T Wx X) : CmpR T Wx X .In opIn := ⟨rInA T.K, by
  have q : OpR X (compareOp .In) (rInA X.K) := OpR.or (op_din (by have := lv.un; omega)) (OpR.or op_in_seq op_inS)
  rw [lv.hK] at q
  exact q, v_in⟩
theorem cm_ni (lv : Lv T Wx X) : CmpR T Wx X .NotIn (notM opIn) := ⟨rNiA T.K, by
  have q : OpR X (compareOp .NotIn) (rNiA X.K) := OpR.or (op_dni (by have := lv.un; omega)) (OpR.or op_notIn_seq op_notInS)
  rw [lv.hK] at q
  exact q, v_ni⟩
theorem je_cm {op : CmpOp} {k : Wv → Wv → M Bool} (h : CmpR T Wx X op k) (ha : JB T Wx X a f1) (hb : JB T Wx X b f2) (hm : behindInMarks op b = false := by rfl) : JE T Wx X (.Compare a [op] [b] pos) (cBl (cBin k f1 f2)) := by
  obtain ⟨r, h1, h2⟩ := h.ex
  exact je_cmp h1 h2 ha hb hm
theorem jt_cm {op : CmpOp} {k : Wv → Wv → M Bool} (h : CmpR T Wx X op k) (ha : JB T Wx X a f1) (hb : JB T Wx X b f2) (hm : behindInMarks op b = false := by rfl) : JT T Wx X (.Compare a [op] [b] pos) (cBin k f1 f2) := by
  obtain ⟨r, h1, h2⟩ := h.ex
  exact jt_cmp h1 h2 ha hb hm
theorem je_cm2 {c' : Expr} {f3 : CE} {op op' : CmpOp} {k k' : Wv → Wv → M Bool} (h : CmpR T Wx X op k) (h' : CmpR T Wx X op' k') (ha : JB T Wx X a f1) (hb : JB T Wx X b f2) (hc : JB T Wx X c' f3) (hm : lastMarks [op, op'] [b, c'] = false := by with_unfolding_all rfl) :
    JE T Wx X (.Compare a [op, op'] [b, c'] pos) (cBl (cChain k k' f1 f2 f3)) := by
  obtain ⟨r, h1, h2⟩ := h.ex
  obtain ⟨r', h1', h2'⟩ := h'.ex
  exact je_chain h1 h1' h2 h2' ha hb hc hm
theorem jt_cm2 {c' : Expr} {f3 : CE} {op op' : CmpOp} {k k' : Wv → Wv → M Bool} (h : CmpR T Wx X op k) (h' : CmpR T Wx X op' k') (ha : JB T Wx X a f1) (hb : JB T Wx X b f2) (hc : JB T Wx X c' f3) (hm : lastMarks [op, op'] [b, c'] = false := by with_unfolding_all rfl) :
    JT T Wx X (.Compare a [op, op'] [b, c'] pos) (cChain k k' f1 f2 f3) := by
  obtain ⟨r, h1, h2⟩ := h.ex
  obtain ⟨r', h1', h2'⟩ := h'.ex
  exact jt_chain h1 h1' h2 h2' ha hb hc hm
end
end Mir
set_option Elab.async false
set_option linter.all false
set_option maxRecDepth 100000
namespace Mir
open PySem PySem.Spec PyProof.Rows L2
noncomputable def FnFact (K : PySem.W.Frag) (x : Str) (st : Stmt) : Prop := ∃ f fd, PySem.W.nsIn K mainGlobals x = some (some (.ref f)) ∧ Fun K x x st f fd
theorem fn_fact {K : PySem.W.Frag} {x : Str} {st : Stmt} {f : Addr} {oc : Value} {od an : Option Addr} {osl : Array (Option Value)} {kV doc pm cdv ct : Value} (a : PySem.W.nsIn K mainGlobals x = some (some (.ref f)))
    (l : K.lookup f = some ⟨oc, od, .func (PySem.W.fnOf x x (defArgs st) (defBody st) (defScope st) .none kV doc pm an cdv ct), osl⟩)
    (c : PySem.W.codeIn K cdv x = true) (k : PySem.W.keepIn K (.ref f) = true) : FnFact K x st := ⟨_, _, a, fun_mk l c k⟩
theorem def_mk {P : Program} {w : World} {K : PySem.W.Frag} {mg : Str → Option Value} {base h : Heap} {x : Str} {st : Stmt} {N ps : List Str} {k : Nat} {m : CS} {T : Tx} (X : K.In h) (G : h.Ns mainGlobals mg) (F : FnFact K x st) (Sc : FnScope N ps (defScope st)) (hT : T.K = K) (hl : ∀ a o, ¬ T.lean a o)
    (hbi : ∀ (kV doc pm : Value) (an : Option Addr) (cdv ct : Value) (us : List Value), us.length = ps.length → bindArgs (PySem.W.fnOf x x (defArgs st) (defBody st) (defScope st) .none kV doc pm an cdv ct) ⟨us, []⟩ = pure (ps.zip us))
    (hb : ∀ (f : Addr) (cdv : Value) (A : Around) (outer : List PySem.Env) (s : Shared) (H : Hp) (E : XK), Bd T mg P w base k (fun cls d _ H => E cls d H) (cxOf (L2.CX P w) P w K mg base N x (defScope st) f cdv A outer s H E) →
      JSs T (fun cls d _ H => E cls d H) (cxOf (L2.CX P w) P w K mg base N x (defScope st) f cdv A outer s H E) (defBody st) m) :
    Def P w T.K mg base T (k + 1) x ps.length (runF N.length m) := by
  obtain ⟨f, fd, a, F⟩ := F
  rw [hT]
  exact ⟨f, fd, ps, PySem.W.mg_of X G a, F.kp, rfl, F.binds hbi, fn_ok F Sc hT hl (hb f)⟩
theorem cNil_len {ds : Env} {S S' : Store} {args : List D} (h : cNil ds S = .ok args S') : args.length = 0 := by
  cases h
  rfl
theorem cCons_len {f : Env → M D} {fs : Env → M (List D)} {n : Nat} (hl : ∀ ds S args S', fs ds S = .ok args S' → args.length = n) : ∀ ds S args S', cCons f fs ds S = .ok args S' → args.length = n + 1 := fun ds S args S' h => by
  unfold cCons at h
  cases q : f ds S with
  | ok d S1 =>
    rw [q] at h
    dsimp only [bindR] at h
    cases q2 : fs ds S1 with
    | ok r S2 =>
      rw [q2] at h
      cases h
      rw [List.length_cons, hl _ _ _ _ q2]
    | ex x S2 =>
      rw [q2] at h
      cases h
    | bad =>
      rw [q2] at h
      cases h
  | ex x S1 =>
    rw [q] at h
    cases h
  | bad =>
    rw [q] at h
    cases h
theorem len0 : ∀ (ds : Env) (S : Store) (args : List D) (S' : Store), cNil ds S = .ok args S' → args.length = 0 := fun _ _ _ _ h => cNil_len h
theorem law_sp {T : Tx} {m : Fn} {H : Hp} {a : Addr} {ns : List Int} (hO : Only H) (hS : SqL T.K H a (ns.map V.int)) (h : ∃ S', m [.scr ns] [] = .ok (.fz (.bl true)) S') (hT : T.tabs = []) : spF T 1 m [.ref a] H (fun v _ => v = .bl true) fun _ _ _ => False := by
  obtain ⟨S', h⟩ := h
  refine ⟨rfl, ⟨[], fun _ => False⟩, [], [.scr ns], ⟨rfl, List.nodup_nil, fun _ z => (nomatch z), fun n o a h => by simp at h, fun b ps e => ?_, fun p hp => by rw [hT] at hp; cases hp⟩, .cons (.scr ?_) .nil, ?_⟩
  · rcases hO b with z | ⟨_, _, z⟩ <;> rw [z] at e <;> cases e
  · rcases hS with q | q
    · exact .inl ⟨q, fun z => z⟩
    · exact .inr q
  · rw [h]
    intro g' H' v _ _ rv
    cases rv
    rfl
theorem cx_end {P : Program} {w : World} {H : Hp} {s : Shared} {e : Value} {s' : Shared} (h : L2.CX P w [] H s (fun _ _ _ => False) e s') : False := by
  obtain ⟨_, _, _, _, _, _, _, _, _, _, _, _, z⟩ := h
  exact z
theorem law_mk {P : Program} {w : World} {K : PySem.W.Frag} {mg : Str → Option Value} {h : Heap} {x p : Str} {st : Stmt} {N : List Str} {k : Nat} {m : CS} {T : Tx} {fa : Addr} (X : K.In h) (G : h.Ns mainGlobals mg) (F : FnFact K x st) (hfa : mg x = some (.ref fa)) (Sc : FnScope N [p] (defScope st)) (hT : T.K = K) (hl : ∀ a o, ¬ T.lean a o)
    (hbi : ∀ (kV doc pm : Value) (an : Option Addr) (cdv ct : Value) (us : List Value), us.length = 1 → bindArgs (PySem.W.fnOf x x (defArgs st) (defBody st) (defScope st) .none kV doc pm an cdv ct) ⟨us, []⟩ = pure ([p].zip us))
    (hb : ∀ base : Heap, K.In base → base.Ns mainGlobals mg → ∀ (f : Addr) (cdv : Value) (A : Around) (outer : List PySem.Env) (s : Shared) (H : Hp) (E : XK), Bd T mg P w base k (fun cls d _ H => E cls d H) (cxOf (L2.CX P w) P w K mg base N x (defScope st) f cdv A outer s H E) →
      JSs T (fun cls d _ H => E cls d H) (cxOf (L2.CX P w) P w K mg base N x (defScope st) f cdv A outer s H E) (defBody st) m) :
    ∃ fd : FuncData, (∀ (s : Shared) (v : Value), BindsTo s fd ⟨[v], []⟩ [(p, v)]) ∧ ∀ base : Heap, K.In base → base.Ns mainGlobals mg → FnOk P w K mg base (L2.CX P w) (k + 1) fa fd [p] (spF T 1 (runF N.length m)) := by
  obtain ⟨f, fd, a, F⟩ := F
  have e := (PySem.W.mg_of X G a).symm.trans hfa
  cases e
  refine ⟨fd, fun s v => ?_, fun base kb gb => fn_ok F Sc hT hl (hb base kb gb _)⟩
  obtain ⟨oc, od, kV, doc, pm, an, cdv, ct, osl, rfl, lk, hcd⟩ := F.ex
  exact .of_eq (hbi kV doc pm an cdv ct [v] rfl)
section
variable {T : Tx} {mg : Str → Option Value} {P : Program} {w : World} {base : Heap} {k : Nat} {Wx : WX} {X : Cx}
theorem Bd.no (B : Bd T mg P w base k Wx X) {x : Str} (z : mg x = none) : X.mg x = none := B.mg ▸ z
theorem Bd.yes (B : Bd T mg P w base k Wx X) {x : Str} {u : Value} (z : mg x = some u) : X.mg x = some u := B.mg ▸ z
theorem Bd.crK (B : Bd T mg P w base k Wx X) {v : Value} {r : PySem.W.Frag → List V → Hp → VK → Prop} (h : X.calm = true → CallR X v (r X.K)) : CallR X v (r T.K) := B.hK ▸ h B.calm
theorem Bd.crList (B : Bd T mg P w base k Wx X) : CallR X (.type "list") (rListA T.K) := B.hK ▸ (show CallR X (.type "list") (rListA X.K) from call_list_of)
end
end Mir
set_option Elab.async false
set_option linter.all false
set_option maxRecDepth 100000
namespace Mir
open PySem L2
section
variable {α β : Type} {S S' : Store} {a : α} {k : α → Store → R β} {x : Xn} {ds ds' : Env} {ks : α → Store → RS}
@[simp] theorem bindR_ok : bindR (.ok a S) k = k a S := rfl
@[simp] theorem bindR_ex : bindR (R.ex x S : R α) k = .ex x S := rfl
@[simp] theorem bindR_bad : bindR (R.bad : R α) k = .bad := rfl
@[simp] theorem liftR_ok : liftR (.ok a S) ds ks = ks a S := rfl
@[simp] theorem liftR_ex : liftR (R.ex x S : R α) ds ks = .ex x ds S := rfl
@[simp] theorem liftR_bad : liftR (R.bad : R α) ds ks = .bad := rfl
end
noncomputable def andThen (r : RS) (b : CS) : RS := match r with
  | .nx ds S => b ds S
  | r => r
@[simp] theorem then_nx {ds : Env} {S : Store} {b : CS} : andThen (.nx ds S) b = b ds S := rfl
@[simp] theorem then_rt {w : Wv} {S : Store} {b : CS} : andThen (.rt w S) b = .rt w S := rfl
@[simp] theorem then_bk {ds : Env} {S : Store} {b : CS} : andThen (.bk ds S) b = .bk ds S := rfl
@[simp] theorem then_ct {ds : Env} {S : Store} {b : CS} : andThen (.ct ds S) b = .ct ds S := rfl
@[simp] theorem then_ex {x : Xn} {ds : Env} {S : Store} {b : CS} : andThen (.ex x ds S) b = .ex x ds S := rfl
theorem mulOk_l {i j : Int} (h1 : -18446744073709551616 < i) (h2 : i < 18446744073709551616) : mulOk i j = true := by
  unfold mulOk
  rw [show decide (-(2 ^ 64) < i ∧ i < 2 ^ 64) = true from decide_eq_true ⟨by omega, by omega⟩]
  simp
theorem mulOk_r {i j : Int} (h1 : -18446744073709551616 < j) (h2 : j < 18446744073709551616) : mulOk i j = true := by
  unfold mulOk
  rw [show decide (-(2 ^ 64) < j ∧ j < 2 ^ 64) = true from decide_eq_true ⟨by omega, by omega⟩]
  simp
theorem log2_lt {n k : Nat} (h : n < 2 ^ k) (hk : 0 < k) : n.log2 < k := by
  by_cases e : n = 0
  · subst e
    simpa using hk
  · exact (Nat.log2_lt e).mpr h
theorem mulOk_b {i j : Int} (a b : Nat) (h1 : i.natAbs < 2 ^ a) (h2 : j.natAbs < 2 ^ b) (ha : 0 < a) (hb : 0 < b) (h : a + b ≤ 1000000) : mulOk i j = true := by
  unfold mulOk
  have x := log2_lt h1 ha
  have y := log2_lt h2 hb
  rw [show decide (i.natAbs.log2 + j.natAbs.log2 < 1000000) = true from decide_eq_true (by omega)]
  simp
theorem divOk_b {i j : Int} (b : Nat) (h0 : 0 < j) (h2 : j.natAbs < 2 ^ b) (hb : 0 < b) (h : b ≤ 9000) : divOk i j = true := by
  unfold divOk
  have y := log2_lt h2 hb
  rw [decide_eq_true h0, show decide (j.natAbs.log2 < 9000) = true from decide_eq_true (by omega)]
  rfl
theorem divOk_s {i j : Int} (h0 : 0 < j) (h2 : j < 18446744073709551616) : divOk i j = true := divOk_b 64 h0 (by omega) (by decide) (by decide)
theorem modOk_p {i j : Int} (h0 : 0 < j) : modOk i j = true := decide_eq_true h0
theorem szOk_le {n : Nat} (h : n ≤ 16777216) : szOk n = true := decide_eq_true h
section
variable {t : Tgt} {body : CS} {S : Store}
end
section
variable {own : List Nat} {t : Tgt} {tst : Env → M Bool} {fe : Env → M D} {ds : Env} {S : Store}
end
end Mir
set_option Elab.async false
set_option linter.all false
set_option maxRecDepth 100000
namespace Mir
open PySem L2
noncomputable def outF : RS → R Wv
  | .nx _ S' => .ok (.fz .non) S'
  | .rt w S' => .ok w S'
  | .ex x _ S' => .ex x S'
  | _ => .bad
noncomputable def lookW (o : Option (Option Wv)) (S : Store) : R Wv := match o with
  | some (some (.fz d)) => .ok (.fz d) S
  | some (some (.ow so)) => .ok (.ow so) S
  | _ => .bad
noncomputable def lookD (o : Option (Option Wv)) (S : Store) : R D := match o with
  | some (some (.fz d)) => .ok d S
  | _ => .bad
noncomputable def lookR (o : Option (Option Wv)) (S : Store) : RS := match o with
  | some (some (.fz d)) => .rt (.fz d) S
  | some (some (.ow so)) => .rt (.ow so) S
  | _ => .bad
section
variable {α β : Type} {S S' : Store} {ds ds' : Env} {w w1 w2 : Wv} {d : D} {x : Xn} {n i : Nat} {body : CS} {args : List D} {f f1 f2 f3 : CE} {fd : Env → M D} {fs : Env → M (List D)} {fb : Env → M (List Wv)} {a b : CS} {p q : Env → M Bool} {z : Option Wv}
@[simp] theorem s_outF_nx : outF (.nx ds S) = .ok (.fz .non) S := rfl
@[simp] theorem s_outF_rt : outF (.rt w S) = .ok w S := rfl
@[simp] theorem s_outF_ex : outF (.ex x ds S) = .ex x S := rfl
theorem s_runF : runF n body args S = outF (body (startE n args) S) := by
  unfold runF outF
  cases body (startE n args) S <;> rfl
@[simp] theorem s_lookW : lookW (some (some (.fz d))) S = .ok (.fz d) S := rfl
@[simp] theorem s_lookWo {so : SO} : lookW (some (some (.ow so))) S = .ok (.ow so) S := rfl
@[simp] theorem s_lookD : lookD (some (some (.fz d))) S = .ok d S := rfl
@[simp] theorem s_lookR : lookR (some (some (.fz d))) S = .rt (.fz d) S := rfl
@[simp] theorem s_lookRo {so : SO} : lookR (some (some (.ow so))) S = .rt (.ow so) S := rfl
@[simp] theorem s_up : cUp fd ds S = bindR (fd ds S) fun d S => .ok (.fz d) S := rfl
@[simp] theorem s_fz : cFz f ds S = bindR (f ds S) fun w S => .ok w.frz S := rfl
@[simp] theorem s_frz1 : (Wv.fz d).frz = d := rfl
@[simp] theorem s_frz2 {xs : List D} : (Wv.ow (.lst xs)).frz = .lst xs := rfl
@[simp] theorem s_frz3 {xs : List (Key × D)} : (Wv.ow (.dct xs)).frz = .dct xs := rfl
@[simp] theorem s_frz4 {c : Nat} {xs : List (Str × D)} : (Wv.ow (.ins c xs)).frz = .ins c xs := rfl
@[simp] theorem s_bor : cBor i ds S = lookW ds[i]? S := rfl
@[simp] theorem s_var : cVar i ds S = lookD ds[i]? S := rfl
@[simp] theorem s_c : cC d ds S = .ok d S := rfl
@[simp] theorem s_nil : cNil ds S = .ok [] S := rfl
@[simp] theorem s_cons : cCons fd fs ds S = bindR (fd ds S) fun d S => bindR (fs ds S) fun r S => .ok (d :: r) S := rfl
@[simp] theorem s_tup : cTup fs ds S = bindR (fs ds S) fun r S => if szOk r.length then .ok (.tup r) S else .bad := rfl
@[simp] theorem s_lst : cLst fs ds S = bindR (fs ds S) fun r S => if szOk r.length then .ok (.ow (.lst r)) S else .bad := rfl
@[simp] theorem s_bin {k : Wv → Wv → M α} : cBin k f1 f2 ds S = bindR (f1 ds S) fun w1 S => bindR (f2 ds S) fun w2 S => k w1 w2 S := rfl
@[simp] theorem s_un {k : Wv → M α} : cUn k f1 ds S = bindR (f1 ds S) fun w1 S => k w1 S := rfl
@[simp] theorem s_int2 {C : Int → Int → Bool} {g : Int → Int → D} {i j : Int} : int2 C g (.fz (.int i)) (.fz (.int j)) S = if C i j then .ok (.fz (g i j)) S else .bad := rfl
@[simp] theorem s_add {i j : Int} : opAdd (.fz (.int i)) (.fz (.int j)) S = .ok (.fz (.int (i + j))) S := rfl
@[simp] theorem s_addS {i j : Str} : opAdd (.fz (.str i)) (.fz (.str j)) S = if szOk (i.length + j.length) then .ok (.fz (.str (i ++ j))) S else .bad := rfl
@[simp] theorem s_addT {xs ys : List D} : opAdd (.fz (.tup xs)) (.fz (.tup ys)) S = if !xs.isEmpty && szOk (xs.length + ys.length) then .ok (.fz (.tup (xs ++ ys))) S else .bad := rfl
@[simp] theorem s_addLL {xs ys : List D} : opAdd (.ow (.lst xs)) (.ow (.lst ys)) S = if szOk (xs.length + ys.length) then .ok (.ow (.lst (xs ++ ys))) S else .bad := rfl
@[simp] theorem s_addFL {xs ys : List D} : opAdd (.fz (.lst xs)) (.ow (.lst ys)) S = if szOk (xs.length + ys.length) then .ok (.ow (.lst (xs ++ ys))) S else .bad := rfl
@[simp] theorem s_addLF {xs ys : List D} : opAdd (.ow (.lst xs)) (.fz (.lst ys)) S = if szOk (xs.length + ys.length) then .ok (.ow (.lst (xs ++ ys))) S else .bad := rfl
@[simp] theorem s_addFF {xs ys : List D} : opAdd (.fz (.lst xs)) (.fz (.lst ys)) S = if szOk (xs.length + ys.length) then .ok (.ow (.lst (xs ++ ys))) S else .bad := rfl
@[simp] theorem s_sub {i j : Int} : opSub (.fz (.int i)) (.fz (.int j)) S = .ok (.fz (.int (i - j))) S := rfl
@[simp] theorem s_mul {i j : Int} : opMul (.fz (.int i)) (.fz (.int j)) S = if mulOk i j then .ok (.fz (.int (i * j))) S else .bad := rfl
@[simp] theorem s_mulL {xs : List D} {k : Int} : opMul (.ow (.lst xs)) (.fz (.int k)) S = if repOk k xs.length then .ok (.ow (.lst (List.replicate k.toNat xs).flatten)) S else .bad := rfl
@[simp] theorem s_div {i j : Int} : opDiv (.fz (.int i)) (.fz (.int j)) S = if divOk i j then .ok (.fz (.int (i / j))) S else .bad := rfl
@[simp] theorem s_mod {i j : Int} : opMod (.fz (.int i)) (.fz (.int j)) S = if modOk i j then .ok (.fz (.int (i % j))) S else .bad := rfl
@[simp] theorem s_pow {i j : Int} : opPow (.fz (.int i)) (.fz (.int j)) S = if powOk i j then .ok (.fz (.int (i ^ j.toNat))) S else .bad := rfl
@[simp] theorem s_neg {i : Int} : opNeg (.fz (.int i)) S = .ok (.fz (.int (-i))) S := rfl
@[simp] theorem s_lt {i j : Int} : opLt (.fz (.int i)) (.fz (.int j)) S = .ok (decide (i < j)) S := rfl
@[simp] theorem s_le {i j : Int} : opLe (.fz (.int i)) (.fz (.int j)) S = .ok (decide (i ≤ j)) S := rfl
@[simp] theorem s_gt {i j : Int} : opGt (.fz (.int i)) (.fz (.int j)) S = .ok (decide (j < i)) S := rfl
@[simp] theorem s_ge {i j : Int} : opGe (.fz (.int i)) (.fz (.int j)) S = .ok (decide (j ≤ i)) S := rfl
@[simp] theorem s_eqI {i j : Int} : opEq (.fz (.int i)) (.fz (.int j)) S = .ok (decide (i = j)) S := rfl
@[simp] theorem s_eqS {i j : Str} : opEq (.fz (.str i)) (.fz (.str j)) S = .ok (decide (i = j)) S := rfl
@[simp] theorem s_notM {k : Wv → Wv → M Bool} : notM k w1 w2 S = bindR (k w1 w2 S) fun b S => .ok (!b) S := rfl
@[simp] theorem s_isN : opIsN w (.fz .non) S = .ok (isNon w) S := rfl
@[simp] theorem s_isNon : isNon (.fz .non) = true := rfl
@[simp] theorem s_isNon1 {xs : List D} : isNon (.fz (.lst xs)) = false := rfl
@[simp] theorem s_isNon2 {xs : List D} : isNon (.fz (.tup xs)) = false := rfl
@[simp] theorem s_isNon3 {so : SO} : isNon (.ow so) = false := rfl
@[simp] theorem s_isNon4 {i : Int} : isNon (.fz (.int i)) = false := rfl
@[simp] theorem s_isNon5 {c : Nat} {fl : List (Str × D)} : isNon (.fz (.ins c fl)) = false := rfl
@[simp] theorem s_isNon6 {k : Nat} : isNon (.fz (.ref k)) = false := rfl
@[simp] theorem s_isNon7 {kv : List (Key × D)} : isNon (.fz (.dct kv)) = false := rfl
@[simp] theorem s_bl : cBl p ds S = bindR (p ds S) fun b S => .ok (.fz (.bl b)) S := rfl
@[simp] theorem s_chain {k k' : Wv → Wv → M Bool} : cChain k k' f1 f2 f3 ds S = bindR (f1 ds S) fun w1 S => bindR (f2 ds S) fun w2 S => bindR (k w1 w2 S) fun b S => if b then bindR (f3 ds S) fun w3 S => k' w2 w3 S else .ok false S := rfl
@[simp] theorem s_and : cAnd p q ds S = bindR (p ds S) fun b S => if b then q ds S else .ok false S := rfl
@[simp] theorem s_or : cOr p q ds S = bindR (p ds S) fun b S => if b then .ok true S else q ds S := rfl
@[simp] theorem s_not : cNot p ds S = bindR (p ds S) fun b S => .ok (!b) S := rfl
noncomputable def tstW (w : Wv) (S : Store) : R Bool := match w with
  | .fz (.bl b) => .ok b S
  | _ => .bad
@[simp] theorem s_tst : cTst f ds S = bindR (f ds S) tstW := rfl
@[simp] theorem s_tstW {b : Bool} : tstW (.fz (.bl b)) S = .ok b S := rfl
@[simp] theorem s_andV : cAndV f1 f2 ds S = bindR (f1 ds S) fun w S => bindR (tstW w S) fun b S => if b then f2 ds S else .ok (.fz (.bl false)) S := by
  unfold cAndV
  refine congrArg (bindR (f1 ds S)) (funext fun w => funext fun S => ?_)
  cases w with
  | ow so => rfl
  | xc => rfl
  | fz d =>
    cases d with
    | bl b => cases b <;> rfl
    | _ => rfl
@[simp] theorem s_orV : cOrV f1 f2 ds S = bindR (f1 ds S) fun w S => bindR (tstW w S) fun b S => if b then .ok (.fz (.bl true)) S else f2 ds S := by
  unfold cOrV
  refine congrArg (bindR (f1 ds S)) (funext fun w => funext fun S => ?_)
  cases w with
  | ow so => rfl
  | xc => rfl
  | fz d =>
    cases d with
    | bl b => cases b <;> rfl
    | _ => rfl
@[simp] theorem s_notV : cNotV f1 ds S = bindR (f1 ds S) fun w S => bindR (tstW w S) fun b S => .ok (.fz (.bl (!b))) S := by
  unfold cNotV
  refine congrArg (bindR (f1 ds S)) (funext fun w => funext fun S => ?_)
  cases w with
  | ow so => rfl
  | xc => rfl
  | fz d =>
    cases d with
    | bl b => cases b <;> rfl
    | _ => rfl
@[simp] theorem s_if : cIf p f1 f2 ds S = bindR (p ds S) fun b S => if b then f1 ds S else f2 ds S := rfl
@[simp] theorem s_vL1 {xs : List D} : viewL S (.fz (.lst xs)) = some xs := rfl
@[simp] theorem s_vL2 {xs : List D} : viewL S (.ow (.lst xs)) = some xs := rfl
@[simp] theorem s_vR1 {xs : List D} : viewR S (.fz (.lst xs)) = some xs := rfl
@[simp] theorem s_vR2 {xs : List D} : viewR S (.ow (.lst xs)) = some xs := rfl
@[simp] theorem s_vR3 {ns : List Int} : viewR S (.fz (.scr ns)) = some (ns.map D.int) := rfl
@[simp] theorem s_vR4 {xs : List D} : viewR S (.fz (.tup xs)) = none := rfl
@[simp] theorem s_vR5 {z : Str} : viewR S (.fz (.str z)) = none := rfl
@[simp] theorem s_vT1 {xs : List D} : viewT (.fz (.tup xs)) = some xs := rfl
@[simp] theorem s_vT2 {xs : List D} : viewT (.fz (.lst xs)) = none := rfl
@[simp] theorem s_vT3 {so : SO} : viewT (.ow so) = none := rfl
@[simp] theorem s_vT4 {ns : List Int} : viewT (.fz (.scr ns)) = none := rfl
@[simp] theorem s_vT5 {z : Str} : viewT (.fz (.str z)) = none := rfl
@[simp] theorem s_vK1 {xs : List (Key × D)} : viewK S (.fz (.dct xs)) = some xs := rfl
@[simp] theorem s_vK2 {xs : List (Key × D)} : viewK S (.ow (.dct xs)) = some xs := rfl
@[simp] theorem s_vK3 {xs : List D} : viewK S (.fz (.lst xs)) = none := rfl
@[simp] theorem s_vK4 {xs : List D} : viewK S (.ow (.lst xs)) = none := rfl
@[simp] theorem s_vK5 {xs : List D} : viewK S (.fz (.tup xs)) = none := rfl
@[simp] theorem s_vK6 {ns : List Int} : viewK S (.fz (.scr ns)) = none := rfl
@[simp] theorem s_vK7 {z : Str} : viewK S (.fz (.str z)) = none := rfl
@[simp] theorem s_io1 {xs : List D} : itemsOf S (.fz (.tup xs)) = some xs := rfl
@[simp] theorem s_io2 {xs : List D} : itemsOf S (.fz (.lst xs)) = some xs := rfl
@[simp] theorem s_io3 {xs : List D} : itemsOf S (.ow (.lst xs)) = some xs := rfl
@[simp] theorem s_io4 {ns : List Int} : itemsOf S (.fz (.scr ns)) = some (ns.map D.int) := rfl
@[simp] theorem s_keyI {i : Int} : keyW (.fz (.int i)) = some (.inl i) := rfl
@[simp] theorem s_keyS {z : Str} : keyW (.fz (.str z)) = some (.inr z) := rfl
noncomputable def gotW (o : Option D) (S : Store) : R Wv := match o with
  | some d => .ok (.fz d) S
  | none => .bad
@[simp] theorem s_gotW : gotW (some d) S = .ok (.fz d) S := rfl
@[simp] theorem s_ixF {xs : List D} {i : Int} : opSub2 (.fz (.lst xs)) (.fz (.int i)) S = gotW (atD xs i) S := rfl
@[simp] theorem s_ixO {xs : List D} {i : Int} : opSub2 (.ow (.lst xs)) (.fz (.int i)) S = gotW (atD xs i) S := rfl
@[simp] theorem s_ixT {xs : List D} {i : Int} : opSub2 (.fz (.tup xs)) (.fz (.int i)) S = gotW (atD xs i) S := rfl
@[simp] theorem s_ixS {ns : List Int} {i : Int} : opSub2 (.fz (.scr ns)) (.fz (.int i)) S = gotW (atD (ns.map D.int) i) S := rfl
@[simp] theorem s_ixD1 {kvs : List (Key × D)} {k : Key} (h : keyW w = some k) : opSub2 (.fz (.dct kvs)) w S = gotW (lkD kvs k) S := by
  unfold opSub2 opGet
  simp only [s_vK1, h]
  rfl
@[simp] theorem s_ixD2 {kvs : List (Key × D)} {k : Key} (h : keyW w = some k) : opSub2 (.ow (.dct kvs)) w S = gotW (lkD kvs k) S := by
  unfold opSub2 opGet
  simp only [s_vK2, h]
  rfl
theorem atD_nat {xs : List D} {n : Nat} {d : D} (h : xs[n]? = some d) : atD xs (n : Int) = some d := by
  have hl := (List.getElem?_eq_some_iff.mp h).1
  unfold atD ixN
  rw [if_pos (by omega), if_pos (by omega)]
  simpa using h
@[simp] theorem atD_0 {x : D} {r : List D} : atD (x :: r) 0 = some x := atD_nat (n := 0) rfl
@[simp] theorem s_skip : cSkip ds S = .nx ds S := rfl
@[simp] theorem s_seq : cSeq a b ds S = andThen (a ds S) b := rfl
@[simp] theorem s_set : cSet i f ds S = liftR (f ds S) ds fun w S => setE i w ds S := rfl
@[simp] theorem s_setE : setE i w ds S = if i < ds.length then .nx (ds.set i (some w)) S else .bad := rfl
@[simp] theorem s_ret : cRet f ds S = liftR (f ds S) ds fun w S => .rt w S := rfl
@[simp] theorem s_retV : cRetV i ds S = lookR ds[i]? S := rfl
@[simp] theorem s_retN : cRetN ds S = .rt (.fz .non) S := rfl
@[simp] theorem s_drop : cDrop f ds S = liftR (f ds S) ds fun _ S => .nx ds S := rfl
@[simp] theorem s_ifS : cIfS p a b ds S = liftR (p ds S) ds fun k S => if k then a ds S else b ds S := rfl
@[simp] theorem s_frzS : cFrz i a ds S = a (frzE i ds) S := rfl
noncomputable def frzO (i : Nat) (o : Option (Option Wv)) (ds : Env) : Env := match o with
  | some (some (.ow so)) => ds.set i (some (.fz (Wv.ow so).frz))
  | _ => ds
@[simp] theorem s_frzE : frzE i ds = frzO i ds[i]? ds := rfl
@[simp] theorem s_frzO {so : SO} : frzO i (some (some (.ow so))) ds = ds.set i (some (.fz (Wv.ow so).frz)) := rfl
@[simp] theorem s_frzO1 : frzO i (some (some (.fz d))) ds = ds := rfl
@[simp] theorem s_frzO0 : frzO i (some none) ds = ds := rfl
noncomputable def nxO (o : Option Env) (S : Store) : RS := match o with
  | some ds => .nx ds S
  | none => .bad
@[simp] theorem s_nxO : nxO (some ds) S = .nx ds S := rfl
@[simp] theorem s_asg {t : Tgt} : cAsg t f ds S = liftR (f ds S) ds fun w S => nxO (asgT t w S ds) S := rfl
@[simp] theorem s_asgN : asgT (.nm i) w S ds = if i < ds.length then some (ds.set i (some w)) else none := rfl
noncomputable def setO (is : List Nat) (o : Option (List D)) (ds : Env) : Option Env := match o with
  | some xs => setAll is xs ds
  | none => none
@[simp] theorem s_asgT {is : List Nat} : asgT (.tp is) w S ds = setO is (itemsOf S w) ds := rfl
@[simp] theorem s_setO {is : List Nat} {xs : List D} : setO is (some xs) ds = setAll is xs ds := rfl
@[simp] theorem s_setAll0 : setAll [] [] ds = some ds := rfl
@[simp] theorem s_setAll1 {is : List Nat} {r : List D} : setAll (i :: is) (d :: r) ds = if i < ds.length then setAll is r (ds.set i (some (.fz d))) else none := rfl
noncomputable def augO (i : Nat) (o : Option (Option Wv)) (k : Wv → Wv → M Wv) (r : R Wv) (ds : Env) : RS := match o with
  | some (some .xc) => .bad
  | some (some w) => liftR (bindR r fun w2 S => k w w2 S) ds fun w S => setE i w ds S
  | _ => .bad
@[simp] theorem s_aug {k : Wv → Wv → M Wv} : cAug i k f ds S = augO i ds[i]? k (f ds S) ds := rfl
@[simp] theorem s_augO {k : Wv → Wv → M Wv} {r : R Wv} : augO i (some (some (.fz d))) k r ds = liftR (bindR r fun w2 S => k (.fz d) w2 S) ds fun w S => setE i w ds S := rfl
noncomputable def itO (o : Option (List D)) (S : Store) : R (List D) := match o with
  | some xs => .ok xs S
  | none => .bad
@[simp] theorem s_items : cItems fd ds S = bindR (fd ds S) fun d S => itO (itemsD d) S := rfl
@[simp] theorem s_itO {xs : List D} : itO (some xs) S = .ok xs S := rfl
@[simp] theorem s_itD1 {xs : List D} : itemsD (.lst xs) = some xs := rfl
@[simp] theorem s_itD2 {xs : List D} : itemsD (.tup xs) = some xs := rfl
@[simp] theorem s_itD3 {ns : List Int} : itemsD (.scr ns) = some (ns.map D.int) := rfl
@[simp] theorem s_rng {k : List D → M (List D)} : cRng k fs ds S = bindR (fs ds S) fun xs S => k xs S := rfl
@[simp] theorem s_rng1 {j : Int} : rng1 [.int j] S = if rngOk j then .ok (rngD 0 j.toNat) S else .bad := rfl
@[simp] theorem s_rng2 {i j : Int} : rng2 [.int i, .int j] S = if rngOk i && rngOk j then .ok (rngD i (j - i).toNat) S else .bad := rfl
theorem rngOk_s {i : Int} (h1 : -4611686018427387904 ≤ i) (h2 : i < 4611686018427387904) : rngOk i = true := by
  unfold rngOk
  rw [decide_eq_true (by omega), decide_eq_true (by omega)]
  rfl
@[simp] theorem s_for {fi : Env → M (List D)} {t : Tgt} : cFor fi t body ds S = liftR (fi ds S) ds fun items S => forRun t body items ds S := rfl
@[simp] theorem s_forNil {t : Tgt} : forRun t body [] ds S = .nx ds S := rfl
@[simp] theorem s_while {fu : Env → Nat} : cWhile fu p body ds S = whRun p body (fu ds) ds S := rfl
@[simp] theorem s_call {m : Fn} : cCall m fs ds S = bindR (fs ds S) fun args S => m args S := rfl
@[simp] theorem s_lc {own : List Nat} {t : Tgt} {tst : Env → M Bool} {fe : Env → M D} {fi : Env → M (List D)} : cLc own t tst fe fi ds S = bindR (fi ds S) fun items S => lcRun own t tst fe ds items [] S := rfl
@[simp] theorem s_yes : cYes ds S = .ok true S := rfl
@[simp] theorem s_noP : cNoP ds S = .ok none S := rfl
noncomputable def prtW (w : Wv) (S : Store) : R (Option Int) := match w with
  | .fz (.int i) => .ok (some i) S
  | _ => .bad
@[simp] theorem s_part : cPart f ds S = bindR (f ds S) prtW := rfl
@[simp] theorem s_prtW {i : Int} : prtW (.fz (.int i)) S = .ok (some i) S := rfl
@[simp] theorem s_sl {fl fh : Env → M (Option Int)} : cSl f fl fh ds S = bindR (f ds S) fun w S => bindR (fl ds S) fun lo S => bindR (fh ds S) fun hi S => opSl w lo hi S := rfl
@[simp] theorem s_slT {xs : List D} {lo hi : Option Int} : opSl (.fz (.tup xs)) lo hi S = .ok (.fz (.tup (cutD xs lo hi))) S := rfl
@[simp] theorem s_slF {xs : List D} {lo hi : Option Int} : opSl (.fz (.lst xs)) lo hi S = .ok (.ow (.lst (cutD xs lo hi))) S := rfl
@[simp] theorem s_slO {xs : List D} {lo hi : Option Int} : opSl (.ow (.lst xs)) lo hi S = .ok (.ow (.lst (cutD xs lo hi))) S := rfl
@[simp] theorem s_slS {ns : List Int} {lo hi : Option Int} : opSl (.fz (.scr ns)) lo hi S = .ok (.ow (.lst (cutD (ns.map D.int) lo hi))) S := rfl
@[simp] theorem s_bnil : bNil ds S = .ok [] S := rfl
@[simp] theorem s_bcons : bCons f fb ds S = bindR (f ds S) fun d S => bindR (fb ds S) fun r S => .ok (d :: r) S := rfl
@[simp] theorem s_blt {k : List Wv → M Wv} : cBlt k fb ds S = bindR (fb ds S) fun ws S => k ws S := rfl
@[simp] theorem s_len1 {xs : List D} : bLen [.fz (.lst xs)] S = .ok (.fz (.int xs.length)) S := rfl
@[simp] theorem s_len2 {xs : List D} : bLen [.ow (.lst xs)] S = .ok (.fz (.int xs.length)) S := rfl
@[simp] theorem s_len3 {xs : List D} : bLen [.fz (.tup xs)] S = .ok (.fz (.int xs.length)) S := rfl
@[simp] theorem s_len4 {ns : List Int} : bLen [.fz (.scr ns)] S = .ok (.fz (.int ns.length)) S := by
  show R.ok (Wv.fz (D.int ((ns.map D.int).length : Nat))) S = _
  rw [List.length_map]
@[simp] theorem s_len5 {z : Str} : bLen [.fz (.str z)] S = if szOk z.length then .ok (.fz (.int z.length)) S else .bad := rfl
@[simp] theorem s_bInt2 {g : Int → Int → Int} {i j : Int} : bInt2 g [.fz (.int i), .fz (.int j)] S = .ok (.fz (.int (g i j))) S := rfl
theorem intsD_map : ∀ ns : List Int, intsD (ns.map D.int) = some ns
  | [] => rfl
  | n :: r => by
    rw [List.map_cons, intsD, intsD_map r]
    rfl
@[simp] theorem s_ints {ns : List Int} : intsD (ns.map D.int) = some ns := intsD_map ns
noncomputable def sumO (o : Option (List Int)) (S : Store) : R Wv := match o with
  | some ns => .ok (.fz (.int ns.sum)) S
  | none => .bad
@[simp] theorem s_sum1 {xs : List D} : bSum [.fz (.lst xs)] S = sumO (intsD xs) S := rfl
@[simp] theorem s_sum2 {xs : List D} : bSum [.ow (.lst xs)] S = sumO (intsD xs) S := rfl
@[simp] theorem s_sumO {ns : List Int} : sumO (some ns) S = .ok (.fz (.int ns.sum)) S := rfl
noncomputable def intO (f : List Int → Int) (o : Option (List Int)) (S : Store) : R Wv := match o with
  | some ns => if ns.isEmpty then .bad else .ok (.fz (.int (f ns))) S
  | none => .bad
@[simp] theorem s_intL1 {g : List Int → Int} {xs : List D} : bIntL g [.fz (.lst xs)] S = intO g (intsD xs) S := rfl
@[simp] theorem s_intL2 {g : List Int → Int} {xs : List D} : bIntL g [.ow (.lst xs)] S = intO g (intsD xs) S := rfl
@[simp] theorem s_intO {g : List Int → Int} {ns : List Int} : intO g (some ns) S = if ns.isEmpty then .bad else .ok (.fz (.int (g ns))) S := rfl
@[simp] theorem s_list1 {xs : List D} : bList [.fz (.lst xs)] S = .ok (.ow (.lst xs)) S := rfl
@[simp] theorem s_list2 {xs : List D} : bList [.ow (.lst xs)] S = .ok (.ow (.lst xs)) S := rfl
@[simp] theorem s_list3 {xs : List D} : bList [.fz (.tup xs)] S = .ok (.ow (.lst xs)) S := rfl
@[simp] theorem s_int1 {i : Int} : bInt [.fz (.int i)] S = .ok (.fz (.int i)) S := rfl
@[simp] theorem s_int2b {b : Bool} : bInt [.fz (.bl b)] S = R.ok (Wv.fz (D.int (if b then 1 else 0))) S := rfl
noncomputable def blO (o : Option String) (b : String) (S : Store) : R Wv := match o with
  | some a => .ok (Wv.fz (D.bl (isTy a b))) S
  | none => .bad
@[simp] theorem s_isTy {b : String} : opIsTy b w S = blO (wTy S w) b S := by
  unfold opIsTy blO
  cases wTy S w <;> rfl
@[simp] theorem s_blO {a b : String} : blO (some a) b S = .ok (.fz (.bl (isTy a b))) S := rfl
@[simp] theorem s_ty1 {i : Int} : wTy S (.fz (.int i)) = some "int" := rfl
@[simp] theorem s_ty2 {b : Bool} : wTy S (.fz (.bl b)) = some "bool" := rfl
@[simp] theorem s_ty3 {z : Str} : wTy S (.fz (.str z)) = some "str" := rfl
@[simp] theorem s_ty4 {xs : List D} : wTy S (.fz (.lst xs)) = some "list" := rfl
@[simp] theorem s_ty5 {xs : List D} : wTy S (.ow (.lst xs)) = some "list" := rfl
@[simp] theorem s_ty6 {xs : List D} : wTy S (.fz (.tup xs)) = some "tuple" := rfl
@[simp] theorem s_ty8 {xs : List (Key × D)} : wTy S (.ow (.dct xs)) = some "dict" := rfl
@[simp] theorem s_ty9 : wTy S (.fz .non) = some "NoneType" := rfl
@[simp] theorem s_ii : isTy "int" "int" = true := rfl
@[simp] theorem s_ib : isTy "int" "bool" = false := rfl
@[simp] theorem s_ll : isTy "list" "list" = true := rfl
@[simp] theorem s_tt : isTy "tuple" "tuple" = true := rfl
@[simp] theorem s_bb : isTy "bool" "bool" = true := rfl
@[simp] theorem s_mut {ty : String} {m : Mu} : cMut i ty m fs ds S = if slTy i ty ds S then liftR (fs ds S) ds fun args S => mutE i m args ds S fun _ ds S => .nx ds S else .bad := rfl
noncomputable def slO (o : Option (Option Wv)) (ty : String) (S : Store) : Bool := match o with
  | some (some (.ow so)) => soTy so == some ty
  | some (some (.fz (.ref n))) => match S[n]? with
    | some so => soTy so == some ty
    | none => false
  | _ => false
@[simp] theorem s_slTy {ty : String} : slTy i ty ds S = slO ds[i]? ty S := rfl
@[simp] theorem s_slO1 {xs : List D} : slO (some (some (.ow (.lst xs)))) "list" S = true := rfl
@[simp] theorem s_slO2 {xs : List (Key × D)} : slO (some (some (.ow (.dct xs)))) "dict" S = true := rfl
noncomputable def mutO (i : Nat) (o : Option (Option Wv)) (m : Mu) (args : List D) (ds : Env) (S : Store) (k : D → Env → Store → RS) : RS := match o with
  | some (some (.ow so)) => match m so args with
    | some (so', d) => k d (ds.set i (some (.ow so'))) S
    | none => .bad
  | some (some (.fz (.ref n))) => match S[n]? with
    | some so => match m so args with
      | some (so', d) => k d ds (S.set n so')
      | none => .bad
    | none => .bad
  | _ => .bad
@[simp] theorem s_mutE {m : Mu} {k : D → Env → Store → RS} : mutE i m args ds S k = mutO i ds[i]? m args ds S k := rfl
noncomputable def mut2 (i : Nat) (o : Option (SO × D)) (ds : Env) (S : Store) (k : D → Env → Store → RS) : RS := match o with
  | some (so', d) => k d (ds.set i (some (.ow so'))) S
  | none => .bad
@[simp] theorem s_mutO {m : Mu} {k : D → Env → Store → RS} {so : SO} : mutO i (some (some (.ow so))) m args ds S k = mut2 i (m so args) ds S k := rfl
@[simp] theorem s_mut2 {k : D → Env → Store → RS} {so : SO} : mut2 i (some (so, d)) ds S k = k d (ds.set i (some (.ow so))) S := rfl
@[simp] theorem s_app {xs : List D} : mAppend (.lst xs) [d] = if szOk (xs.length + 1) then some (.lst (xs ++ [d]), .non) else none := rfl
@[simp] theorem s_clear {xs : List D} : mClear (.lst xs) [] = some (.lst [], .non) := rfl
noncomputable def inO (o : Option V) (os : Option (List V)) (S : Store) : R Bool := match o, os with
  | some v, some vs => .ok (inV v vs) S
  | _, _ => .bad
@[simp] theorem s_inT {xs : List D} : opIn (.fz d) (.fz (.tup xs)) S = inO (dV d) (dVs xs) S := by
  cases h1 : dV d <;> cases h2 : dVs xs <;> simp [opIn, inO, h1, h2]
@[simp] theorem s_inL {xs : List D} : opIn (.fz d) (.fz (.lst xs)) S = inO (dV d) (dVs xs) S := by
  cases h1 : dV d <;> cases h2 : dVs xs <;> simp [opIn, inO, h1, h2]
@[simp] theorem s_inL2 {xs : List D} : opIn (.fz d) (.ow (.lst xs)) S = inO (dV d) (dVs xs) S := by
  cases h1 : dV d <;> cases h2 : dVs xs <;> simp [opIn, inO, h1, h2]
@[simp] theorem s_inO {v : V} {vs : List V} : inO (some v) (some vs) S = .ok (inV v vs) S := rfl
end
end Mir
set_option Elab.async false
set_option linter.all false
set_option maxRecDepth 100000
namespace MirC
open PySem L2 Mir
variable {S : Store}
noncomputable def digits : Int → List Int → List Int
  | _, [] => []
  | c, b :: r => c % b :: digits (c / b) r
theorem digits_len : ∀ (bs : List Int) (c : Int), (digits c bs).length = bs.length
  | [], _ => rfl
  | b :: r, c => by rw [digits, List.length_cons, List.length_cons, digits_len r]
noncomputable def mixed (c k : Int) : Int :=
  ((c + 7919 * k * k + k) * 982451653 % 2305843009213693951) * ((c + 7919 * k * k + k) * 982451653 % 2305843009213693951 * 1000003 % 1152921504606846883) *
    ((c + 7919 * k * k + k) * 982451653 % 2305843009213693951 / 4096 + (c + 7919 * k * k + k) * 982451653 % 2305843009213693951 * 1000003 % 1152921504606846883 / 64 + 1)
noncomputable def cells (ns : List Int) : List Int := match ns with
  | [] => []
  | n :: r => if n % 2 = 1 then (List.range (maxI (minI ((r.length : Int) + 1) 63) (3 + n / 2 % 61)).toNat).map fun k => mixed ((n :: r).getD (k % (r.length + 1)) 0) (k : Nat)
    else ((n :: r).take 63).map fun c => c % 10 ^ 60
theorem getD_scr (ns : List Int) (k : Nat) (h : k < ns.length) : atD (ns.map D.int) (k : Int) = some (.int (ns.getD k 0)) := by
  have : (k : Int) < ((ns.map D.int).length : Int) := by simpa using h
  simp [atD, ixN, h]
theorem cut_script (ns : List Int) (hl : ns.length ≤ 63) : cutD (ns.map D.int) none (some 63) = (ns.take 63).map D.int := by
  unfold cutD
  rw [HT.sIx_none, show HT.sIx (ns.map D.int).length (ns.map D.int).length (some 63) = min 63 (ns.map D.int).length from HT.sIx_nat _ _ 63, List.drop_zero, List.map_take, Nat.sub_zero]
  rw [List.length_map, Nat.min_eq_right hl, List.take_of_length_le (by simp), List.take_of_length_le (by simpa using hl)]
noncomputable def cl (ns : List Int) (k : Nat) : Int := ns.getD k 0
end MirC
set_option Elab.async false
set_option linter.all false
set_option maxRecDepth 100000
namespace Mir
open PySem PySem.Spec PyProof.Rows L2
structure ExcF (K : PySem.W.Frag) (mg : Str → Option Value) (x : Str) (C : Addr) : Prop where
  g : mg x = some (.ref C)
  ex : PySem.W.excIn K C [.type "ValueError", .type "Exception", .type "BaseException", .type "object"] "ValueError.__new__" = true
  kp : PySem.W.keepIn K (.ref C) = true
  sb : PySem.W.subIn K (.ref C) (.type "BaseException") = some true
  tp : PySem.W.typeIn K (.ref C) = some (.type "type")
noncomputable def cRaise (c : Nat) : CS := fun ds S => .ex (c, none) ds S
section
variable {T : Tx} {Wx : WX} {X : Cx} {e : Expr} {g g0 g1 : Gh} {H H0 H1 : Hp} {c : Chk} {S S1 : Store} {ds : Env} {σ : SV} {st : Stmt} {rest : List Stmt} {pos : Pos} {f1 : CE}
theorem js_raise {x m : Str} {k : Nat} {j : Nat} {p p2 pos' : Pos} (lv : Lv T Wx X) (hc : X.calm = true) (F : ExcF T.K X.mg x (T.cls k)) (hg : Gl X x) (hdb : (x == ("__debug__" : Str)) = false := by decide) : JS T Wx X (.Raise (some (.Call (.Name x p) [.Constant (.str m) j p2] [] pos')) none pos) (cRaise k) := by
  have hK := lv.hK
  refine PS.imp (ps_raise hc lv.tk (pmk_own PySem.F.excBase_ValueError (hK.symm ▸ F.ex) F.g (hK.symm ▸ F.kp) (raises_own (hK.symm ▸ F.sb) (hK.symm ▸ F.tp)) hg hdb)) fun D' σ H hh_ => ?_
  obtain ⟨g0, H0, c, g, S, ds, fr, q⟩ := hh_
  exact q g H σ (.ref (T.cls k)) none fr ⟨rfl, rfl⟩
noncomputable def Tx.wi (T : Tx) (a : Addr) (l : Addr → HO → Prop) : Tx := ⟨T.K, T.cls, a, l, T.tabs⟩
variable {a : Addr} {l : Addr → HO → Prop}
mutual
theorem Rep.wi : ∀ {d : D} {v : V}, Rep T g H d v → Rep (T.wi a l) g H d v
  | _, _, .non => .non
  | _, _, .bl b => .bl b
  | _, _, .int i => .int i
  | _, _, .str x => .str x
  | _, _, .tup h n r => .tup h n (Reps.wi r)
  | _, _, .lst h n r => .lst h n (Reps.wi r)
  | _, _, .scr h => .scr h
  | _, _, .dct h n r => .dct h n (RepK.wi r)
  | _, _, .ins h n r => .ins h n (RepF.wi r)
  | _, _, .ref h => .ref h
theorem Reps.wi : ∀ {ds : List D} {vs : List V}, Reps T g H ds vs → Reps (T.wi a l) g H ds vs
  | _, _, .nil => .nil
  | _, _, .cons h r => .cons (Rep.wi h) (Reps.wi r)
theorem RepK.wi : ∀ {ds : List (Key × D)} {vs : List (Key × V)}, RepK T g H ds vs → RepK (T.wi a l) g H ds vs
  | _, _, .nil => .nil
  | _, _, .cons h r => .cons (Rep.wi h) (RepK.wi r)
theorem RepF.wi : ∀ {ds : List (Str × D)} {vs : List (Str × V)}, RepF T g H ds vs → RepF (T.wi a l) g H ds vs
  | _, _, .nil => .nil
  | _, _, .cons h r => .cons (Rep.wi h) (RepF.wi r)
end
theorem RepO.wi {o : SO} {ho : HO} (r : RepO T g H o ho) : RepO (T.wi a l) g H o ho := by
  cases r with
  | lst r => exact .lst r.wi
  | dct r => exact .dct r.wi
  | ins r => exact .ins (T := T.wi a l) r.wi
theorem RelS.wi (r : RelS T g S H) : RelS (T.wi a l) g S H := ⟨r.len, r.nd, r.liv, fun n o b h1 h2 => let ⟨ho, h3, p⟩ := r.obj n o b h1 h2; ⟨ho, h3, p.wi⟩, ⟨r.tab.lv, r.tab.ok⟩⟩
theorem Own.wi {so : SO} {b : Addr} (o : Own T H0 g H so b) : Own (T.wi a l) H0 g H so b := ⟨o.new, o.liv, o.nio, let ⟨ho, h, p⟩ := o.obj; ⟨ho, h, p.wi⟩⟩
theorem RepW.wi {w : Wv} {v : V} (r : RepW T H0 g H w v) : RepW (T.wi a l) H0 g H w v := by
  cases w with
  | fz d => exact Rep.wi r
  | ow so =>
    obtain ⟨b, e, o⟩ := r
    exact ⟨b, e, o.wi⟩
  | xc => exact r
noncomputable def noXc (ds : Env) : Bool := ds.all fun s => match s with
  | some .xc => false
  | _ => true
theorem noXc_at (h : noXc ds = true) {i : Nat} : ds[i]? ≠ some (some .xc) := fun z => by
  have q := List.all_eq_true.mp h _ (List.mem_of_getElem? z)
  cases q
theorem FR.wi (fr : FR T g0 H0 c g H S ds σ) (hx : noXc ds = true) (hl : ∀ b o, l b o → H b = some o ∧ ¬ g.L b) : FR (T.wi a l) g0 H0 c g H S ds σ :=
  ⟨fr.ext, fr.st.wi, ⟨fr.env.len, fun i d h => let ⟨v, h1, r⟩ := fr.env.fz i d h; ⟨v, h1, r.wi⟩, fun i so h => let ⟨b, h1, o⟩ := fr.env.ow i so h; ⟨b, h1, o.wi⟩, fr.env.ne, fun i h => (noXc_at hx h).elim⟩, fr.fz, fr.io, hl⟩
noncomputable def lnX (x : Xn) (d : Option Addr) : Addr → HO → Prop := fun b o => ∃ f i, x.2 = some (f, i) ∧ d = some b ∧ o = .xd [(f, .int i)]
noncomputable abbrev Tx.sx (T : Tx) (a : Addr) (x : Xn) (d : Option Addr) : Tx := T.wi a (lnX x d)
noncomputable def unX (i : Nat) : RS → RS
  | .nx ds S => if noXc (ds.set i none) then .nx (ds.set i none) S else .bad
  | .bk ds S => if noXc (ds.set i none) then .bk (ds.set i none) S else .bad
  | .ct ds S => if noXc (ds.set i none) then .ct (ds.set i none) S else .bad
  | .rt w S => .rt w S
  | _ => .bad
noncomputable def catchX (i : Nat) (tst : Nat → Option Bool) (h : Xn → CS) (x : Xn) (ds : Env) (S : Store) : RS := match tst x.1 with
  | some true => if noXc ds && decide (i < ds.length) then unX i (h x (ds.set i (some .xc)) S) else .bad
  | some false => .ex x ds S
  | none => .bad
noncomputable def cTry (i : Nat) (tst : Nat → Option Bool) (b : CS) (h : Xn → CS) : CS := fun ds S => match b ds S with
  | .ex x ds S => catchX i tst h x ds S
  | r => r
theorem PSs.ex {α : Type} {ss : List Stmt} {t : α → TS} (h : ∀ x, PSs X ss (t x)) : PSs X ss (fun D σ H => ∃ x, t x D σ H) := ⟨fun pins s σ H D I ⟨x, q⟩ => (h x).run pins s σ H D I q⟩
structure XIs (T : Tx) (tst : Nat → Option Bool) (cv : Value) : Prop where
  at_ : ∀ c b, tst c = some b → ExcC T.K (T.cls c) ∧ PySem.W.kitOne T.K (.ref (T.cls c)) cv = some b
structure XIsT (T : Tx) (tst : Nat → Option Bool) (us : List Value) : Prop where
  at_ : ∀ c b, tst c = some b → ExcC T.K (T.cls c) ∧ PySem.W.kitAny T.K (.ref (T.cls c)) us = some b
noncomputable def xcAt (i : Nat) (ds : Env) : Bool := match ds[i]? with
  | some (some .xc) => true
  | _ => false
noncomputable def cXis (i : Nat) (tst : Nat → Option Bool) (y : Xn) : CE := fun ds S => if xcAt i ds then (match tst y.1 with
  | some b => .ok (.fz (.bl b)) S
  | none => .bad) else .bad
structure PCls (X : Cx) (es : List Expr) (us : List Value) : Prop where
  ex : ∃ (cs : List V), Paired ClsV cs us ∧ PA X es (fun _ H Q => Q cs H)
structure XFld (T : Tx) (f : Str) (c : Nat) : Prop where
  xf : XfC T.K (T.cls c)
  no : PySem.W.findIn T.K (.ref (T.cls c)) f = some none
end
end Mir
set_option Elab.async false
set_option linter.all false
set_option maxRecDepth 100000
namespace Mir
open PySem PySem.Spec PyProof.Rows L2
noncomputable def clsOf (K : PySem.W.Frag) (ns : List Str) (n : Nat) : Addr := match ns[n]? with
  | some x => (match PySem.W.nsIn K mainGlobals x with
    | some (some (.ref C)) => C
    | _ => 0)
  | none => 0
noncomputable def txOf (K : PySem.W.Frag) (ns : List Str) : Tx := {K := K, cls := clsOf K ns}
theorem clsOf_is {K : PySem.W.Frag} {ns : List Str} {n : Nat} {x : Str} {C : Addr} (hn : ns[n]? = some x) (h : PySem.W.nsIn K mainGlobals x = some (some (.ref C))) : clsOf K ns n = C := by
  unfold clsOf
  rw [hn]
  dsimp only
  rw [h]
theorem txOf_lean {K : PySem.W.Frag} {ns : List Str} : ∀ a o, ¬ (txOf K ns).lean a o := fun _ _ h => h
structure ExcA (K : PySem.W.Frag) (C : Addr) : Prop where
  ex : PySem.W.excIn K C [.type "ValueError", .type "Exception", .type "BaseException", .type "object"] "ValueError.__new__" = true
  kp : PySem.W.keepIn K (.ref C) = true
  sb : PySem.W.subIn K (.ref C) (.type "BaseException") = some true
  tp : PySem.W.typeIn K (.ref C) = some (.type "type")
theorem exc_mk {K : PySem.W.Frag} {h : Heap} {mg : Str → Option Value} (X : K.In h) (G : h.Ns mainGlobals mg) {ns : List Str} {x : Str} {C : Addr} (k : Nat) (N : PySem.W.nsIn K mainGlobals x = some (some (.ref C))) (A : ExcA K C) (hn : ns[k]? = some x) : ExcF (txOf K ns).K mg x ((txOf K ns).cls k) := by
  have e : (txOf K ns).cls k = C := clsOf_is hn N
  rw [e]
  exact ⟨PySem.W.mg_of X G N, A.ex, A.kp, A.sb, A.tp⟩
section
variable {T : Tx} {mg : Str → Option Value} {P : Program} {w : World} {base : Heap} {k : Nat} {Wx : WX} {X : Cx}
theorem Bd.exF (B : Bd T mg P w base k Wx X) {x : Str} {C : Addr} (h : ExcF T.K mg x C) : ExcF T.K X.mg x C := B.mg ▸ h
end
end Mir
set_option Elab.async false
set_option linter.all false
set_option maxRecDepth 100000
namespace Mir
open PySem L2
@[simp] theorem s_raise {c : Nat} {ds : Env} {S : Store} : cRaise c ds S = .ex (c, none) ds S := rfl
end Mir
namespace MirD
open PySem L2 Mir
variable {S : Store}
end MirD
set_option Elab.async false
set_option linter.all false
set_option maxRecDepth 100000
namespace Mir
open PySem PySem.Spec PyProof.Rows L2
noncomputable def tab (l : List (Nat × Bool)) : Nat → Option Bool := fun c => l.lookup c
noncomputable def AllP (P : Nat → Bool → Prop) : List (Nat × Bool) → Prop
  | [] => True
  | (c, b) :: r => P c b ∧ AllP P r
theorem tab_all {P : Nat → Bool → Prop} : ∀ {l : List (Nat × Bool)}, AllP P l → ∀ c b, tab l c = some b → P c b
  | [], _, _, _, h => nomatch h
  | (c0, b0) :: r, ⟨h1, h2⟩, c, b, h => by
    unfold tab List.lookup at h
    split at h
    · rename_i q
      cases h
      rw [eq_of_beq q]
      exact h1
    · exact tab_all h2 c b h
section
variable {T : Tx} {mg : Str → Option Value} {P : Program} {w : World} {base : Heap} {k : Nat} {Wx : WX} {X : Cx}
structure Sd (T : Tx) (mg : Str → Option Value) (Wx : WX) (X : Cx) : Prop extends Lv T Wx X where
  mg : X.mg = mg
theorem Sd.no (B : Sd T mg Wx X) {x : Str} (z : mg x = none) : X.mg x = none := B.mg ▸ z
theorem Sd.yes (B : Sd T mg Wx X) {x : Str} {u : Value} (z : mg x = some u) : X.mg x = some u := B.mg ▸ z
theorem Bd.nm (B : Bd T mg P w base k Wx X) {x : Str} {c : Value} (hg : Gl X x) (z : mg x = some c) (hd : (x == ("__debug__" : Str)) = false := by decide) : Names X x c := ⟨hg, hd, .inl (B.yes z)⟩
theorem pe_cl {x : Str} {C : Addr} {pos : Pos} (hg : Gl X x) (hm : X.mg x = some (.ref C)) (hd : (x == ("__debug__" : Str)) = false := by decide) : PE X (.Name x pos) (tC (.ref C)) := pe_glob hg hm rfl hd
end
theorem cn_mg {K : PySem.W.Frag} {h : Heap} {mg : Str → Option Value} (X : K.In h) (G : h.Ns mainGlobals mg) {ns : List Str} {x : Str} {C : Addr} (k : Nat) (N : PySem.W.nsIn K mainGlobals x = some (some (.ref C))) (hn : ns[k]? = some x) : mg x = some (.ref ((txOf K ns).cls k)) := by
  rw [show (txOf K ns).cls k = C from clsOf_is hn N]
  exact PySem.W.mg_of X G N
theorem cn_at {K : PySem.W.Frag} {ns : List Str} {x : Str} {C : Addr} (k : Nat) (N : PySem.W.nsIn K mainGlobals x = some (some (.ref C))) (hn : ns[k]? = some x) {p : Addr → Prop} (h : p C) : p ((txOf K ns).cls k) := by
  rw [show (txOf K ns).cls k = C from clsOf_is hn N]
  exact h
theorem cn_at2 {K : PySem.W.Frag} {ns : List Str} {x x' : Str} {C C' : Addr} (k k' : Nat) (N : PySem.W.nsIn K mainGlobals x = some (some (.ref C))) (hn : ns[k]? = some x) (N' : PySem.W.nsIn K mainGlobals x' = some (some (.ref C'))) (hn' : ns[k']? = some x') {p : Addr → Addr → Prop} (h : p C C') : p ((txOf K ns).cls k) ((txOf K ns).cls k') := by
  rw [show (txOf K ns).cls k = C from clsOf_is hn N, show (txOf K ns).cls k' = C' from clsOf_is hn' N']
  exact h
end Mir
set_option Elab.async false
set_option linter.all false
set_option maxRecDepth 100000
namespace Mir
open PySem L2
mutual
noncomputable def okN (n : Nat) : D → Bool
  | .non => true
  | .bl _ => true
  | .int _ => true
  | .str x => PyData.strOk x
  | .tup xs => decide (0 < n) && okNs (n - 1) xs
  | .lst xs => decide (0 < n) && okNs (n - 1) xs
  | .scr _ => decide (0 < n)
  | .dct _ => false
  | .ins _ _ => false
  | .ref _ => false
noncomputable def okNs (n : Nat) : List D → Bool
  | [] => true
  | d :: r => okN n d && okNs n r
end
mutual
theorem okN_pd : ∀ {n : Nat} {d : D}, okN n d = true → isPd d = true ∧ (toPd d).canLay0 = true ∧ (toPd d).depth ≤ n
  | _, .non, _ => ⟨rfl, rfl, Nat.zero_le _⟩
  | _, .bl _, _ => ⟨rfl, rfl, Nat.zero_le _⟩
  | _, .int _, _ => ⟨rfl, rfl, Nat.zero_le _⟩
  | _, .str _, h => ⟨rfl, h, Nat.zero_le _⟩
  | n, .tup xs, h => by
    rw [okN, Bool.and_eq_true] at h
    obtain ⟨a, b, c⟩ := okNs_pd h.2
    have := of_decide_eq_true h.1
    rw [isPd, toPd, PyData.canLay0, PyData.depth]
    exact ⟨a, b, by omega⟩
  | n, .lst xs, h => by
    rw [okN, Bool.and_eq_true] at h
    obtain ⟨a, b, c⟩ := okNs_pd h.2
    have := of_decide_eq_true h.1
    rw [isPd, toPd, PyData.canLay0, PyData.depth]
    exact ⟨a, b, by omega⟩
  | n, .scr ns, h => by
    have := of_decide_eq_true h
    rw [toPd, PyData.canLay0, PyData.depth]
    exact ⟨rfl, PySem.W.ke_canLayAll0 ns, by rw [PySem.W.ke_depthAll]; omega⟩
  | _, .dct _, h => nomatch h
  | _, .ins _ _, h => nomatch h
  | _, .ref _, h => nomatch h
theorem okNs_pd : ∀ {n : Nat} {ds : List D}, okNs n ds = true → isPds ds = true ∧ PyData.canLayAll0 (toPds ds) = true ∧ PyData.depthAll (toPds ds) ≤ n
  | _, [], _ => ⟨rfl, rfl, Nat.zero_le _⟩
  | n, d :: r, h => by
    rw [okNs, Bool.and_eq_true] at h
    obtain ⟨a, b, c⟩ := okN_pd h.1
    obtain ⟨a', b', c'⟩ := okNs_pd h.2
    rw [isPds, toPds, PyData.canLayAll0, PyData.depthAll, a, a', b, b']
    exact ⟨rfl, rfl, by omega⟩
end
theorem okN_sh {n : Nat} {d : D} (h : okN n d = true) (hn : n ≤ 60) : isPd d = true ∧ SeqAt.shaped (toPd d) = true := by
  obtain ⟨a, b, c⟩ := okN_pd h
  refine ⟨a, ?_⟩
  unfold SeqAt.shaped
  rw [b, decide_eq_true (show (toPd d).depth ≤ 64 by omega)]
  rfl
noncomputable def datW : Wv → Option D
  | .fz d => some d
  | .ow (.lst xs) => some (.lst xs)
  | _ => none
noncomputable def eqvD (a b : D) : Bool := PyData.eqv (toPd a) (toPd b)
noncomputable def eqvDs (a b : List D) : Bool := PyData.eqvAll (toPds a) (toPds b)
theorem toPds_ints : ∀ ns : List Int, toPds (ns.map D.int) = ns.map PyData.int
  | [] => rfl
  | n :: r => by
    rw [List.map_cons, toPds, toPds_ints r]
    rfl
theorem isPds_ints : ∀ ns : List Int, isPds (ns.map D.int) = true
  | [] => rfl
  | n :: r => by
    rw [List.map_cons, isPds, isPds_ints r]
    rfl
theorem viewD_dat {S : Store} {w : Wv} {d : D} (h : datW w = some d) (hd : okN 60 d = true) : viewD S w = some (toPd d) := by
  obtain ⟨a, b⟩ := okN_sh hd (Nat.le_refl _)
  have L : ∀ xs, isPds xs = true → SeqAt.shaped (.list (toPds xs)) = true → (if isPds xs && SeqAt.shaped (.list (toPds xs)) then some (PyData.list (toPds xs)) else none) = some (PyData.list (toPds xs)) := fun xs h1 h2 => by
    rw [h1, h2]
    rfl
  have F : ∀ d, isPd d = true → SeqAt.shaped (toPd d) = true → (if isPd d && SeqAt.shaped (toPd d) then some (toPd d) else none) = some (toPd d) := fun d h1 h2 => by
    rw [h1, h2]
    rfl
  cases w with
  | xc => cases h
  | ow so =>
    cases so with
    | lst xs =>
      cases h
      exact L xs a b
    | dct _ => cases h
    | ins _ _ => cases h
  | fz d' =>
    cases h
    cases d with
    | lst xs => exact L xs a b
    | scr ns =>
      have := L (ns.map D.int) (isPds_ints ns) (by rw [toPds_ints]; exact b)
      rw [toPd, ← toPds_ints]
      exact this
    | ref n => cases hd
    | non => exact F _ a b
    | bl _ => exact F _ a b
    | int _ => exact F _ a b
    | str _ => exact F _ a b
    | tup _ => exact F _ a b
    | dct _ => cases hd
    | ins _ _ => cases hd
theorem s_eqW {S : Store} {w1 w2 : Wv} {d1 d2 : D} (h1 : datW w1 = some d1) (h2 : datW w2 = some d2) (o1 : okN 60 d1 = true) (o2 : okN 60 d2 = true) : opEq w1 w2 S = .ok (eqvD d1 d2) S := by
  have e1 := viewD_dat (S := S) h1 o1
  have e2 := viewD_dat (S := S) h2 o2
  unfold opEq
  split
  · cases h1
    cases h2
    refine congrArg (R.ok · S) ?_
    unfold eqvD toPd PyData.eqv
    rename_i i j
    by_cases q : i = j <;> simp [q]
  · cases h1
    cases h2
    refine congrArg (R.ok · S) ?_
    unfold eqvD toPd PyData.eqv
    rename_i i j
    by_cases q : i = j <;> simp [q]
  · rw [e1, e2]
    rfl
section
variable {S : Store} {xs ys : List D} {d1 d2 : D}
theorem s_eqF (o1 : okN 60 d1 = true) (o2 : okN 60 d2 = true) : opEq (.fz d1) (.fz d2) S = .ok (eqvD d1 d2) S := s_eqW rfl rfl o1 o2
theorem s_eqOF (o1 : okN 60 (.lst xs) = true) (o2 : okN 60 d2 = true) : opEq (.ow (.lst xs)) (.fz d2) S = .ok (eqvD (.lst xs) d2) S := s_eqW rfl rfl o1 o2
theorem s_eqFO (o1 : okN 60 d1 = true) (o2 : okN 60 (.lst ys) = true) : opEq (.fz d1) (.ow (.lst ys)) S = .ok (eqvD d1 (.lst ys)) S := s_eqW rfl rfl o1 o2
theorem s_eqOO (o1 : okN 60 (.lst xs) = true) (o2 : okN 60 (.lst ys) = true) : opEq (.ow (.lst xs)) (.ow (.lst ys)) S = .ok (eqvD (.lst xs) (.lst ys)) S := s_eqW rfl rfl o1 o2
end
theorem eqvs_ints : ∀ ns ms : List Int, eqvDs (ns.map D.int) (ms.map D.int) = decide (ns = ms)
  | [], [] => rfl
  | [], _ :: _ => by simp [eqvDs, toPds, PyData.eqvAll]
  | _ :: _, [] => by simp [eqvDs, toPds, PyData.eqvAll]
  | a :: r, b :: t => by
    have ih := eqvs_ints r t
    unfold eqvDs at ih ⊢
    rw [List.map_cons, List.map_cons, toPds, toPds, PyData.eqvAll, ih, toPd, toPd, PyData.eqv]
    by_cases h : a = b <;> by_cases h' : r = t <;> simp [h, h']
mutual
theorem eqv_self : ∀ {d : D}, isPd d = true → eqvD d d = true
  | .non, _ => rfl
  | .bl b, _ => by cases b <;> rfl
  | .int i, _ => by unfold eqvD toPd PyData.eqv; exact beq_self_eq_true i
  | .str x, _ => by unfold eqvD toPd PyData.eqv; exact beq_self_eq_true x
  | .tup xs, h => by
    rw [isPd] at h
    have := eqvs_self h
    unfold eqvD
    rw [toPd, PyData.eqv]
    exact this
  | .lst xs, h => by
    rw [isPd] at h
    have := eqvs_self h
    unfold eqvD
    rw [toPd, PyData.eqv]
    exact this
  | .scr ns, _ => by
    have := eqvs_ints ns ns
    unfold eqvDs at this
    rw [toPds_ints, decide_eq_true rfl] at this
    unfold eqvD
    rw [toPd, PyData.eqv]
    exact this
  | .dct _, h => nomatch h
  | .ins _ _, h => nomatch h
  | .ref _, h => nomatch h
theorem eqvs_self : ∀ {ds : List D}, isPds ds = true → eqvDs ds ds = true
  | [], _ => rfl
  | d :: r, h => by
    rw [isPds, Bool.and_eq_true] at h
    have h1 := eqv_self h.1
    have h2 := eqvs_self h.2
    unfold eqvD at h1
    unfold eqvDs at h2 ⊢
    rw [toPds, PyData.eqvAll, h1, h2]
    rfl
end
theorem eqv_same {n : Nat} {d : D} (h : okN n d = true) : eqvD d d = true := eqv_self (okN_pd h).1
theorem eqv_ints (ns ms : List Int) : eqvD (.lst (ns.map D.int)) (.lst (ms.map D.int)) = decide (ns = ms) := by
  rw [← eqvs_ints]
  unfold eqvD eqvDs
  rw [toPd, toPd, PyData.eqv]
theorem okNs_map {α : Type} {n : Nat} {f : α → D} {xs : List α} (h : ∀ x ∈ xs, okN n (f x) = true) : okNs n (xs.map f) = true := by
  induction xs with
  | nil => rfl
  | cons x r ih =>
    rw [List.map_cons, okNs, h x List.mem_cons_self, ih fun y hy => h y (List.mem_cons_of_mem _ hy)]
    rfl
theorem okN_ints {n : Nat} (ns : List Int) (h : 0 < n) : okN n (.lst (ns.map D.int)) = true := by
  rw [okN, decide_eq_true h, okNs_map fun _ _ => rfl]
  rfl
section
variable {S : Store} {ns ms : List Int}
@[simp] theorem s_eqFFi : opEq (.fz (.lst (ns.map D.int))) (.fz (.lst (ms.map D.int))) S = .ok (decide (ns = ms)) S := by rw [s_eqF (okN_ints _ (by decide)) (okN_ints _ (by decide)), eqv_ints]
@[simp] theorem s_eqOFi : opEq (.ow (.lst (ns.map D.int))) (.fz (.lst (ms.map D.int))) S = .ok (decide (ns = ms)) S := by rw [s_eqOF (okN_ints _ (by decide)) (okN_ints _ (by decide)), eqv_ints]
@[simp] theorem s_eqFOi : opEq (.fz (.lst (ns.map D.int))) (.ow (.lst (ms.map D.int))) S = .ok (decide (ns = ms)) S := by rw [s_eqFO (okN_ints _ (by decide)) (okN_ints _ (by decide)), eqv_ints]
@[simp] theorem s_eqOOi : opEq (.ow (.lst (ns.map D.int))) (.ow (.lst (ms.map D.int))) S = .ok (decide (ns = ms)) S := by rw [s_eqOO (okN_ints _ (by decide)) (okN_ints _ (by decide)), eqv_ints]
end
@[simp] theorem szOk_0 : szOk 0 = true := rfl
@[simp] theorem szOk_1 : szOk 1 = true := rfl
@[simp] theorem szOk_2 : szOk 2 = true := rfl
@[simp] theorem szOk_3 : szOk 3 = true := rfl
@[simp] theorem szOk_4 : szOk 4 = true := rfl
@[simp] theorem szOk_5 : szOk 5 = true := rfl
@[simp] theorem szOk_6 : szOk 6 = true := rfl
@[simp] theorem szOk_7 : szOk 7 = true := rfl
@[simp] theorem szOk_8 : szOk 8 = true := rfl
@[simp] theorem szOk_9 : szOk 9 = true := rfl
@[simp] theorem szOk_10 : szOk 10 = true := rfl
@[simp] theorem szOk_11 : szOk 11 = true := rfl
@[simp] theorem szOk_12 : szOk 12 = true := rfl
section
variable {S S' : Store} {ds ds' : Env} {i : Nat} {tst : Nat → Option Bool} {b : CS} {h : Xn → CS} {x : Xn} {w : Wv}
noncomputable def tryO (i : Nat) (tst : Nat → Option Bool) (h : Xn → CS) : RS → RS
  | .ex x ds S => catchX i tst h x ds S
  | r => r
@[simp] theorem s_try : cTry i tst b h ds S = tryO i tst h (b ds S) := by
  unfold cTry tryO
  cases b ds S <;> rfl
@[simp] theorem s_tryX : tryO i tst h (.ex x ds S) = catchX i tst h x ds S := rfl
@[simp] theorem s_tryN : tryO i tst h (.nx ds S) = .nx ds S := rfl
@[simp] theorem s_tryR : tryO i tst h (.rt w S) = .rt w S := rfl
@[simp] theorem s_tab1 {c : Nat} {b : Bool} {l : List (Nat × Bool)} : tab ((c, b) :: l) c = some b := by
  unfold tab List.lookup
  simp
@[simp] theorem noXc0 : noXc [] = true := rfl
@[simp] theorem noXc1 {d : D} {r : Mir.Env} : noXc (some (.fz d) :: r) = noXc r := rfl
@[simp] theorem noXc2 {so : SO} {r : Mir.Env} : noXc (some (.ow so) :: r) = noXc r := rfl
@[simp] theorem noXc3 {r : Mir.Env} : noXc (none :: r) = noXc r := rfl
noncomputable def catO (i : Nat) (h : Xn → CS) (x : Xn) (ds : Env) (S : Store) : Option Bool → RS
  | some true => if noXc ds && decide (i < ds.length) then unX i (h x (ds.set i (some .xc)) S) else .bad
  | some false => .ex x ds S
  | none => .bad
@[simp] theorem s_catch : catchX i tst h x ds S = catO i h x ds S (tst x.1) := by
  unfold catchX catO
  rfl
@[simp] theorem s_catT : catO i h x ds S (some true) = if noXc ds && decide (i < ds.length) then unX i (h x (ds.set i (some .xc)) S) else .bad := rfl
@[simp] theorem s_catF : catO i h x ds S (some false) = .ex x ds S := rfl
@[simp] theorem s_unN : unX i (.nx ds S) = if noXc (ds.set i none) then .nx (ds.set i none) S else .bad := rfl
@[simp] theorem s_unR : unX i (.rt w S) = .rt w S := rfl
noncomputable def xisO (o : Option (Option Wv)) (t : Option Bool) (S : Store) : R Wv := match o, t with
  | some (some .xc), some b => .ok (.fz (.bl b)) S
  | _, _ => .bad
@[simp] theorem s_xis {y : Xn} : cXis i tst y ds S = xisO ds[i]? (tst y.1) S := by
  unfold cXis xisO xcAt
  cases ds[i]? with
  | none => rfl
  | some o =>
    cases o with
    | none => rfl
    | some w =>
      cases w with
      | xc => cases tst y.1 <;> rfl
      | fz d => rfl
      | ow so => rfl
@[simp] theorem s_xisO {v : Bool} : xisO (some (some .xc)) (some v) S = .ok (.fz (.bl v)) S := rfl
end
theorem cutD_take {xs : List D} (k : Nat) : cutD xs none (some (k : Int)) = xs.take k := by
  unfold cutD
  rw [HT.sIx_none, show HT.sIx xs.length xs.length (some (k : Int)) = min k xs.length from HT.sIx_nat _ _ k, List.drop_zero, Nat.sub_zero]
  rw [← List.take_take, List.take_of_length_le (Nat.le_refl _)]
theorem cutD_mid {xs : List D} (i j : Nat) (hj : j ≤ xs.length) : cutD xs (some (i : Int)) (some (j : Int)) = (xs.drop i).take (j - i) := by
  unfold cutD
  rw [show HT.sIx xs.length 0 (some (i : Int)) = min i xs.length from HT.sIx_nat _ _ i, show HT.sIx xs.length xs.length (some (j : Int)) = min j xs.length from HT.sIx_nat _ _ j, Nat.min_eq_left hj]
  by_cases h : i ≤ xs.length
  · rw [Nat.min_eq_left h]
  · rw [Nat.min_eq_right (by omega), List.drop_of_length_le (Nat.le_refl _), List.drop_of_length_le (by omega)]
    simp
@[simp] theorem atD_int {ns : List Int} {k : Nat} : atD (ns.map D.int) (k : Int) = (ns[k]?).map D.int := by
  cases h : ns[k]? with
  | some i => exact atD_nat (by rw [List.getElem?_map, h]; rfl)
  | none =>
    have := List.getElem?_eq_none_iff.mp h
    unfold atD ixN
    rw [if_pos (by omega), if_neg (by rw [List.length_map]; omega)]
    rfl
end Mir
set_option Elab.async false
set_option linter.all false
set_option maxRecDepth 100000
namespace Mir
open PySem PySem.Spec PyProof.Rows L2
section
variable {T : Tx} {Wx : WX} {X : Cx} {e o : Expr} {g g0 g1 : Gh} {H H0 H1 : Hp} {c : Chk} {S S1 : Store} {ds : Env} {σ : SV} {st : Stmt} {rest : List Stmt} {pos : Pos} {f1 : CE}
noncomputable def insW (S : Store) : Wv → Option (Nat × List (Str × D))
  | .fz (.ins c fs) => some (c, fs)
  | .ow (.ins c fs) => some (c, fs)
  | .fz (.ref n) => match S[n]? with
    | some (.ins c fs) => some (c, fs)
    | _ => none
  | _ => none
theorem insW_ok {w : Wv} {v : V} {k : Nat} {fs : List (Str × D)} (rs : RelS T g S H) (r : RepB T g H w v) (h : insW S w = some (k, fs)) : ∃ a dx vs, v = .ref a ∧ H a = some (.ins (T.cls k) dx vs) ∧ RepF T g H fs vs := by
  cases w with
  | xc => cases h
  | ow so =>
    cases so with
    | ins k' fs' =>
      cases h
      obtain ⟨a, ho, rfl, _, h1, h2⟩ := r
      cases h2 with
      | ins h2 => exact ⟨a, _, _, rfl, h1, h2⟩
    | lst _ => cases h
    | dct _ => cases h
  | fz d =>
    cases d with
    | ins k' fs' =>
      cases h
      cases r with
      | ins h1 _ h2 => exact ⟨_, _, _, rfl, h1, h2⟩
    | ref n =>
      cases r with
      | ref hn =>
        change (match S[n]? with | some (SO.ins c fs) => some (c, fs) | _ => none) = some (k, fs) at h
        split at h
        · rename_i k' fs' q
          cases h
          obtain ⟨ho, h1, h2⟩ := rs.obj n _ _ q hn
          cases h2 with
          | ins h2 => exact ⟨_, _, _, rfl, h1, h2⟩
        · cases h
    | _ => cases h
theorem RepF.look : ∀ {ds : List (Str × D)} {vs : List (Str × V)}, RepF T g H ds vs → ∀ f, (∀ d, ds.lookup f = some d → ∃ v, vs.lookup f = some v ∧ Rep T g H d v) ∧ (ds.lookup f = none → vs.lookup f = none)
  | _, _, .nil, f => ⟨fun d h => by simp at h, fun _ => rfl⟩
  | (k, d0) :: r, _, .cons (v := v0) (vs := vr) hd hr, f => by
    obtain ⟨i1, i2⟩ := RepF.look hr f
    by_cases q : f = k
    · subst q
      refine ⟨fun d h => ?_, fun h => ?_⟩
      · rw [List.lookup_cons_self] at h
        cases h
        exact ⟨v0, List.lookup_cons_self, hd⟩
      · rw [List.lookup_cons_self] at h
        cases h
    · have q' : (f == k) = false := by simpa using q
      have e1 : ∀ (x : D), ((k, x) :: r).lookup f = r.lookup f := fun x => by rw [List.lookup_cons, q']
      have e2 : ((k, v0) :: vr).lookup f = vr.lookup f := by rw [List.lookup_cons, q']
      rw [e1, e2]
      exact ⟨i1, i2⟩
noncomputable def fldO (f : Str) (cs : List Nat) (S : Store) : Option (Nat × List (Str × D)) → R D
  | some (k, fs) => if cs.contains k then (match fs.lookup f with
    | some d => .ok d S
    | none => .bad) else .bad
  | none => .bad
noncomputable def cFld (f : Str) (cs : List Nat) (fe : CE) : Env → M D := fun ds S => bindR (fe ds S) fun w S => fldO f cs S (insW S w)
structure FldF (T : Tx) (f : Str) (cs : List Nat) : Prop where
  at_ : ∀ k ∈ cs, Cls T.K (T.cls k) ∧ NoAttr T.K (T.cls k) f
theorem jd_fld {f : Str} {cs : List Nat} {fe : CE} (lv : Lv T Wx X) (F : FldF T f cs) (h : JB T Wx X e fe) (hb : attributeBase e f X.env (eval e X.env) = eval e X.env := by rfl) : JD T Wx X (.Attribute e f pos) (cFld f cs fe) :=
  PE.imp (pe_fld h hb) fun σ H Q hh_ => by
    obtain ⟨g0, H0, c, g, S, ds, fr, p⟩ := hh_
    have hK := lv.hK
    refine tG.bind (r1 := RB T) (r2 := RD T) mono_d fr p fun w S1 g1 H1 v e1 fr1 rv p1 => ?_
    unfold fldO at p1
    split at p1
    · rename_i k fs hq
      split at p1
      · rename_i hc
        split at p1
        · rename_i d hd
          obtain ⟨a, dx, vs, rfl, ha, rf⟩ := insW_ok fr1.st rv hq
          obtain ⟨v, hv, rd⟩ := (rf.look f).1 d hd
          obtain ⟨q1, q2⟩ := F.at_ k (by simpa using hc)
          exact ⟨a, _, dx, vs, v, rfl, ha, hK ▸ q1, hK ▸ q2, hv, PostG.now (r := RD T H1) p1 fr1.st rd⟩
        · exact p1.elim
      · exact p1.elim
    · exact p1.elim
structure Mt (P : Program) (w : World) (K : PySem.W.Frag) (mg : Str → Option Value) (base : Heap) (T : Tx) (j : Nat) (k : Nat) (m : Str) (np : Nat) (fn : Fn) : Prop where
  ex : ∃ (f : Addr) (fd : FuncData) (ps : List Str), Cls K (T.cls k) ∧ Meth K (T.cls k) m f ∧ ps.length = np ∧ Binds K fd ps [] ∧ FnOk P w K mg base (L2.CX P w) j f fd ps (spF T np fn)
theorem Mt.mono {P : Program} {w : World} {K : PySem.W.Frag} {mg : Str → Option Value} {base : Heap} {i j k : Nat} {m : Str} {np : Nat} {fn : Fn} (d : Mt P w K mg base T i k m np fn) (h : i ≤ j) : Mt P w K mg base T j k m np fn := by
  obtain ⟨f, fd, ps, h1, h2, h3, h4, h5⟩ := d.ex
  exact ⟨f, fd, ps, h1, h2, h3, h4, h5.mono h⟩
noncomputable def tMt (X : Cx) (m : Str) (E : L2.St → XK) (ta : TE) (t : TA) : TE := fun σ H Q => ta σ H fun x H1 => ∃ (a C dx : Addr) (fs : List (Str × V)) (f : Addr) (fd : FuncData) (ps : List Str) (sp : Sp) (j : Nat), x = .ref a ∧ H1 a = some (.ins C dx fs) ∧ fs.lookup m = none ∧ (Cls X.K C ∧ Meth X.K C m f) ∧
  (FnOk X.prog X.w X.K X.mg X.base (L2.CX X.prog X.w) j f fd ps sp ∧ Room j X.A ∧ Binds X.K fd ps []) ∧ t σ H1 fun vs H2 => sp (.ref a :: vs) H2 Q (E σ)
theorem pe_mt0 {m : Str} {E : L2.St → XK} {ta : TE} {apos : Pos} {pl : Sem Bool} (he : PE X o ta) (hx : ∀ σ, PassesAt (L2.CX X.prog X.w) X σ (E σ))
    (ht : eval (.Call (.Attribute o m apos) [] [] pos) X.env = (do
      let ov ← eval o X.env; standAt apos.atName; let (f, first) ← holding [ov] (getMethod ov m pl); callWith pos f first (backTo pos (starEach [] X.env)) (backToKw pos (keywordEach [] X.env)))) :
    PE X (.Call (.Attribute o m apos) [] [] pos) (tMt X m E ta tNil) := by
  constructor
  intro pins s σ H Q I h
  have h1 := he.run pins s σ H _ I h
  refine PySem.W.methodCall_KW (pl := pl) (thn h1 ?_) ht
  rintro u s1 ⟨x, H1, I1, rx, a, C, dx, fs, f, fd, ps, sp, j, rfl, ea, l, ⟨cl, hm⟩, ⟨F, hr, hb⟩, q⟩
  cases (show u = Value.ref a from rx)
  exact getmeth_ok I1 ea cl hm l (PySem.W.callWith_K0 (first := [.ref a]) I1.kIn hm.kp (run_fnS (us := [.ref a]) (vs := [.ref a]) F hr hb (hx σ) I1 (.cons rfl .nil) q))
noncomputable def dispO (m : Str) (disp : Nat → Option Fn) : Option (Nat × List (Str × D)) → Option Fn
  | some (k, fs) => match fs.lookup m with
    | none => disp k
    | some _ => none
  | none => none
noncomputable def cMeth (m : Str) (disp : Nat → Option Fn) (fo : Env → M D) (fs : Env → M (List D)) : CE := fun ds S => bindR (fo ds S) fun d S => match dispO m disp (insW S (.fz d)) with
  | some fn => bindR (fs ds S) fun args S => fn (d :: args) S
  | none => .bad
theorem postF_of {Q : VK} {r : R Wv} (p : PostG T Wx (RW T H) g H σ Q r) : PostF T g H Q (WE Wx σ) r := by
  cases r with
  | ok w2 S2 => exact p
  | ex x2 S2 => exact p
  | bad => exact p
noncomputable def tabF (l : List (Nat × Fn)) : Nat → Option Fn := fun c => l.lookup c
noncomputable def AllF (P : Nat → Fn → Prop) : List (Nat × Fn) → Prop
  | [] => True
  | (c, b) :: r => P c b ∧ AllF P r
theorem tabF_all {P : Nat → Fn → Prop} : ∀ {l : List (Nat × Fn)}, AllF P l → ∀ c b, tabF l c = some b → P c b
  | [], _, _, _, h => nomatch h
  | (c0, b0) :: r, ⟨h1, h2⟩, c, b, h => by
    unfold tabF List.lookup at h
    split at h
    · rename_i q
      cases h
      rw [eq_of_beq q]
      exact h1
    · exact tabF_all h2 c b h
theorem disp_ok {m : Str} {disp : Nat → Option Fn} {d : D} {v : V} {fn : Fn} (rs : RelS T g S H) (r : Rep T g H d v) (h : dispO m disp (insW S (.fz d)) = some fn) : ∃ k a dx vs, v = .ref a ∧ H a = some (.ins (T.cls k) dx vs) ∧ vs.lookup m = none ∧ disp k = some fn := by
  unfold dispO at h
  split at h
  · rename_i k fs hq
    split at h
    · rename_i hl
      obtain ⟨a, dx, vs, e1, e2, e3⟩ := insW_ok (w := .fz d) rs r hq
      exact ⟨k, a, dx, vs, e1, e2, (e3.look m).2 hl, h⟩
    · cases h
  · cases h
theorem je_meth0 {P : Program} {w : World} {mg : Str → Option Value} {base : Heap} {j : Nat} {m : Str} {disp : Nat → Option Fn} {apos : Pos} {pl : Sem Bool} {fo : Env → M D} (B : Bd T mg P w base j Wx X) (hM : ∀ k fn, disp k = some fn → Mt P w T.K mg base T j k m 1 fn)
    (ho : JD T Wx X o fo)
    (ht : eval (.Call (.Attribute o m apos) [] [] pos) X.env = (do
      let ov ← eval o X.env; standAt apos.atName; let (f, first) ← holding [ov] (getMethod ov m pl); callWith pos f first (backTo pos (starEach [] X.env)) (backToKw pos (keywordEach [] X.env))) := by rfl) :
    JE T Wx X (.Call (.Attribute o m apos) [] [] pos) (cMeth m disp fo cNil) :=
  PE.imp (pe_mt0 (E := fun σ => WE Wx σ) ho (fun σ => passAt B.tk σ) ht) fun σ H Q hh_ => by
    obtain ⟨g0, H0, c, g, S, ds, fr, p⟩ := hh_
    have hK := B.hK
    refine tG.bind (r1 := RD T) (r2 := RW T) mono_w fr p fun d S1 g1 H1 v e1 fr1 rv p1 => ?_
    split at p1
    · rename_i fn hd
      obtain ⟨k, a, dx, vs, rfl, ea, l, hk⟩ := disp_ok fr1.st rv hd
      obtain ⟨f, fd, ps, h1, h2, h3, h4, h5⟩ := (hM k fn hk).ex
      refine ⟨a, _, dx, vs, f, fd, ps, spF T 1 fn, j, rfl, ea, l, ⟨hK ▸ h1, hK ▸ h2⟩, ⟨by rw [B.prog, B.wo, hK, B.mg, B.ba]; exact h5, B.rm, hK ▸ h4⟩, ?_⟩
      exact ⟨rfl, g1, S1, [d], fr1.st, .cons rv .nil, postF_of p1⟩
    · exact p1.elim
structure InsF (K : PySem.W.Frag) (C : Addr) : Prop where
  cl : Cls K C
  ha : PySem.W.findIn K (.ref C) "__class__" = some (some (.builtin "object.__class__"))
  hn : PySem.W.specialIn K (.builtin "object.__class__") "__get__" = some (some (.builtin "getset_descriptor.__get__"))
  htk : PySem.W.takesIn K (.builtin "object.__class__") = some true
  hm : PySem.W.mroIn K C (.type "object") = some true
noncomputable def rIsO (K : PySem.W.Frag) (D : Addr) : List V → Hp → VK → Prop := fun xs H Q => ∃ (a C dx : Addr) (fs : List (Str × V)) (b : Bool), xs = [.ref a, .ref D] ∧ H a = some (.ins C dx fs) ∧ InsF K C ∧ PySem.W.kitOne K (.ref C) (.ref D) = some b ∧ Q (.bl b) H
theorem call_isO {D : Addr} : CallR X (.builtin "isinstance") (rIsO X.K D) := by
  rintro pins s σ H xs us Q I r ⟨a, C, dx, fs, b, rfl, ha, F, hk, q⟩
  cases r with
  | cons r1 r2 =>
    obtain ⟨u2, rfl, r3⟩ := Vals.one r2
    cases r3
    exact isinst_ok I r1 (TyOf.ins ha F.cl F.ha F.hn F.htk F.hm) hk fun tk => ⟨.bl b, H, I.tok _, rfl, q⟩
noncomputable def isO (tst : Nat → Option Bool) (S : Store) : Option (Nat × List (Str × D)) → R Wv
  | some (k, _) => match tst k with
    | some b => .ok (.fz (.bl b)) S
    | none => .bad
  | none => .bad
noncomputable def cIsO (tst : Nat → Option Bool) (fe : CE) : CE := fun ds S => bindR (fe ds S) fun w S => isO tst S (insW S w)
theorem je_isO {x : Str} {D : Nat} {tst : Nat → Option Bool} {fe : CE} {px pf : Pos} (lv : Lv T Wx X) (F : ∀ k b, tst k = some b → InsF T.K (T.cls k) ∧ PySem.W.kitOne T.K (.ref (T.cls k)) (.ref (T.cls D)) = some b) (hg : Gl X "isinstance") (hm : X.mg "isinstance" = none) (h : JB T Wx X e fe)
    (hgx : Gl X x) (hmx : X.mg x = some (.ref (T.cls D))) (hd : (x == ("__debug__" : Str)) = false := by decide)
    (he : starEach [e, .Name x px] X.env = (false, eval e X.env) :: starEach [.Name x px] X.env := by rfl) (he2 : starEach [.Name x px] X.env = [(false, eval (.Name x px) X.env)] := by rfl) (hpl : (backTo pos (starEach [.Name x px] X.env)).any (·.1) = false := by rfl) :
    JE T Wx X (.Call (.Name "isinstance" pf) [e, .Name x px] [] pos) (cIsO tst fe) := by
  have hK := lv.hK
  have hc : CallR X (.builtin "isinstance") (rIsO T.K (T.cls D)) := hK ▸ call_isO
  refine PE.imp (pe_callB hc hg hm (by decide +kernel) (pa_cons h (pa_cons (pe_cl hgx hmx hd) pa_nil he2) he) (by decide) (by decide) he hpl) fun σ H Q hh_ => ?_
  obtain ⟨g0, H0, c, g, S, ds, fr, p⟩ := hh_
  refine tG.bind (r1 := RB T) (r2 := RW T) mono_w fr p fun w S1 g1 H1 v e1 fr1 rv p1 => ?_
  unfold isO at p1
  split at p1
  · rename_i k fs hq
    split at p1
    · rename_i b hb
      obtain ⟨a, dx, vs, rfl, ha, _⟩ := insW_ok fr1.st rv hq
      obtain ⟨f1, f2⟩ := F k b hb
      exact ⟨a, _, dx, vs, b, rfl, ha, f1, f2, PostG.now (r := RW T H1) p1 fr1.st (.bl b)⟩
    · exact p1.elim
  · exact p1.elim
end
end Mir
set_option Elab.async false
set_option linter.all false
set_option maxRecDepth 100000
namespace Mir
open PySem PySem.Spec PyProof.Rows L2
noncomputable abbrev FnI := List D → List (Str × D) → Store → R (List (Str × D))
noncomputable abbrev CI := Env → List (Str × D) → Store → R (List (Str × D))
structure Slf (T : Tx) (g : Gh) (H : Hp) (a C dx : Addr) (fl : List (Str × D)) (fv : List (Str × V)) : Prop where
  liv : g.L a
  nio : a ∉ g.io
  obj : H a = some (.ins C dx fv)
  rep : RepF T g H fl fv
theorem RepF.fix0 {T : Tx} {g g' : Gh} {H H' : Hp} (f : Fix g H g' H') {ds : List (Str × D)} {vs : List (Str × V)} (r : RepF T g H ds vs) : RepF T g' H' ds vs := RepF.fix f r
structure ExtB (a : Addr) (g : Gh) (H : Hp) (g' : Gh) (H' : Hp) : Prop where
  pre : ∃ t, g'.io = g.io ++ t
  trk : ∀ b o, H b = some o → ∃ o', H' b = some o'
  liv : ∀ b o, H b = some o → (g'.L b ↔ g.L b)
  kp : ∀ b o, (∀ ps, o ≠ .tbl ps) → H b = some o → b ∉ g.io → b ≠ a → H' b = some o ∧ b ∉ g'.io
noncomputable def PostN (T : Tx) (g : Gh) (H : Hp) (a C dx : Addr) (Q : VK) (E : XK) : R (List (Str × D)) → Prop
  | .ok fl' S' => ∀ g' H' fv', ExtB a g H g' H' → RelS T g' S' H' → Slf T g' H' a C dx fl' fv' → Q .non H'
  | .ex x S' => ∀ g' H' cls d, ExtB a g H g' H' → RelS T g' S' H' → RepX T g' H' x cls d → E cls d H'
  | .bad => False
noncomputable def spI (T : Tx) (np : Nat) (ok : Nat → Bool) (m : FnI) : Sp := fun vs H Q E => vs.length = np + 1 ∧ ∃ g S ds a k dx fl fv vs', vs = .ref a :: vs' ∧ RelS T g S H ∧ Reps T g H ds vs' ∧ Slf T g H a (T.cls k) dx fl fv ∧ ok k = true ∧ PostN T g H a (T.cls k) dx Q E (m ds fl S)
noncomputable def PostNS (T : Tx) (Wx : WX) (g0 : Gh) (H0 : Hp) (c : Chk) (ds : Env) (σ : SV) (a C dx : Addr) (D' : Ends) : R (List (Str × D)) → Prop
  | .ok fl' S' => ∀ g' H' fv', FR T g0 H0 c g' H' S' ds σ → Slf T g' H' a C dx fl' fv' → D'.nx σ H'
  | .ex x S' => ∀ g' H' cls d, FR T g0 H0 c g' H' S' ds σ → ((∃ o, H' a = some o) ∧ g'.L a) → RepX T g' H' x cls d → Wx cls d σ H'
  | .bad => False
noncomputable def tN (T : Tx) (Wx : WX) (ok : Nat → Bool) (f : CI) : TS := fun D' σ H => ∃ g0 H0 c g S ds a k dx fl fv, FR T g0 H0 c g H S ds σ ∧ (σ[0]? = some (some (.ref a)) ∧ (∀ (i : Nat) (so : SO), ds[i]? ≠ some (some (.ow so))) ∧ H0 a = none) ∧ Slf T g H a (T.cls k) dx fl fv ∧ ok k = true ∧ PostNS T Wx g0 H0 c ds σ a (T.cls k) dx D' (f ds fl S)
noncomputable def JN (T : Tx) (Wx : WX) (ok : Nat → Bool) (X : Cx) (s : Stmt) (f : CI) : Prop := PS X s (tN T Wx ok f)
noncomputable def JNs (T : Tx) (Wx : WX) (ok : Nat → Bool) (X : Cx) (s : List Stmt) (f : CI) : Prop := PSs X s (tN T Wx ok f)
noncomputable def iNil : CI := fun _ fl S => .ok fl S
noncomputable def iSeq (a b : CI) : CI := fun ds fl S => bindR (a ds fl S) fun fl S => b ds fl S
noncomputable def putN (f : Str) (d : D) : List (Str × D) → List (Str × D)
  | [] => [(f, d)]
  | (h, x) :: r => if h = f then (h, d) :: r else (h, x) :: putN f d r
noncomputable def iSet (f : Str) (fe : Env → M D) : CI := fun ds fl S => bindR (fe ds S) fun d S => if fl.length < 1000 then .ok (putN f d fl) S else .bad
noncomputable def iDrop (fe : CE) : CI := fun ds fl S => bindR (fe ds S) fun _ S => .ok fl S
noncomputable def iIf (t : Env → M Bool) (a b : CI) : CI := fun ds fl S => bindR (t ds S) fun k S => if k then a ds fl S else b ds fl S
noncomputable def iRaise (c : Nat) : CI := fun _ _ S => .ex (c, none) S
noncomputable def iBase (m : FnI) (fs : Env → M (List D)) : CI := fun ds fl S => bindR (fs ds S) fun args S => m args fl S
section
variable {T : Tx} {Wx : WX} {X : Cx} {e o : Expr} {g g0 g1 : Gh} {H H0 H1 : Hp} {c : Chk} {S S1 : Store} {ds : Env} {σ : SV} {st : Stmt} {rest : List Stmt} {pos : Pos} {f1 : CE} {ok : Nat → Bool} {a C dx : Addr} {fl : List (Str × D)} {fv : List (Str × V)}
theorem RepF.len : ∀ {ds : List (Str × D)} {vs : List (Str × V)}, RepF T g H ds vs → ds.length = vs.length
  | _, _, .nil => rfl
  | _, _, .cons _ r => congrArg (· + 1) (RepF.len r)
theorem RepF.put {f : Str} {d : D} {v : V} (rd : Rep T g H d v) : ∀ {ds : List (Str × D)} {vs : List (Str × V)}, RepF T g H ds vs → RepF T g H (putN f d ds) (putF f v vs)
  | _, _, .nil => .cons rd .nil
  | (k, d0) :: r, _, .cons (v := v0) (vs := vr) hd hr => by
    unfold putN putF
    by_cases q : k = f
    · rw [if_pos q, if_pos q]
      exact .cons rd hr
    · rw [if_neg q, if_neg q]
      exact .cons hd (RepF.put rd hr)
theorem Slf.on {g' : Gh} {H' : Hp} (s : Slf T g H a C dx fl fv) (e1 : Ext g H g' H') (rs : RelS T g S H) : Slf T g' H' a C dx fl fv := by
  obtain ⟨h1, h2⟩ := e1.kp a _ (fun _ z => by cases z) s.obj s.nio
  exact ⟨(e1.liv a _ s.obj).mpr s.liv, h2, h1, s.rep.fix0 (e1.fix rs)⟩
theorem tG.ini {α β : Type} {r : Rl α β} {f : Env → M α} (fr : FR T g0 H0 c g H S ds σ) (sl : Slf T g H a C dx fl fv) {k : α → Store → R (List (Str × D))} {D' : Ends} {Q : β → Hp → Prop} (p : PostNS T Wx g0 H0 c ds σ a C dx D' (bindR (f ds S) k))
    (h : ∀ w S1 g1 H1 v, f ds S = .ok w S1 → Ext g H g1 H1 → FR T g0 H0 c g1 H1 S1 ds σ → r H g1 H1 w v → PostNS T Wx g0 H0 c ds σ a C dx D' (k w S1) → Q v H1) : tG T Wx r f σ H Q := by
  refine ⟨g0, H0, c, g, S, ds, fr, ?_⟩
  cases q : f ds S with
  | ok w S1 =>
    rw [q] at p
    exact fun g1 H1 v e1 rs rv => h w S1 g1 H1 v q e1 (fr.on e1 rs) rv p
  | ex x S1 =>
    rw [q] at p
    exact fun g1 H1 cls d e1 rs rx => p g1 H1 cls d (fr.on e1 rs) ⟨e1.trk a _ sl.obj, (e1.liv a _ sl.obj).mpr sl.liv⟩ rx
  | bad =>
    rw [q] at p
    exact p
theorem jns_nil : JNs T Wx ok X [] iNil := PSs.imp pss_nil fun D' σ H hh_ => by obtain ⟨g0, H0, c, g, S, ds, a, k, dx, fl, fv, fr, s0, sl, hk, p⟩ := hh_; exact p g H fv fr sl
theorem jns_cons {f f' : CI} (h : JN T Wx ok X st f) (h' : JNs T Wx ok X rest f') : JNs T Wx ok X (st :: rest) (iSeq f f') := PSs.imp (pss_cons h h') fun D' σ H hh_ => by
  obtain ⟨g0, H0, c, g, S, ds, a, k, dx, fl, fv, fr, s0, sl, hk, p⟩ := hh_
  refine ⟨g0, H0, c, g, S, ds, a, k, dx, fl, fv, fr, s0, sl, hk, ?_⟩
  unfold iSeq at p
  cases q : f ds fl S with
  | ok fl' S' =>
    rw [q] at p
    exact fun g' H' fv' fr' sl' => ⟨g0, H0, c, g', S', ds, a, k, dx, fl', fv', fr', s0, sl', hk, p⟩
  | ex x S' =>
    rw [q] at p
    exact p
  | bad =>
    rw [q] at p
    exact p
theorem jn_set {f x : Str} {fe : Env → M D} {p pos' : Pos} (lv : Lv T Wx X) (F : ∀ k, ok k = true → Cls T.K (T.cls k) ∧ NoAttr T.K (T.cls k) f) (hN : X.N[0]? = some x) (hv : Vis X.env.scope x) (he : JD T Wx X e fe) (hd : (x == ("__debug__" : Str)) = false := by decide) (hcd : (x == ("__classdict__" : Str)) = false := by decide)
    (hs : swapsWith e (some (.Attribute (.Name x p) f pos')) pos.line X.env = pure false := by rfl) : JN T Wx ok X (.Assign [.Attribute (.Name x p) f pos'] e pos) (iSet f fe) :=
  PS.imp (ps_fld (pe_var (i := 0) hN hv hd hcd) he hs) fun D' σ H hh_ => by
    obtain ⟨g0, H0, c, g, S, ds, a, k, dx, fl, fv, fr, s0, sl, hk, p⟩ := hh_
    have hK := lv.hK
    refine tG.ini (r := RD T) fr sl p fun d S1 g1 H1 v _ e1 fr1 rv p1 => ?_
    split at p1
    · rename_i hl
      have sl1 := sl.on e1 fr.st
      obtain ⟨q1, q2⟩ := F k hk
      refine ⟨.ref a, s0.1, a, _, dx, fv, rfl, sl1.obj, hK ▸ q1, hK ▸ q2, by rw [← sl1.rep.len]; exact hl, ?_⟩
      have fx : Fix g1 H1 g1 (L2.upd H1 a (.ins (T.cls k) dx (putF f v fv))) := fix_upd sl1.liv
      exact p1 g1 _ _ (fr1.upd s0.2.2 sl1.liv sl1.nio (fun u e => by rw [sl1.obj] at e; cases e; exact RepO.plain (T := T) (g := g1) (H := H1) (.ins sl1.rep)) (fun _ z => by cases z) fun i so z => (s0.2.1 i so z).elim) ⟨sl1.liv, sl1.nio, upd_same, (RepF.put rv sl1.rep).fix0 fx⟩
    · exact p1.elim
theorem jn_drop (he : JE T Wx X e f1) (hs : swapsWith e none pos.line X.env = pure false := by rfl) : JN T Wx ok X (.Expr e pos) (iDrop f1) := PS.imp (ps_expr he hs) fun D' σ H hh_ => by
  obtain ⟨g0, H0, c, g, S, ds, a, k, dx, fl, fv, fr, s0, sl, hk, p⟩ := hh_
  exact
    tG.ini (r := RW T) fr sl p fun w S1 g1 H1 v _ e1 fr1 rv p1 => p1 g1 H1 fv fr1 (sl.on e1 fr.st)
theorem jn_if {t : Env → M Bool} {c' : Expr} {ss ss' : List Stmt} {f f' : CI} (ht : JT T Wx X c' t) (ha : JNs T Wx ok X ss f) (hb : JNs T Wx ok X ss' f') : JN T Wx ok X (.If c' ss ss' pos) (iIf t f f') := PS.imp (ps_if ht ha hb) fun D' σ H hh_ => by
  obtain ⟨g0, H0, c, g, S, ds, a, k, dx, fl, fv, fr, s0, sl, hk, p⟩ := hh_
  exact
    tG.ini (r := RT) fr sl p fun b S1 g1 H1 v _ e1 fr1 rv p1 => by
      subst rv
      cases b with
      | true => exact ⟨g0, H0, c, g1, S1, ds, a, k, dx, fl, fv, fr1, s0, sl.on e1 fr.st, hk, p1⟩
      | false => exact ⟨g0, H0, c, g1, S1, ds, a, k, dx, fl, fv, fr1, s0, sl.on e1 fr.st, hk, p1⟩
theorem jn_raise {x m : Str} {k : Nat} {j : Nat} {p p2 pos' : Pos} (lv : Lv T Wx X) (hc : X.calm = true) (F : ExcF T.K X.mg x (T.cls k)) (hg : Gl X x) (hdb : (x == ("__debug__" : Str)) = false := by decide) : JN T Wx ok X (.Raise (some (.Call (.Name x p) [.Constant (.str m) j p2] [] pos')) none pos) (iRaise k) := by
  have hK := lv.hK
  refine PS.imp (ps_raise hc lv.tk (pmk_own PySem.F.excBase_ValueError (hK.symm ▸ F.ex) F.g (hK.symm ▸ F.kp) (raises_own (hK.symm ▸ F.sb) (hK.symm ▸ F.tp)) hg hdb)) fun D' σ H hh_ => ?_
  obtain ⟨g0, H0, c, g, S, ds, a, k', dx, fl, fv, fr, s0, sl, hk, q⟩ := hh_
  exact q g H (.ref (T.cls k)) none fr ⟨⟨_, sl.obj⟩, sl.liv⟩ ⟨rfl, rfl⟩
structure ClA (K : PySem.W.Frag) (C : Addr) (m : Str) (f : Addr) : Prop where
  rd : ClX.CRead K C (.type "type")
  at_ : PySem.W.findCls K (.ref C) (.type "type") m = some (.val (.ref f))
  kp : PySem.W.keepIn K (.ref f) = true
noncomputable def tCl (X : Cx) (sp : Sp) (E : L2.St → XK) (t : TA) : TE := fun σ H Q => t σ H fun vs H1 => sp vs H1 Q (E σ)
theorem pe_cl1 {x m : Str} {C f : Addr} {fd : FuncData} {ps : List Str} {sp : Sp} {j : Nat} {E : L2.St → XK} {t : TA} {p apos : Pos} {es : List Expr} {pl : Sem Bool} (hg : Gl X x) (hm : X.mg x = some (.ref C)) (A : ClA X.K C m f) (F : FnOk X.prog X.w X.K X.mg X.base (L2.CX X.prog X.w) j f fd ps sp) (hr : Room j X.A) (hb : Binds X.K fd ps [])
    (ha : PA X (e :: es) t) (hx : ∀ σ, PassesAt (L2.CX X.prog X.w) X σ (E σ)) (hdb : (x == ("__debug__" : Str)) = false)
    (hs : starEach (e :: es) X.env = (false, eval e X.env) :: starEach es X.env) (hp : (backTo pos (starEach es X.env)).any (·.1) = false)
    (ht : eval (.Call (.Attribute (.Name x p) m apos) (e :: es) [] pos) X.env = (do
      let ov ← eval (.Name x p) X.env; standAt apos.atName; let (f, first) ← holding [ov] (getMethod ov m pl); callWith pos f first (backTo pos (starEach (e :: es) X.env)) (backToKw pos (keywordEach [] X.env)))) :
    PE X (.Call (.Attribute (.Name x p) m apos) (e :: es) [] pos) (tCl X sp E t) := by
  constructor
  intro pins s σ H Q I h
  have kin : PySem.W.Frag.In X.K X.base := I.ok.mod.kin
  refine PySem.W.methodCall_KW (pl := pl) (ld_glob I hg hm ?_ hdb) ht
  refine PySem.W.method_cls I.kIn A.rd.ga (PySem.W.cls_value I.kIn A.rd.rd A.at_ rfl ?_)
  refine PySem.W.callWith_K (first := []) (h₀ := X.base) kin A.kp (thn (ha.run pos pins _ σ H _ (I.tok _) h) ?_) hs hp
  rintro us s2 ⟨vs, H2, I2, r, q2⟩
  exact ⟨I2.kIn, run_fnS F hr hb (hx σ) I2 r q2⟩
end
end Mir
set_option Elab.async false
set_option linter.all false
set_option maxRecDepth 100000
namespace Mir
open PySem PySem.Spec PyProof.Rows L2
noncomputable def startI (n : Nat) (args : List D) : Env := none :: startE (n - 1) args
noncomputable def runI (n : Nat) (m : CI) : FnI := fun args fl S => m (startI n args) fl S
section
variable {T : Tx} {Wx : WX} {X : Cx} {e o : Expr} {g g0 g1 : Gh} {H H0 H1 : Hp} {c : Chk} {S S1 : Store} {ds : Env} {σ : SV} {st : Stmt} {rest : List Stmt} {pos : Pos} {f1 : CE} {ok : Nat → Bool} {a C dx : Addr} {fl : List (Str × D)} {fv : List (Str × V)}
theorem EnvR.cons (r : EnvR T H0 g H ds σ) (x : Option V) : EnvR T H0 g H (none :: ds) (x :: σ) := by
  refine ⟨by rw [List.length_cons, List.length_cons, r.len], fun i d h => ?_, fun i so h => ?_, fun i j so so' a ne h1 h2 h3 h4 => ?_, fun i h => ?_⟩
  · cases i with
    | zero => cases h
    | succ i => exact r.fz i d h
  · cases i with
    | zero => cases h
    | succ i => exact r.ow i so h
  · cases i with
    | zero => cases h1
    | succ i =>
      cases j with
      | zero => cases h2
      | succ j => exact r.ne i j so so' a (fun z => ne (by rw [z])) h1 h2 h3 h4
  · cases i with
    | zero => cases h
    | succ i => exact r.xc i h
theorem start_cons {N : List Str} (hN : 0 < N.length) (v : V) (vs : List V) : L2.start N (v :: vs) = some v :: L2.start N.tail vs := by
  unfold L2.start
  rw [List.map_cons, List.cons_append, List.length_cons, List.length_tail, show N.length - (vs.length + 1) = N.length - 1 - vs.length by omega]
theorem startE_no {n : Nat} {args : List D} : ∀ (i : Nat) (so : SO), (startE n args)[i]? ≠ some (some (.ow so)) := fun i so h => by
  unfold startE at h
  by_cases hi : i < args.length
  · rw [List.getElem?_append_left (by simpa using hi), List.getElem?_map] at h
    cases q : args[i]? with
    | none =>
      rw [q] at h
      cases h
    | some d =>
      rw [q] at h
      cases h
  · rw [List.getElem?_append_right (by simpa using Nat.le_of_not_lt hi), List.getElem?_replicate] at h
    split at h <;> cases h
theorem startI_no {n : Nat} {args : List D} : ∀ (i : Nat) (so : SO), (startI n args)[i]? ≠ some (some (.ow so)) := fun i so h => by
  cases i with
  | zero => cases h
  | succ i => exact startE_no i so h
theorem init_run {P : Program} {w : World} {K : PySem.W.Frag} {mg : Str → Option Value} {base : Heap} {qual : Str} {sc : Scope} {bd : List Stmt} {f : Addr} {N : List Str} {k np : Nat} {m : CI} {T : Tx} (hT : T.K = K) (hl : ∀ a o, ¬ T.lean a o) (hN : 0 < N.length)
    {cdv : Value} {A : Around} {outer : List PySem.Env} {s : Shared} {H : Hp} {vs : List V} {Q : VK} {E : XK}
    (hb : Bd T mg P w base k (fun cls d _ H => E cls d H) (cxOf (L2.CX P w) P w K mg base N qual sc f cdv A outer s H E) →
      JNs T (fun cls d _ H => E cls d H) ok (cxOf (L2.CX P w) P w K mg base N qual sc f cdv A outer s H E) bd m) (hr : Room k (A.deeper (envOfC qual sc s.heap.objs.size f cdv))) (h : spI T np ok (runI N.length m) vs H Q E) :
    ∃ t, PSs (cxOf (L2.CX P w) P w K mg base N qual sc f cdv A outer s H E) bd t ∧ t { nx := fun _ H' => Q .non H', rt := Q } (L2.start N vs) H := by
  have tk : Takes (cxOf (L2.CX P w) P w K mg base N qual sc f cdv A outer s H E) (fun cls d _ H => E cls d H) := takes_of rfl rfl rfl rfl
  have po : PassesOwn (model P w) (A.deeper (envOfC qual sc s.heap.objs.size f cdv)) (envOfC qual sc s.heap.objs.size f cdv) (cxOf (L2.CX P w) P w K mg base N qual sc f cdv A outer s H E).xe :=
    passes_of (X := cxOf (L2.CX P w) P w K mg base N qual sc f cdv A outer s H E) rfl
  refine ⟨_, hb ⟨⟨hT.symm, tk, by have := hr.un; show (A.deeper _).units + 200 < _; omega⟩, rfl, rfl, rfl, rfl, rfl, hr, po⟩, ?_⟩
  obtain ⟨_, g, S, ds, a, k', dx, fl, fv, vs', rfl, rs, rd, sl, hk, p⟩ := h
  have en : EnvR T (L2.del H a) g H (startI N.length ds) (L2.start N (.ref a :: vs')) := by
    rw [start_cons hN]
    refine EnvR.cons ?_ _
    have q := EnvR.start (H0 := L2.del H a) (N := N.tail) rd
    rw [List.length_tail] at q
    exact q
  have dn : ∀ {b : Addr} {o : HO}, L2.del H a b = some o → b ≠ a ∧ H b = some o := fun {b o} z => by
    by_cases hb : b = a
    · rw [hb, del_same] at z
      cases z
    · rw [del_ne hb] at z
      exact ⟨hb, z⟩
  have ex : Ext g (L2.del H a) g H := ⟨⟨[], by simp⟩, fun b o z => ⟨o, (dn z).2⟩, fun b o z => Iff.rfl, fun b o _ z n => ⟨(dn z).2, n⟩⟩
  have back : ∀ {g' : Gh} {H' : Hp}, Ext g (L2.del H a) g' H' → (∃ o, H' a = some o) → (g'.L a) → ExtB a g H g' H' := fun {g' H'} x h1 h2 => by
    have up : ∀ {b : Addr} {o : HO}, H b = some o → b ≠ a → L2.del H a b = some o := fun {b o} z n => by rw [del_ne n]; exact z
    refine ⟨x.pre, fun b o z => ?_, fun b o z => ?_, fun b o nt z n nb => x.kp b o nt (up z nb) n⟩
    · by_cases hb : b = a
      · rw [hb]
        exact h1
      · exact x.trk b o (up z hb)
    · by_cases hb : b = a
      · rw [hb]
        exact ⟨fun _ => sl.liv, fun _ => h2⟩
      · exact x.liv b o (up z hb)
  refine ⟨g, L2.del H a, ⟨fun _ _ => False, []⟩, g, S, startI N.length ds, a, k', dx, fl, fv, ⟨ex, rs, en, fun _ _ z => z.elim, ⟨g.io, rfl⟩, fun b o z => (hl b o z).elim⟩, ⟨by rw [start_cons hN]; rfl, startI_no, del_same⟩, sl, hk, ?_⟩
  unfold runI at p
  cases q : m (startI N.length ds) fl S with
  | ok fl' S' =>
    rw [q] at p
    exact fun g' H' fv' fr' sl' => p g' H' fv' (back fr'.ext ⟨_, sl'.obj⟩ sl'.liv) fr'.st sl'
  | ex x S' =>
    rw [q] at p
    exact fun g' H' cls d fr' sl' rx => p g' H' cls d (back fr'.ext sl'.1 sl'.2) fr'.st rx
  | bad =>
    rw [q] at p
    exact p.elim
theorem init_ok {P : Program} {w : World} {K : PySem.W.Frag} {mg : Str → Option Value} {base : Heap} {x qual : Str} {st : Stmt} {f : Addr} {fd : FuncData} {N ps : List Str} {k np : Nat} {m : CI} (F : Fun K x qual st f fd) (Sc : FnScope N ps (defScope st)) {T : Tx} (hT : T.K = K) (hl : ∀ a o, ¬ T.lean a o) (hps : ps.length = np + 1) (hN : 0 < N.length)
    (hb : ∀ (cdv : Value) (A : Around) (outer : List PySem.Env) (s : Shared) (H : Hp) (E : XK), Bd T mg P w base k (fun cls d _ H => E cls d H) (cxOf (L2.CX P w) P w K mg base N qual (defScope st) f cdv A outer s H E) →
      JNs T (fun cls d _ H => E cls d H) ok (cxOf (L2.CX P w) P w K mg base N qual (defScope st) f cdv A outer s H E) (defBody st) m) :
    FnOk P w K mg base (L2.CX P w) (k + 1) f fd ps (spI T np ok (runI N.length m)) := by
  exact F.okX Sc (fun vs H Q E h => h.1.trans hps.symm) (fun cdv A outer s H vs Q E hr h => init_run hT hl hN (hb cdv A outer s H E) hr h)
theorem ExtB.fix {g' : Gh} {H' : Hp} (x : ExtB a g H g' H') (r : RelS T g S H) (hl : g.L a) : Fix g H g' H' :=
  ⟨x.pre, fun b o h n => ⟨(x.kp b o (fun ps z => n (r.tab.lv b ps (z ▸ h))) h (fun z => n (r.liv b z)) fun z => n (z ▸ hl)).1, fun z => n ((x.liv b o h).mp z)⟩⟩
theorem FR.onB {g' : Gh} {H' : Hp} {S' : Store} (fr : FR T g0 H0 c g H S ds σ) (x : ExtB a g H g' H') (rs : RelS T g' S' H') (h0 : H0 a = none) (no : ∀ (i : Nat) (so : SO), ds[i]? ≠ some (some (.ow so))) (hl : g.L a) : FR T g0 H0 c g' H' S' ds σ := by
  have fx : Fix g H g' H' := x.fix fr.st hl
  have ne : ∀ {b : Addr} {o : HO}, H0 b = some o → b ≠ a := fun {b o} z y => by
    rw [y, h0] at z
    cases z
  refine ⟨⟨?_, fun b o z => ?_, fun b o z => ?_, fun b o nt z n => ?_⟩, rs, ⟨fr.env.len, fun i d h => ?_, fun i so h => (no i so h).elim, fr.env.ne, fr.env.xc⟩, fun b o h => fx.kp b o (fr.fz b o h).1 (fr.fz b o h).2, ?_, fun b o h => fx.kp b o (fr.ln b o h).1 (fr.ln b o h).2⟩
  · obtain ⟨t, e⟩ := fr.ext.pre
    obtain ⟨u, e'⟩ := x.pre
    exact ⟨t ++ u, by rw [e', e, List.append_assoc]⟩
  · obtain ⟨o', z'⟩ := fr.ext.trk b o z
    exact x.trk b o' z'
  · obtain ⟨o', z'⟩ := fr.ext.trk b o z
    exact (x.liv b o' z').trans (fr.ext.liv b o z)
  · obtain ⟨h1, n1⟩ := fr.ext.kp b o nt z n
    exact x.kp b o nt h1 n1 (ne z)
  · obtain ⟨v, hv, rv⟩ := fr.env.fz i d h
    exact ⟨v, hv, rv.fix fx⟩
  · obtain ⟨t, e⟩ := fr.io
    obtain ⟨u, e'⟩ := x.pre
    exact ⟨t ++ u, by rw [e', e, List.append_assoc]⟩
structure Ini (P : Program) (w : World) (K : PySem.W.Frag) (mg : Str → Option Value) (base : Heap) (T : Tx) (j : Nat) (f : Addr) (np : Nat) (ok : Nat → Bool) (m : FnI) : Prop where
  ex : ∃ (fd : FuncData) (ps : List Str), ps.length = np + 1 ∧ Binds K fd ps [] ∧ FnOk P w K mg base (L2.CX P w) j f fd ps (spI T np ok m)
theorem Ini.mono {P : Program} {w : World} {K : PySem.W.Frag} {mg : Str → Option Value} {base : Heap} {i j : Nat} {f : Addr} {np : Nat} {m : FnI} (d : Ini P w K mg base T i f np ok m) (h : i ≤ j) : Ini P w K mg base T j f np ok m := by
  obtain ⟨fd, ps, h1, h2, h3⟩ := d.ex
  exact ⟨fd, ps, h1, h2, h3.mono h⟩
structure Sup (P : Program) (w : World) (K : PySem.W.Frag) (mg : Str → Option Value) (base : Heap) (T : Tx) (j : Nat) (x : Str) (np : Nat) (ok : Nat → Bool) (m : FnI) : Prop where
  ex : ∃ (C f : Addr), mg x = some (.ref C) ∧ ClA K C "__init__" f ∧ Ini P w K mg base T j f np ok m
theorem Sup.mono {P : Program} {w : World} {K : PySem.W.Frag} {mg : Str → Option Value} {base : Heap} {i j : Nat} {x : Str} {np : Nat} {m : FnI} (d : Sup P w K mg base T i x np ok m) (h : i ≤ j) : Sup P w K mg base T j x np ok m := by
  obtain ⟨C, f, h1, h2, h3⟩ := d.ex
  exact ⟨C, f, h1, h2, h3.mono h⟩
theorem jn_base {P : Program} {w : World} {mg : Str → Option Value} {base : Heap} {j np : Nat} {x y : Str} {ok' : Nat → Bool} {m : FnI} {p apos p0 pos' : Pos} {es : List Expr} {pl : Sem Bool} {fs : Env → M (List D)} (B : Bd T mg P w base j Wx X) (U : Sup P w T.K mg base T j x np ok' m) (hok : ∀ k, ok k = true → ok' k = true)
    (hg : Gl X x) (hN : X.N[0]? = some y) (hv : Vis X.env.scope y) (ha : JA T Wx X es fs) (hlen : ∀ ds S args S', fs ds S = .ok args S' → args.length = np) (hd : (y == ("__debug__" : Str)) = false := by decide) (hcd : (y == ("__classdict__" : Str)) = false := by decide) (hdb : (x == ("__debug__" : Str)) = false := by decide)
    (hs : starEach (.Name y p0 :: es) X.env = (false, eval (.Name y p0) X.env) :: starEach es X.env := by rfl) (hp : (backTo pos' (starEach es X.env)).any (·.1) = false := by rfl)
    (ht : eval (.Call (.Attribute (.Name x p) "__init__" apos) (.Name y p0 :: es) [] pos') X.env = (do
      let ov ← eval (.Name x p) X.env; standAt apos.atName; let (f, first) ← holding [ov] (getMethod ov "__init__" pl); callWith pos' f first (backTo pos' (starEach (.Name y p0 :: es) X.env)) (backToKw pos' (keywordEach [] X.env))) := by rfl)
    (hw : swapsWith (.Call (.Attribute (.Name x p) "__init__" apos) (.Name y p0 :: es) [] pos') none pos.line X.env = pure false := by rfl) :
    JN T Wx ok X (.Expr (.Call (.Attribute (.Name x p) "__init__" apos) (.Name y p0 :: es) [] pos') pos) (iBase m fs) := by
  obtain ⟨C, f, h1, A, ⟨fd, ps, h3, h4, h5⟩⟩ := U.ex
  have hK := B.hK
  have hF : FnOk X.prog X.w X.K X.mg X.base (L2.CX X.prog X.w) j f fd ps (spI T np ok' m) := by rw [B.prog, B.wo, hK, B.mg, B.ba]; exact h5
  refine PS.imp (ps_expr (pe_cl1 (E := fun σ => WE Wx σ) (pl := pl) hg (by rw [B.mg]; exact h1) (hK.symm ▸ A) hF B.rm (hK.symm ▸ h4) (pa_cons (pe_var (i := 0) hN hv hd hcd) ha hs) (fun σ => passAt B.tk σ) hdb hs hp ht) hw) fun D' σ H hh_ => ?_
  obtain ⟨g0, H0, c, g, S, ds, a, k, dx, fl, fv, fr, s0, sl, hk, p⟩ := hh_
  refine ⟨.ref a, s0.1, ?_⟩
  refine tG.ini (r := RA T) fr sl p fun args S1 g1 H1 vs ha1 e1 fr1 rv p1 => ?_
  have sl1 := sl.on e1 fr.st
  have hl : vs.length = np := by
    rw [← rv.length]
    exact hlen ds S args S1 ha1
  refine ⟨by rw [List.length_cons, hl], g1, S1, args, a, k, dx, fl, fv, vs, rfl, fr1.st, rv, sl1, hok k hk, ?_⟩
  cases q : m args fl S1 with
  | ok fl' S' =>
    rw [q] at p1
    exact fun g' H' fv' xb rs' sl' => p1 g' H' fv' (fr1.onB xb rs' s0.2.2 s0.2.1 sl1.liv) sl'
  | ex x S' =>
    rw [q] at p1
    exact fun g' H' cls d xb rs' rx => p1 g' H' cls d (fr1.onB xb rs' s0.2.2 s0.2.1 sl1.liv) ⟨xb.trk a _ sl1.obj, (xb.liv a _ sl1.obj).mpr sl1.liv⟩ rx
  | bad =>
    rw [q] at p1
    exact p1
noncomputable def tMk (C : Addr) (sp : Sp) (E : L2.St → XK) (t : TA) : TE := fun σ H Q => t σ H fun vs H1 => ∀ x dx, H1 x = none → H1 dx = none → dx ≠ x → sp (.ref x :: vs) (upd (upd H1 dx (.own x)) x (.ins C dx [])) (fun v H2 => v = .non ∧ Q (.ref x) H2) (E σ)
theorem run_mk {CX : CXT} {k : Nat} {f : Addr} {fd : FuncData} {ps : List Str} {sp : Sp} {E : XK} {pins : List (Addr × Obj)} {s : Shared} {Q : VK} {us : List Value} {vs : List V} (M : L2.Mk X.K C f) (F : FnOk X.prog X.w X.K X.mg X.base CX k f fd ps sp) (hr : Room (k + 1) X.A) (hb : Binds X.K fd ps [])
    (hx : PassesAt CX X σ E) (I : Inv X pins σ H s) (r : Vals vs us) (h : ∀ x dx, H x = none → H dx = none → dx ≠ x → sp (.ref x :: vs) (upd (upd H dx (.own x)) x (.ins C dx [])) (fun v H2 => v = .non ∧ Q (.ref x) H2) E) :
    wpAny (model X.prog X.w) X.A (call (.ref C) us) (EP X pins σ Q) X.xe s := by
  obtain ⟨z, hz⟩ : ∃ z, z = s.heap.objs.size := ⟨_, rfl⟩
  have q := h (z + 1) z (I.hok.fresh (by rw [hz]; exact Nat.le_succ _)) (I.hok.fresh (by rw [hz]; exact Nat.le_refl _)) (Nat.ne_of_lt (Nat.lt_succ_self z))
  have J := Inv.made (C := C) I
  rw [← hz] at J
  have rr : Vals (V.ref (z + 1) :: vs) (Value.ref (z + 1) :: us) := .cons rfl r
  have hl : (Value.ref (z + 1) :: us ++ []).length = ps.length := by
    rw [List.append_nil, ← rr.length]
    exact F.len _ _ _ _ q
  have bd := hb _ (Value.ref (z + 1) :: us) J.kIn hl
  rw [List.append_nil] at bd
  have run := F.run _ X.stack _ _ ⟨Value.ref (z + 1) :: us, []⟩ (Value.ref (z + 1) :: us) _ _ E (hr.make C us []) (J.env0.make C us []) bd rr q
  subst hz
  refine wpAny_call (make_map (f := f) I.kIn M.makes M.init (beq_iff_eq.mp M.fn) (codeAny_mono run fun r s' hq => ?_))
  cases r with
  | error e => exact hx pins _ _ e s' J hq
  | ok fl =>
    cases fl with
    | ret u =>
      obtain ⟨v, H', I3, rv, ev, q3⟩ := J.after hq
      subst ev
      exact ⟨rv, ⟨.ref (s.heap.objs.size + 1), H', I3, rfl, q3⟩⟩
    | next => exact hq.elim
    | brk => exact hq.elim
    | cont => exact hq.elim
theorem pe_mk1 {x : Str} {f : Addr} {fd : FuncData} {ps : List Str} {sp : Sp} {j : Nat} {E : L2.St → XK} {t : TA} {p : Pos} {es : List Expr} (M : L2.Mk X.K C f) (F : FnOk X.prog X.w X.K X.mg X.base (L2.CX X.prog X.w) j f fd ps sp) (hr : Room (j + 1) X.A) (hb : Binds X.K fd ps []) (hg : Gl X x) (hm : X.mg x = some (.ref C))
    (ha : PA X (e :: es) t) (hx : ∀ σ, PassesAt (L2.CX X.prog X.w) X σ (E σ)) (hdb : (x == ("__debug__" : Str)) = false)
    (hs : starEach (e :: es) X.env = (false, eval e X.env) :: starEach es X.env) (hp : (backTo pos (starEach es X.env)).any (·.1) = false) : PE X (.Call (.Name x p) (e :: es) [] pos) (tMk C sp E t) := by
  constructor
  intro pins s σ H Q I h
  have kin : PySem.W.Frag.In X.K X.base := I.ok.mod.kin
  refine wpAny_Call_Name_kw (ld_glob I hg hm ?_ hdb)
  refine PySem.W.callWith_K (h₀ := X.base) kin M.kp (thn (ha.run pos pins s σ H _ I h) ?_) hs hp
  rintro us s1 ⟨vs, H1, I1, r, q⟩
  exact ⟨I1.kIn, run_mk M F hr hb (hx σ) I1 r q⟩
theorem alloc_lv (rs : RelS T g S H) {p : Addr} (hp : H p = none) (ho : HO) (nt : ∀ ps, ho ≠ .tbl ps := by intro _ z; cases z) : ∃ g', Ext g H g' (L2.upd H p ho) ∧ RelS T g' S (L2.upd H p ho) ∧ g'.L p ∧ p ∉ g'.io := by
  have ne : ∀ {b : Addr} {u : HO}, H b = some u → b ≠ p := fun {b u} h z => by
    rw [z, hp] at h
    cases h
  have nio : p ∉ g.io := fresh_io rs hp
  have fx : Fix g H ⟨g.io, fun b => g.L b ∨ b = p⟩ (L2.upd H p ho) := ⟨⟨[], by simp⟩, fun b u h n => ⟨by rw [upd_ne (ne h)]; exact h, fun z => z.elim n (ne h)⟩⟩
  refine ⟨⟨g.io, fun b => g.L b ∨ b = p⟩, ⟨⟨[], by simp⟩, fun b u h => ⟨u, by rw [upd_ne (ne h)]; exact h⟩, fun b u h => ⟨fun z => z.elim id fun q => (ne h q).elim, fun z => .inl z⟩, fun b u _ h n => ⟨by rw [upd_ne (ne h)]; exact h, n⟩⟩,
    ⟨rs.len, rs.nd, fun b hb => .inl (rs.liv b hb), fun n o b h1 h2 => ?_, rs.tab.new hp nt fun b _ l => .inl l⟩, .inr rfl, nio⟩
  obtain ⟨ho', h3, p'⟩ := rs.obj n o b h1 h2
  exact ⟨ho', by rw [upd_ne (ne h3)]; exact h3, p'.fix fx⟩
structure Mkd (P : Program) (w : World) (K : PySem.W.Frag) (mg : Str → Option Value) (base : Heap) (T : Tx) (j : Nat) (x : Str) (k np : Nat) (m : FnI) : Prop where
  ex : ∃ (f : Addr) (ok : Nat → Bool), mg x = some (.ref (T.cls k)) ∧ L2.Mk K (T.cls k) f ∧ ok k = true ∧ Ini P w K mg base T j f np ok m
theorem Mkd.mono {P : Program} {w : World} {K : PySem.W.Frag} {mg : Str → Option Value} {base : Heap} {i j : Nat} {x : Str} {k np : Nat} {m : FnI} (d : Mkd P w K mg base T i x k np m) (h : i ≤ j) : Mkd P w K mg base T j x k np m := by
  obtain ⟨f, ok, h1, h2, h3, h4⟩ := d.ex
  exact ⟨f, ok, h1, h2, h3, h4.mono h⟩
noncomputable def mkO (k : Nat) : R (List (Str × D)) → R Wv
  | .ok fl S => .ok (.ow (.ins k fl)) S
  | .ex x S => .ex x S
  | .bad => .bad
noncomputable def cMk (k : Nat) (m : FnI) (fs : Env → M (List D)) : CE := fun ds S => bindR (fs ds S) fun args S => mkO k (m args [] S)
theorem je_mk {P : Program} {w : World} {mg : Str → Option Value} {base : Heap} {j : Nat} {x : Str} {k np : Nat} {m : FnI} {p : Pos} {es : List Expr} {fs : Env → M (List D)} (B : Bd T mg P w base (j + 1) Wx X) (U : Mkd P w T.K mg base T j x k np m) (hg : Gl X x) (ha : JA T Wx X (e :: es) fs)
    (hlen : ∀ ds S args S', fs ds S = .ok args S' → args.length = np) (hdb : (x == ("__debug__" : Str)) = false := by decide)
    (hs : starEach (e :: es) X.env = (false, eval e X.env) :: starEach es X.env := by rfl) (hp : (backTo pos (starEach es X.env)).any (·.1) = false := by rfl) : JE T Wx X (.Call (.Name x p) (e :: es) [] pos) (cMk k m fs) := by
  obtain ⟨f, ok, h1, h2, h3, ⟨fd, ps, h4, h5, h6⟩⟩ := U.ex
  have hK := B.hK
  have hF : FnOk X.prog X.w X.K X.mg X.base (L2.CX X.prog X.w) j f fd ps (spI T np ok m) := by rw [B.prog, B.wo, hK, B.mg, B.ba]; exact h6
  refine PE.imp (pe_mk1 (E := fun σ => WE Wx σ) (hK.symm ▸ h2) hF B.rm (hK.symm ▸ h5) hg (by rw [B.mg]; exact h1) ha (fun σ => passAt B.tk σ) hdb hs hp) fun σ H Q hh_ => ?_
  obtain ⟨g0, H0, c, g, S, ds, fr, p⟩ := hh_
  refine ⟨g0, H0, c, g, S, ds, fr, ?_⟩
  unfold cMk at p
  cases q : fs ds S with
  | ex x1 S1 =>
    rw [q] at p
    exact p
  | bad =>
    rw [q] at p
    exact p
  | ok args S1 =>
    rw [q] at p
    intro g1 H1 vs e1 rs rv a dx ha hdx ne
    have p2 : PostG T Wx (RW T H1) g1 H1 σ Q (mkO k (m args [] S1)) := PostG.from mono_w e1 p
    obtain ⟨g2, x2, rs2, _, _⟩ := alloc_lv rs hdx (.own a)
    obtain ⟨g3, x3, rs3, hL, hio⟩ := alloc_lv rs2 (p := a) (by rw [upd_ne (Ne.symm ne)]; exact ha) (.ins (T.cls k) dx [])
    have x13 := x2.trans x3
    refine ⟨by rw [List.length_cons, ← rv.length, hlen ds S args S1 q], g3, S1, args, a, k, dx, [], [], vs, rfl, rs3, Reps.fix (x13.fix rs) rv, ⟨hL, hio, upd_same, .nil⟩, h3, ?_⟩
    have toE : ∀ {g' : Gh} {H' : Hp}, ExtB a g3 (upd (upd H1 dx (.own a)) a (.ins (T.cls k) dx [])) g' H' → Ext g1 H1 g' H' := fun {g' H'} xb => by
      have na : ∀ {b : Addr} {o : HO}, H1 b = some o → b ≠ a := fun {b o} z y => by
        rw [y, ha] at z
        cases z
      refine ⟨?_, fun b o z => ?_, fun b o z => ?_, fun b o nt z n => ?_⟩
      · obtain ⟨t, e⟩ := x13.pre
        obtain ⟨u, e'⟩ := xb.pre
        exact ⟨t ++ u, by rw [e', e, List.append_assoc]⟩
      · obtain ⟨o', z'⟩ := x13.trk b o z
        exact xb.trk b o' z'
      · obtain ⟨o', z'⟩ := x13.trk b o z
        exact (xb.liv b o' z').trans (x13.liv b o z)
      · obtain ⟨h1, n1⟩ := x13.kp b o nt z n
        exact xb.kp b o nt h1 n1 (na z)
    cases q2 : m args [] S1 with
    | ok fl S2 =>
      rw [q2] at p2
      exact fun g' H' fv xb rs' sl => ⟨rfl, p2 g' H' _ (toE xb) rs' ⟨a, rfl, ha, sl.liv, sl.nio, _, sl.obj, .ins sl.rep⟩⟩
    | ex x2 S2 =>
      rw [q2] at p2
      exact fun g' H' cls d xb rs' rx => p2 g' H' cls d (toE xb) rs' rx
    | bad =>
      rw [q2] at p2
      exact p2
end
end Mir
set_option Elab.async false
set_option linter.all false
set_option maxRecDepth 100000
namespace Mir
open PySem PySem.Spec PyProof.Rows L2
noncomputable def clsStmt (st : Stmt) (j : Nat) : Stmt := match st with
  | .ClassDef _ _ _ body _ _ _ _ _ _ _ => body.getD j (.Pass ⟨0, 0, 0, 0⟩)
  | _ => .Pass ⟨0, 0, 0, 0⟩
noncomputable def MethFact (K : PySem.W.Frag) (C : Addr) (m qual : Str) (st : Stmt) : Prop := ∃ f fd, Meth K C m f ∧ Fun K m qual st f fd
theorem meth_fact {K : PySem.W.Frag} {C : Addr} {m qual : Str} {st : Stmt} {f : Addr} {oc : Value} {od an : Option Addr} {osl : Array (Option Value)} {kV doc pm cdv ct : Value} (a : PySem.W.findIn K (.ref C) m = some (some (.ref f))) (b : PySem.W.isFn K (.ref f) = true)
    (l : K.lookup f = some ⟨oc, od, .func (PySem.W.fnOf m qual (defArgs st) (defBody st) (defScope st) .none kV doc pm an cdv ct), osl⟩)
    (c : PySem.W.codeIn K cdv qual = true) (k : PySem.W.keepIn K (.ref f) = true) : MethFact K C m qual st := ⟨_, _, ⟨a, b, k⟩, fun_mk l c k⟩
theorem mt_mk {P : Program} {w : World} {K : PySem.W.Frag} {mg : Str → Option Value} {base : Heap} {m qual : Str} {st : Stmt} {N ps : List Str} {j k : Nat} {body : CS} {T : Tx} (hT : T.K = K) (hl : ∀ a o, ¬ T.lean a o) (cl : Cls K (T.cls k)) (F : MethFact K (T.cls k) m qual st) (Sc : FnScope N ps (defScope st))
    (hbi : ∀ (kV doc pm : Value) (an : Option Addr) (cdv ct : Value) (us : List Value), us.length = ps.length → bindArgs (PySem.W.fnOf m qual (defArgs st) (defBody st) (defScope st) .none kV doc pm an cdv ct) ⟨us, []⟩ = pure (ps.zip us))
    (hb : ∀ (f : Addr) (cdv : Value) (A : Around) (outer : List PySem.Env) (s : Shared) (H : Hp) (E : XK), Bd T mg P w base j (fun cls d _ H => E cls d H) (cxOf (L2.CX P w) P w K mg base N qual (defScope st) f cdv A outer s H E) →
      JSs T (fun cls d _ H => E cls d H) (cxOf (L2.CX P w) P w K mg base N qual (defScope st) f cdv A outer s H E) (defBody st) body) :
    Mt P w T.K mg base T (j + 1) k m ps.length (runF N.length body) := by
  obtain ⟨f, fd, a, F⟩ := F
  rw [hT]
  exact ⟨f, fd, ps, cl, a, rfl, F.binds hbi, fn_ok F Sc hT hl (hb f)⟩
noncomputable def InitFact (K : PySem.W.Frag) (C : Addr) (qual : Str) (st : Stmt) : Prop := ∃ f fd, L2.Mk K C f ∧ Fun K "__init__" qual st f fd
theorem init_fact {K : PySem.W.Frag} {C : Addr} {qual : Str} {st : Stmt} {f : Addr} {oc : Value} {od an : Option Addr} {osl : Array (Option Value)} {kV doc pm cdv ct : Value} (m : PySem.W.makesIn K C = true) (a : PySem.W.findIn K (.ref C) "__init__" = some (some (.ref f))) (b : PySem.W.isFn K (.ref f) = true) (kc : PySem.W.keepIn K (.ref C) = true)
    (l : K.lookup f = some ⟨oc, od, .func (PySem.W.fnOf "__init__" qual (defArgs st) (defBody st) (defScope st) .none kV doc pm an cdv ct), osl⟩)
    (c : PySem.W.codeIn K cdv qual = true) (k : PySem.W.keepIn K (.ref f) = true) : InitFact K C qual st := ⟨_, _, ⟨m, a, b, kc⟩, fun_mk l c k⟩
theorem mkd_mk {P : Program} {w : World} {K : PySem.W.Frag} {mg : Str → Option Value} {base : Heap} {x qual : Str} {st : Stmt} {N ps : List Str} {j k np : Nat} {ok : Nat → Bool} {body : CI} {T : Tx} (hT : T.K = K) (hl : ∀ a o, ¬ T.lean a o) (hm : mg x = some (.ref (T.cls k))) (F : InitFact K (T.cls k) qual st) (Sc : FnScope N ps (defScope st)) (hps : ps.length = np + 1) (hN : 0 < N.length) (hok : ok k = true)
    (hbi : ∀ (kV doc pm : Value) (an : Option Addr) (cdv ct : Value) (us : List Value), us.length = ps.length → bindArgs (PySem.W.fnOf "__init__" qual (defArgs st) (defBody st) (defScope st) .none kV doc pm an cdv ct) ⟨us, []⟩ = pure (ps.zip us))
    (hb : ∀ (f : Addr) (cdv : Value) (A : Around) (outer : List PySem.Env) (s : Shared) (H : Hp) (E : XK), Bd T mg P w base j (fun cls d _ H => E cls d H) (cxOf (L2.CX P w) P w K mg base N qual (defScope st) f cdv A outer s H E) →
      JNs T (fun cls d _ H => E cls d H) ok (cxOf (L2.CX P w) P w K mg base N qual (defScope st) f cdv A outer s H E) (defBody st) body) :
    Mkd P w T.K mg base T (j + 1) x k np (runI N.length body) := by
  obtain ⟨f, fd, a, F⟩ := F
  rw [hT]
  exact ⟨f, ok, hm, a, hok, ⟨fd, ps, hps, F.binds hbi, init_ok F Sc hT hl hps hN (hb f)⟩⟩
end Mir
namespace Mir
open PySem PySem.Spec PyProof.Rows L2
theorem fld_nil {T : Tx} {f : Str} : FldF T f [] := ⟨fun _ h => nomatch h⟩
theorem fld_cons {T : Tx} {f : Str} {k : Nat} {cs : List Nat} (h : Cls T.K (T.cls k) ∧ NoAttr T.K (T.cls k) f) (r : FldF T f cs) : FldF T f (k :: cs) := ⟨fun j hj => by
  rcases List.mem_cons.mp hj with rfl | hj
  · exact h
  · exact r.at_ j hj⟩
theorem okc_nil {p : Nat → Prop} : ∀ k, (fun k => ([] : List Nat).contains k) k = true → p k := fun k h => by simp at h
theorem okc_cons {p : Nat → Prop} {k : Nat} {cs : List Nat} (h : p k) (r : ∀ k, (fun k => cs.contains k) k = true → p k) : ∀ j, (fun j => (k :: cs).contains j) j = true → p j := fun j hj => by
  have q : j ∈ k :: cs := by simpa using hj
  rcases List.mem_cons.mp q with rfl | q
  · exact h
  · exact r j (by simpa using q)
end Mir
set_option Elab.async false
set_option linter.all false
set_option maxRecDepth 100000
namespace Mir
open PySem PySem.Spec PyProof.Rows L2
section
variable {T : Tx} {Wx : WX} {X : Cx} {e e2 o : Expr} {g g0 g1 : Gh} {H H0 H1 : Hp} {c : Chk} {S S1 : Store} {ds : Env} {σ : SV} {pos : Pos} {f1 : CE}
noncomputable def seqD : D → Option (List D)
  | .lst xs => some xs
  | .scr ns => some (ns.map D.int)
  | _ => none
noncomputable def zipD (xs ys : List D) : List D := List.zipWith (fun x y => D.tup [x, y]) xs ys
noncomputable def zipO : List D → Store → R (List D)
  | [a, b], S => match seqD a, seqD b with
    | some xs, some ys => .ok (zipD xs ys) S
    | _, _ => .bad
  | _, _ => .bad
noncomputable def cZip (fs : Env → M (List D)) : Env → M (List D) := fun ds S => bindR (fs ds S) fun xs S => zipO xs S
theorem seqD_ok {d : D} {v : V} {xs : List D} (r : Rep T g H d v) (h : seqD d = some xs) : ∃ a vs, v = .ref a ∧ Reps T g H xs vs ∧ ∀ g' H', Held (Chk.now g H) g' H' → SqL T.K H' a vs := by
  cases d with
  | lst ys =>
    cases h
    cases r with
    | lst h1 n1 h2 => exact ⟨_, _, rfl, h2, fun g' H' hh => SqL.of (hh.1 _ _ ⟨h1, n1⟩).1⟩
  | scr ns =>
    cases h
    cases r with
    | scr h1 => exact ⟨_, _, rfl, reps_ints ns, fun g' H' hh => FzL.sq ((Chk.now_fix hh).fzl h1)⟩
  | _ => cases h
noncomputable def blsD : List D → Option (List Bool)
  | [] => some []
  | .bl b :: r => match blsD r with
    | some bs => some (b :: bs)
    | none => none
  | _ :: _ => none
theorem blsD_ok : ∀ {xs : List D} {vs : List V} {bs : List Bool}, Reps T g H xs vs → blsD xs = some bs → vs = bs.map V.bl
  | [], _, _, .nil, h => by
    cases h
    rfl
  | .bl b :: r, _, _, .cons rb rr, h => by
    unfold blsD at h
    split at h
    · rename_i bs' hb
      cases h
      cases rb
      rw [blsD_ok rr hb]
      rfl
    · cases h
noncomputable def bAll : List Wv → M Wv := fun ws S => match ws with
  | [w] => match viewR S w with
    | some xs => match blsD xs with
      | some bs => .ok (.fz (.bl (bs.all id))) S
      | none => .bad
    | none => .bad
  | _ => .bad
theorem v_all : VC T Wx (rAll T.K) bAll := by
  intro g H S σ ws vs Q rs rv p
  unfold bAll at p
  split at p
  · cases rv with
    | cons r1 r2 =>
      cases r2
      split at p
      · rename_i xs hx
        split at p
        · rename_i bs hb
          obtain ⟨a, us, rfl, h1, r⟩ := viewR_ok rs r1 hx
          rw [blsD_ok r hb] at h1
          exact ⟨a, bs, rfl, h1, PostG.now (r := RW T H) p rs (.bl _)⟩
        · exact p.elim
      · exact p.elim
  · exact p.elim
noncomputable def bAbs : List Wv → M Wv := fun ws S => match ws with
  | [.fz (.int i)] => .ok (.fz (.int (if i < 0 then -i else i))) S
  | _ => .bad
noncomputable abbrev tupD (ns : List Int) : D := .tup (ns.map D.int)
theorem intsD_eq : ∀ {xs : List D} {ns : List Int}, intsD xs = some ns → xs = ns.map D.int
  | [], _, h => by
    cases h
    rfl
  | .int i :: r, ns, h => by
    unfold intsD at h
    cases q : intsD r with
    | none =>
      rw [q] at h
      cases h
    | some ms =>
      rw [q] at h
      cases h
      rw [intsD_eq q]
      rfl
end
end Mir
namespace Mir
open PySem PySem.Spec PyProof.Rows L2
end Mir
set_option Elab.async false
set_option linter.all false
set_option maxRecDepth 100000
set_option exponentiation.threshold 100000
namespace Mir
open PySem L2
section
variable {S S' : Store} {ds : Env} {w w1 w2 : Wv} {d : D} {fe : CE} {fd : Env → M D} {fs : Env → M (List D)}
@[simp] theorem s_fld {f : Str} {cs : List Nat} : cFld f cs fe ds S = bindR (fe ds S) fun w S => fldO f cs S (insW S w) := rfl
@[simp] theorem s_ins1 {c : Nat} {fl : List (Str × D)} : insW S (.fz (.ins c fl)) = some (c, fl) := rfl
@[simp] theorem s_ins2 {c : Nat} {fl : List (Str × D)} : insW S (.ow (.ins c fl)) = some (c, fl) := rfl
noncomputable def gotD (o : Option D) (S : Store) : R D := match o with
  | some d => .ok d S
  | none => .bad
@[simp] theorem s_gotD : gotD (some d) S = .ok d S := rfl
@[simp] theorem s_fldO {f : Str} {cs : List Nat} {c : Nat} {fl : List (Str × D)} : fldO f cs S (some (c, fl)) = if cs.contains c then gotD (fl.lookup f) S else .bad := by
  unfold fldO
  dsimp only
  unfold gotD
  cases fl.lookup f <;> rfl
noncomputable def methO (o : Option Fn) (fs : Env → M (List D)) (d : D) (ds : Env) (S : Store) : R Wv := match o with
  | some fn => bindR (fs ds S) fun args S => fn (d :: args) S
  | none => .bad
@[simp] theorem s_meth {m : Str} {disp : Nat → Option Fn} : cMeth m disp fd fs ds S = bindR (fd ds S) fun d S => methO (dispO m disp (insW S (.fz d))) fs d ds S := by
  unfold cMeth methO
  refine congrArg (bindR (fd ds S)) (funext fun d => funext fun S => ?_)
  cases dispO m disp (insW S (.fz d)) <;> rfl
@[simp] theorem s_methO {fn : Fn} : methO (some fn) fs d ds S = bindR (fs ds S) fun args S => fn (d :: args) S := rfl
@[simp] theorem s_disp {m : Str} {disp : Nat → Option Fn} {c : Nat} {fl : List (Str × D)} : dispO m disp (some (c, fl)) = match fl.lookup m with
  | none => disp c
  | some _ => none := rfl
@[simp] theorem s_tabF1 {c : Nat} {fn : Fn} {l : List (Nat × Fn)} : tabF ((c, fn) :: l) c = some fn := by
  unfold tabF List.lookup
  simp
@[simp] theorem s_mk {c : Nat} {m : FnI} : cMk c m fs ds S = bindR (fs ds S) fun args S => mkO c (m args [] S) := rfl
@[simp] theorem s_mkO {c : Nat} {fl : List (Str × D)} : mkO c (.ok fl S) = .ok (.ow (.ins c fl)) S := rfl
@[simp] theorem s_isO {tst : Nat → Option Bool} : cIsO tst fe ds S = bindR (fe ds S) fun w S => isO tst S (insW S w) := rfl
noncomputable def isO2 (o : Option Bool) (S : Store) : R Wv := match o with
  | some b => .ok (.fz (.bl b)) S
  | none => .bad
@[simp] theorem s_isO1 {tst : Nat → Option Bool} {c : Nat} {fl : List (Str × D)} : isO tst S (some (c, fl)) = isO2 (tst c) S := by
  unfold isO isO2
  dsimp only <;> (cases tst c <;> rfl)
@[simp] theorem s_isO2 {b : Bool} : isO2 (some b) S = .ok (.fz (.bl b)) S := rfl
@[simp] theorem s_zip : cZip fs ds S = bindR (fs ds S) fun xs S => zipO xs S := rfl
@[simp] theorem s_zipO {xs ys : List D} : zipO [.lst xs, .lst ys] S = .ok (zipD xs ys) S := rfl
@[simp] theorem s_abs {i : Int} : bAbs [.fz (.int i)] S = .ok (.fz (.int (if i < 0 then -i else i))) S := rfl
noncomputable def allO (o : Option (List Bool)) (S : Store) : R Wv := match o with
  | some bs => .ok (.fz (.bl (bs.all id))) S
  | none => .bad
@[simp] theorem s_all1 {xs : List D} : bAll [.ow (.lst xs)] S = allO (blsD xs) S := rfl
@[simp] theorem s_all2 {xs : List D} : bAll [.fz (.lst xs)] S = allO (blsD xs) S := rfl
@[simp] theorem s_allO {bs : List Bool} : allO (some bs) S = .ok (.fz (.bl (bs.all id))) S := rfl
theorem dVs_ints : ∀ ns : List Int, dVs (ns.map D.int) = some (ns.map V.int)
  | [] => rfl
  | n :: r => by
    rw [List.map_cons, dVs, dVs_ints r]
    rfl
theorem inV_ints (i : Int) : ∀ ns : List Int, inV (.int i) (ns.map V.int) = decide (i ∈ ns)
  | [] => rfl
  | n :: r => by
    have ih := inV_ints i r
    unfold inV at ih ⊢
    rw [List.map_cons, List.any_cons, ih]
    have e : eqV (.int n) (.int i) = decide (n = i) := by
      by_cases h : n = i <;> simp [eqV, h]
    rw [e]
    by_cases h1 : n = i
    · subst h1
      simp
    · have h2 : ¬ i = n := fun z => h1 z.symm
      by_cases h3 : i ∈ r <;> simp [h1, h2, h3]
@[simp] theorem s_inInts {i : Int} {ns : List Int} : inO (dV (.int i)) (dVs (ns.map D.int)) S = .ok (decide (i ∈ ns)) S := by
  rw [dVs_ints]
  show R.ok (inV (.int i) (ns.map V.int)) S = _
  rw [inV_ints]
variable {fl : List (Str × D)}
@[simp] theorem s_iNil : iNil ds fl S = .ok fl S := rfl
@[simp] theorem s_iSeq {a b : CI} : iSeq a b ds fl S = bindR (a ds fl S) fun fl S => b ds fl S := rfl
@[simp] theorem s_iSet {f : Str} : iSet f fd ds fl S = bindR (fd ds S) fun d S => if fl.length < 1000 then .ok (putN f d fl) S else .bad := rfl
end
end Mir
namespace MirR
open PySem L2 Mir
variable {S : Store}
noncomputable def lotF (n s p c : Int) : List (Str × D) := [("number", .int n), ("since", .int s), ("pieces", .int p), ("cost", .int c)]
noncomputable abbrev lotD (k : Nat) (n s p c : Int) : D := .ins k (lotF n s p c)
end MirR
set_option Elab.async false
set_option linter.all false
set_option maxRecDepth 100000
namespace Mir
open PySem PySem.Spec PyProof.Rows L2
section
variable {T : Tx} {Wx : WX} {X : Cx} {e e2 o : Expr} {g g0 g1 : Gh} {H H0 H1 : Hp} {c : Chk} {S S1 : Store} {ds : Env} {σ : SV} {pos : Pos} {tg : Expr} {f1 f2 f3 : CE}
theorem Reps.dropLast {T : Tx} {g : Gh} {H : Hp} {ds : List D} {vs : List V} (r : Reps T g H ds vs) : Reps T g H ds.dropLast vs.dropLast := by
  rw [List.dropLast_eq_take, List.dropLast_eq_take, r.length]
  exact r.take _
noncomputable def cDct0 : CE := fun _ S => .ok (.ow (.dct [])) S
theorem je_dct0 : JE T Wx X (.Dict [] [] pos) cDct0 := PE.imp pe_dnewK fun σ H Q hh_ => by
  obtain ⟨g0, H0, c, g, S, ds, fr, p⟩ := hh_
  intro q hq
  obtain ⟨g2, e2, rs2, rw2⟩ := alloc_ow (so := .dct []) fr.st hq (ho := .dK []) fun g' H' fx => .dct .nil
  exact (show PostG T Wx (RW T H) g H σ Q (.ok (.ow (.dct [])) S) from p) g2 _ _ e2 rs2 rw2
noncomputable def opGet1 : Wv → Wv → M Wv := fun w1 w2 S => match viewK S w1, keyW w2 with
  | some kvs, some k => .ok (.fz ((lkD kvs k).getD .non)) S
  | _, _ => .bad
noncomputable def cGet1 (f1 f2 : CE) : CE := fun ds S => bindR (f1 ds S) fun w1 S => if (viewK S w1).isSome then bindR (f2 ds S) fun w2 S => opGet1 w1 w2 S else .bad
noncomputable def opGet2 (w1 w2 : Wv) (d : D) : M Wv := fun S => match viewK S w1, keyW w2 with
  | some kvs, some k => .ok (.fz ((lkD kvs k).getD d)) S
  | _, _ => .bad
noncomputable def cGet2 (f1 f2 : CE) (f3 : Env → M D) : CE := fun ds S => bindR (f1 ds S) fun w1 S => if (viewK S w1).isSome then bindR (f2 ds S) fun w2 S => bindR (f3 ds S) fun d S => opGet2 w1 w2 d S else .bad
theorem je_get2 {apos cpos : Pos} {f3 : Env → M D} (lv : Lv T Wx X) (m : M2 X o "get" apos e e2 cpos) (ho : JB T Wx X o f1) (he : JB T Wx X e f2) (hf : JD T Wx X e2 f3) : JE T Wx X (.Call (.Attribute o "get" apos) [e, e2] [] cpos) (cGet2 f1 f2 f3) :=
  PE.imp (pe_dget2 (by have := lv.un; omega) ho he hf m) fun σ H Q hh_ => by
    obtain ⟨g0, H0, c, g, S, ds, fr, p⟩ := hh_
    refine tG.bind (r1 := RB T) (r2 := RW T) mono_w fr p fun w1 S1 g1 H1 v1 e1 fr1 rv1 p1 => ?_
    split at p1
    · rename_i hz
      obtain ⟨kvs, hk⟩ := Option.isSome_iff_exists.mp hz
      obtain ⟨a, vs, rfl, h1, r⟩ := viewK_ok fr1.st rv1 hk
      refine ⟨a, rfl, .inl ⟨vs, h1⟩, ?_⟩
      refine tG.bind (r1 := RB T) (r2 := RW T) mono_w fr1 p1 fun w2 S2 g2 H2 v2 e2 fr2 rv2 p2 => ?_
      refine tG.bind (r1 := RD T) (r2 := RW T) mono_w fr2 p2 fun d3 S3 g3 H3 v3 e3 fr3 rv3 p3 => ?_
      unfold opGet2 at p3
      split at p3
      · rename_i kvs2 k q1 q2
        obtain ⟨a', vs2, ea, h2, r2⟩ := viewK_ok fr3.st ((rv1.ext e2 fr1.st).ext e3 fr2.st) q1
        cases ea
        rw [keyW_ok (rv2.ext e3 fr2.st) q2]
        rcases r2.lk (k := k) with ⟨z, zv⟩ | ⟨d', v, z, zv, rv⟩
        · refine ⟨_, DGet.kr h2, ?_⟩
          rw [zv]
          rw [z] at p3
          exact PostG.now (r := RW T H3) p3 fr3.st rv3
        · refine ⟨_, DGet.kr h2, ?_⟩
          rw [zv]
          rw [z] at p3
          exact PostG.now (r := RW T H3) p3 fr3.st rv
      · exact p3.elim
    · exact p1.elim
noncomputable def mPut : Mu := fun so xs => match so, xs with
  | .dct kvs, [k, d] => match keyD k with
    | some k => if szOk (kvs.length + 1) then some (.dct (putD kvs k d), .non) else none
    | none => none
  | _, _ => none
noncomputable def cPut (i : Nat) (fv fk : Env → M D) : CS := fun ds S => liftR (fv ds S) ds fun v S => if slTy i "dict" ds S then liftR (fk ds S) ds fun k S => mutE i mPut [k, v] ds S fun _ ds S => .nx ds S else .bad
end
end Mir
set_option Elab.async false
set_option linter.all false
set_option maxRecDepth 100000
namespace Mir
open PySem PySem.Spec PyProof.Rows L2
section
variable {T : Tx} {Wx : WX} {X : Cx} {e e2 o : Expr} {g g0 g1 : Gh} {H H0 H1 : Hp} {c : Chk} {S S1 : Store} {ds : Env} {σ : SV} {pos : Pos} {tg : Expr} {f1 f2 f3 : CE}
noncomputable def opRev : Wv → M Wv := fun w S => match viewR S w with
  | some xs => .ok (.ow (.lst xs.reverse)) S
  | none => .bad
structure Mk0 (K : PySem.W.Frag) (C : Addr) : Prop where
  makes : PySem.W.makesIn K C = true
  init : PySem.W.findIn K (.ref C) "__init__" = some (some (.builtin "object.__init__"))
  top : PySem.W.mroIn K C (.type "object") = some true
  kp : PySem.W.keepIn K (.ref C) = true
noncomputable def cMk0 (k : Nat) : CE := fun _ S => .ok (.ow (.ins k [])) S
structure BaseI (K : PySem.W.Frag) (C : Addr) : Prop where
  rd : ClX.CRead K C (.type "type")
  at_ : PySem.W.findCls K (.ref C) (.type "type") "__init__" = some (.val (.builtin "ValueError.__init__"))
noncomputable def spEr (C : Addr) (f : Str) : Sp := fun vs H Q _ => ∃ (a : Addr) (i : Int), vs = [.ref a, .int i] ∧ H a = some (exo a C none) ∧ ∀ dx, H dx = none → dx ≠ a → Q .non (upd (upd H dx (exd dx [(f, .int i)])) a (exo a C (some dx)))
structure Erd (P : Program) (w : World) (K : PySem.W.Frag) (mg : Str → Option Value) (base : Heap) (T : Tx) (j : Nat) (x : Str) (k : Nat) (f : Str) : Prop where
  ex : ∃ (fI : Addr) (fd : FuncData) (ps : List Str), mg x = some (.ref (T.cls k)) ∧ OexC K (T.cls k) ∧ PySem.W.findIn K (.ref (T.cls k)) "__init__" = some (some (.ref fI)) ∧ PySem.W.typeIn K (.ref fI) = some (.type "function") ∧ Binds K fd ps [] ∧ FnOk P w K mg base (L2.CX P w) j fI fd ps (spEr (T.cls k) f)
theorem Erd.mono {P : Program} {w : World} {K : PySem.W.Frag} {mg : Str → Option Value} {base : Heap} {i j : Nat} {x : Str} {k : Nat} {f : Str} (d : Erd P w K mg base T i x k f) (h : i ≤ j) : Erd P w K mg base T j x k f := by
  obtain ⟨fI, fd, ps, h1, h2, h3, h4, h5, h6⟩ := d.ex
  exact ⟨fI, fd, ps, h1, h2, h3, h4, h5, h6.mono h⟩
end
end Mir
set_option Elab.async false
set_option linter.all false
set_option maxRecDepth 100000
namespace Mir
open PySem PySem.Spec PyProof.Rows L2
section
variable {T : Tx} {Wx : WX} {X : Cx} {e e2 o : Expr} {g g0 g1 : Gh} {H H0 H1 : Hp} {c : Chk} {S S1 : Store} {ds : Env} {σ : SV} {pos : Pos} {tg : Expr} {f1 f2 f3 : CE}
noncomputable def leD (a b : D) : Bool := !PySem.W.dataLt (toPd b) (toPd a)
noncomputable def alikeAllD (xs : List D) : Bool := xs.all fun a => xs.all fun b => PySem.W.alike (toPd a) (toPd b)
noncomputable def tupAll (xs : List D) : Bool := xs.all fun a => match toPd a with
  | .tuple (_ :: _) => true
  | _ => false
noncomputable def atomAll (xs : List D) : Bool := xs.all fun a => match toPd a with
  | .none => false
  | .tuple _ => false
  | _ => true
noncomputable def okSrt (xs : List D) : Bool := (isPds xs && alikeAllD xs) && ((tupAll xs || atomAll xs) && xs.all fun a => decide ((toPd a).depth < 100))
noncomputable def bSorted : List Wv → M Wv := fun ws S => match ws with
  | [w] => match viewR S w with
    | some xs => if okSrt xs then .ok (.ow (.lst (xs.mergeSort leD))) S else .bad
    | none => .bad
  | _ => .bad
end
end Mir
set_option Elab.async false
set_option linter.all false
set_option maxRecDepth 100000
namespace Mir
open PySem PySem.Spec PyProof.Rows L2
mutual
noncomputable def noLst : D → Bool
  | .lst _ => false
  | .scr _ => false
  | .dct kvs => noLstK kvs
  | .tup xs => noLsts xs
  | .ins _ fs => noLstF fs
  | _ => true
noncomputable def noLsts : List D → Bool
  | [] => true
  | a :: r => noLst a && noLsts r
noncomputable def noLstK : List (Key × D) → Bool
  | [] => true
  | (_, a) :: r => noLst a && noLstK r
noncomputable def noLstF : List (Str × D) → Bool
  | [] => true
  | (_, a) :: r => noLst a && noLstF r
end
section
variable {T : Tx} {Wx : WX} {X : Cx} {e : Expr} {g g0 g1 g' : Gh} {H H0 H1 H' : Hp} {c : Chk} {S S1 : Store} {ds : Env} {σ : SV} {st : Stmt} {a : Addr}
noncomputable abbrev Gh.with (g : Gh) (a : Addr) : Gh := ⟨g.io, fun b => g.L b ∨ b = a⟩
noncomputable abbrev Gh.less (g : Gh) (a : Addr) : Gh := ⟨g.io, fun b => g.L b ∧ b ≠ a⟩
mutual
theorem Rep.back {vs : List V} (ha : H a = some (.lst vs)) : ∀ {d : D} {v : V}, Rep T g H d v → noLst d = true → Rep T (g.with a) H d v
  | _, _, .non, _ => .non
  | _, _, .bl b, _ => .bl b
  | _, _, .int i, _ => .int i
  | _, _, .str x, _ => .str x
  | _, _, .tup h n r, q => .tup h (fun z => z.elim n fun e => by rw [e, ha] at h; cases h) (Reps.back ha r (by rw [noLst] at q; exact q))
  | _, _, .lst _ _ _, q => by simp [noLst] at q
  | _, _, .scr _, q => by simp [noLst] at q
  | _, _, .dct h n r, q => .dct h (fun z => z.elim n fun e => by rw [e, ha] at h; cases h) (RepK.back ha r (by rw [noLst] at q; exact q))
  | _, _, .ins h n r, q => .ins h (fun z => z.elim n fun e => by rw [e, ha] at h; cases h) (RepF.back ha r (by rw [noLst] at q; exact q))
  | _, _, .ref h, _ => .ref h
theorem Reps.back {vs : List V} (ha : H a = some (.lst vs)) : ∀ {ds : List D} {us : List V}, Reps T g H ds us → noLsts ds = true → Reps T (g.with a) H ds us
  | _, _, .nil, _ => .nil
  | _, _, .cons h r, q => by
    rw [noLsts, Bool.and_eq_true] at q
    exact .cons (Rep.back ha h q.1) (Reps.back ha r q.2)
theorem RepK.back {vs : List V} (ha : H a = some (.lst vs)) : ∀ {ds : List (Key × D)} {us : List (Key × V)}, RepK T g H ds us → noLstK ds = true → RepK T (g.with a) H ds us
  | _, _, .nil, _ => .nil
  | _, _, .cons h r, q => by
    rw [noLstK, Bool.and_eq_true] at q
    exact .cons (Rep.back ha h q.1) (RepK.back ha r q.2)
theorem RepF.back {vs : List V} (ha : H a = some (.lst vs)) : ∀ {ds : List (Str × D)} {us : List (Str × V)}, RepF T g H ds us → noLstF ds = true → RepF T (g.with a) H ds us
  | _, _, .nil, _ => .nil
  | _, _, .cons h r, q => by
    rw [noLstF, Bool.and_eq_true] at q
    exact .cons (Rep.back ha h q.1) (RepF.back ha r q.2)
end
theorem Ext.back {vs : List V} (e : Ext (g.less a) H g' H') (ha : H a = some (.lst vs)) (hl : g.L a) : Ext g H (g'.with a) H' := by
  refine ⟨e.pre, e.trk, fun b o hb => ?_, e.kp⟩
  have h := e.liv b o hb
  by_cases q : b = a
  · subst q
    exact ⟨fun _ => hl, fun _ => .inr rfl⟩
  · exact ⟨fun z => (h.mp (z.elim id fun w => (q w).elim)).1, fun z => .inl (h.mpr ⟨z, q⟩)⟩
noncomputable def noLstO : SO → Bool
  | .lst xs => noLsts xs
  | .dct kvs => noLstK kvs
  | .ins _ fs => noLstF fs
noncomputable def noLstS (S : Store) : Bool := S.all noLstO
@[simp] theorem noLstS_nil : noLstS [] = true := rfl
theorem RepO.back {vs : List V} (ha : H a = some (.lst vs)) {o : SO} {ho : HO} (r : RepO T g H o ho) (q : noLstO o = true) : RepO T (g.with a) H o ho := by
  cases r with
  | lst r => exact .lst (Reps.back ha r q)
  | dct r => exact .dct (RepK.back ha r q)
  | ins r => exact .ins (RepF.back ha r q)
theorem RelS.back {vs : List V} (rs : RelS T g S H) (ha : H a = some (.lst vs)) (q : noLstS S = true) : RelS T (g.with a) S H := by
  refine ⟨rs.len, rs.nd, fun b hb => .inl (rs.liv b hb), fun n o b h1 h2 => ?_, rs.tab.ghost fun _ _ _ l => .inl l⟩
  obtain ⟨ho, h3, p⟩ := rs.obj n o b h1 h2
  exact ⟨ho, h3, p.back ha (List.all_eq_true.mp q o (List.mem_of_getElem? h1))⟩
noncomputable def noLstW : Wv → Bool
  | .fz d => noLst d
  | .ow so => noLstO so
  | .xc => false
noncomputable def lendR {α : Type} (ok : α → Bool) : R α → R α
  | .ok w S => if ok w && noLstS S then .ok w S else .bad
  | .ex x S => if noLstS S then .ex x S else .bad
  | .bad => .bad
mutual
noncomputable def noDct : D → Bool
  | .tup xs => noDcts xs
  | .lst xs => noDcts xs
  | .dct _ => false
  | .ins _ fs => noDctF fs
  | _ => true
noncomputable def noDcts : List D → Bool
  | [] => true
  | a :: r => noDct a && noDcts r
noncomputable def noDctF : List (Str × D) → Bool
  | [] => true
  | (_, a) :: r => noDct a && noDctF r
end
noncomputable def noDctK : List (Key × D) → Bool
  | [] => true
  | (_, a) :: r => noDct a && noDctK r
section
variable {od : Obj} {vs : List (Key × V)}
theorem upd_old {u w : HO} {b : Addr} (ha : H a = some u) (h : H b = some w) (n : w ≠ u) (z : HO) : L2.upd H a z b = some w := by
  rw [upd_ne fun e => by rw [e, ha] at h; exact n (Option.some.inj h).symm]
  exact h
mutual
theorem Rep.backK {z : HO} (ha : H a = some (.frz od (.dK vs))) : ∀ {d : D} {v : V}, Rep T g H d v → noDct d = true → Rep T (g.with a) (L2.upd H a z) d v
  | _, _, .non, _ => .non
  | _, _, .bl b, _ => .bl b
  | _, _, .int i, _ => .int i
  | _, _, .str x, _ => .str x
  | _, _, .tup h n r, q => .tup (upd_old ha h (fun e => by cases e) z) (fun z => z.elim n fun e => by rw [e, ha] at h; cases h) (Reps.backK ha r (by rw [noDct] at q; exact q))
  | _, _, .lst h n r, q => .lst (upd_old ha h (fun e => by cases e) z) (fun z => z.elim n fun e => by rw [e, ha] at h; cases h) (Reps.backK ha r (by rw [noDct] at q; exact q))
  | _, _, .scr (.inl ⟨.inl h, n⟩), q => .scr (.inl ⟨.inl (upd_old ha h (fun e => by cases e) z), fun z => z.elim n fun e => by rw [e, ha] at h; cases h⟩)
  | _, _, .scr (.inl ⟨.inr ⟨o, h⟩, n⟩), q => .scr (.inl ⟨.inr ⟨o, upd_old ha h (fun e => by cases e) z⟩, fun z => z.elim n fun e => by rw [e, ha] at h; cases h⟩)
  | _, _, .scr (.inr h), q => .scr (.inr h)
  | _, _, .dct _ _ _, q => by simp [noDct] at q
  | _, _, .ins h n r, q => .ins (upd_old ha h (fun e => by cases e) z) (fun z => z.elim n fun e => by rw [e, ha] at h; cases h) (RepF.backK ha r (by rw [noDct] at q; exact q))
  | _, _, .ref h, _ => .ref h
theorem Reps.backK {z : HO} (ha : H a = some (.frz od (.dK vs))) : ∀ {ds : List D} {us : List V}, Reps T g H ds us → noDcts ds = true → Reps T (g.with a) (L2.upd H a z) ds us
  | _, _, .nil, _ => .nil
  | _, _, .cons h r, q => by
    rw [noDcts, Bool.and_eq_true] at q
    exact .cons (Rep.backK ha h q.1) (Reps.backK ha r q.2)
theorem RepF.backK {z : HO} (ha : H a = some (.frz od (.dK vs))) : ∀ {ds : List (Str × D)} {us : List (Str × V)}, RepF T g H ds us → noDctF ds = true → RepF T (g.with a) (L2.upd H a z) ds us
  | _, _, .nil, _ => .nil
  | _, _, .cons h r, q => by
    rw [noDctF, Bool.and_eq_true] at q
    exact .cons (Rep.backK ha h q.1) (RepF.backK ha r q.2)
end
theorem RepK.backK {z : HO} (ha : H a = some (.frz od (.dK vs))) : ∀ {ds : List (Key × D)} {us : List (Key × V)}, RepK T g H ds us → noDctK ds = true → RepK T (g.with a) (L2.upd H a z) ds us
  | _, _, .nil, _ => .nil
  | _, _, .cons h r, q => by
    rw [noDctK, Bool.and_eq_true] at q
    exact .cons (Rep.backK ha h q.1) (RepK.backK ha r q.2)
end
noncomputable def noDctO : SO → Bool
  | .lst xs => noDcts xs
  | .dct kvs => noDctK kvs
  | .ins _ fs => noDctF fs
noncomputable def noDctS (S : Store) : Bool := S.all noDctO
@[simp] theorem noDctS_nil : noDctS [] = true := rfl
theorem RepO.backK {od : Obj} {vs : List (Key × V)} {z : HO} (ha : H a = some (.frz od (.dK vs))) {o : SO} {ho : HO} (r : RepO T g H o ho) (q : noDctO o = true) : RepO T (g.with a) (L2.upd H a z) o ho := by
  cases r with
  | lst r => exact .lst (Reps.backK ha r q)
  | dct r => exact .dct (RepK.backK ha r q)
  | ins r => exact .ins (RepF.backK ha r q)
theorem RelS.backK {od : Obj} {vs : List (Key × V)} (rs : RelS T g S H) (ha : H a = some (.frz od (.dK vs))) (q : noDctS S = true) : RelS T (g.with a) S (L2.upd H a (.dK vs)) := by
  refine ⟨rs.len, rs.nd, fun b hb => .inl (rs.liv b hb), fun n o b h1 h2 => ?_, rs.tab.upd (fun w e => ?_) (fun ps e => by cases e) fun _ _ l => .inl l⟩
  · obtain ⟨ho, h3, p⟩ := rs.obj n o b h1 h2
    exact ⟨ho, upd_old ha h3 (fun e => by rw [e] at p; cases p) _, p.backK ha (List.all_eq_true.mp q o (List.mem_of_getElem? h1))⟩
  · rw [ha] at e
    cases e
    refine ⟨fun _ z => ?_, fun _ _ z => ?_⟩ <;> first | (cases z; done) | (unfold LamX.CodeO at z; cases z)
noncomputable def lendRK {α : Type} : R α → R α
  | .ok w S => if noDctS S then .ok w S else .bad
  | _ => .bad
end
end Mir
set_option Elab.async false
set_option linter.all false
set_option maxRecDepth 100000
set_option maxHeartbeats 2000000
namespace Mir
open PySem PySem.Spec PyProof.Rows L2
section
variable {X : Cx} {pins : List (Addr × Obj)} {σ : SV} {H : Hp} {s : Shared} {a b : Addr} {E : Value → Shared → Prop}
variable {f : Value} {vs : List Value} {kz : List PyData} {pn : List (Addr × Obj)}
structure Apart (X : Cx) (pins : List (Addr × Obj)) (a b : Addr) : Prop where
  sa : X.s_0.heap.objs.size ≤ a
  sb : X.s_0.heap.objs.size ≤ b
  ne : b ≠ a
  pa : ∀ p ∈ X.pn ++ pins, p.1 ≠ a
  pb : ∀ p ∈ X.pn ++ pins, p.1 ≠ b
structure Keyed (X : Cx) (σ : SV) (f : Value) (vs : List Value) (kz : List PyData) (G : List Value → Hp → Prop) : Prop where
  turn : ∀ (pins' : List (Addr × Obj)) (ks : List Value) (v : Value) (H' : Hp) (s' : Shared), vs[ks.length]? = some v → L2.Inv X pins' σ H' s' → G ks H' →
    wpAny (model X.prog X.w) (X.A.in1.in1) (call f [v]) (fun u s'' => ∃ H'', L2.Inv X pins' σ H'' s'' ∧ G (ks ++ [u]) H'') (fun _ _ => False) s'
  read : ∀ (pins' : List (Addr × Obj)) (ks : List Value) (H' : Hp) (s' : Shared), L2.Inv X pins' σ H' s' → G ks H' → ks.length = vs.length → PySem.W.EachIs (fun v d => ∃ as, Reads s'.heap v d as) ks kz
  al : PySem.W.AllAlike kz
  so : PySem.W.Sortable kz
  un : ∀ d, d ∈ kz → X.A.units + 2 + d.depth < cLine
  len : kz.length = vs.length
end
end Mir
set_option Elab.async false
set_option linter.all false
set_option maxRecDepth 100000
set_option maxHeartbeats 2000000
namespace Mir
open PySem PySem.Spec PyProof.Rows L2
noncomputable def keysK (m : Fn) : List D → Store → R (List D)
  | [], S => .ok [] S
  | x :: r, S => match m [x] S with
    | .ok (.fz d) S1 => match keysK m r S1 with
      | .ok ks S2 => .ok (d :: ks) S2
      | _ => .bad
    | _ => .bad
noncomputable def sortK (ks xs : List D) : List D := ((ks.zip xs).mergeSort fun a b => leD a.1 b.1).map (·.2)
section
variable {T : Tx} {X : Cx} {pins : List (Addr × Obj)} {σ : SV} {g : Gh} {H : Hp} {s : Shared} {S Sf : Store} {m : Fn} {xs ks : List D} {ys : List V} {vs : List Value}
theorem Vals.at : ∀ {ys : List V} {vs : List Value} {i : Nat} {v : Value}, Vals ys vs → vs[i]? = some v → ∃ y, ys[i]? = some y ∧ RelV y v
  | _, _, i, v, .nil, h => by simp at h
  | _, _, 0, v, .cons h1 _, h => by
    cases h
    exact ⟨_, rfl, h1⟩
  | _, _, i + 1, v, .cons _ t, h => by
    rw [List.getElem?_cons_succ] at h ⊢
    exact Vals.at t h
theorem Reps.at {T : Tx} {g : Gh} {H : Hp} : ∀ {xs : List D} {ys : List V} {i : Nat} {y : V}, Reps T g H xs ys → ys[i]? = some y → ∃ x, xs[i]? = some x ∧ Rep T g H x y
  | _, _, i, v, .nil, h => by simp at h
  | _, _, 0, v, .cons h1 _, h => by
    cases h
    exact ⟨_, rfl, h1⟩
  | _, _, i + 1, v, .cons _ t, h => by
    rw [List.getElem?_cons_succ] at h ⊢
    exact Reps.at t h
end
end Mir
set_option Elab.async false
set_option linter.all false
set_option maxRecDepth 100000
set_option maxHeartbeats 2000000
namespace Mir
open PySem PySem.Spec PyProof.Rows L2
noncomputable def srtKO (m : Fn) (xs : List D) (S : Store) : R Wv := match keysK m xs S with
  | .ok ks S1 => if okSrt ks then .ok (.ow (.lst (sortK ks xs))) S1 else .bad
  | _ => .bad
noncomputable def bSortK (m : Fn) : List Wv → M Wv := fun ws S => match ws with
  | [w] => match viewR S w with
    | some xs => srtKO m xs S
    | none => .bad
  | _ => .bad
section
variable {T : Tx} {Wx : WX} {X : Cx} {pins : List (Addr × Obj)} {σ : SV} {g : Gh} {H : Hp} {s : Shared} {S Sf : Store} {m : Fn} {xs ks : List D} {ys : List V} {vs : List Value} {e : Expr} {pos : Pos}
end
end Mir
set_option Elab.async false
set_option linter.all false
set_option maxRecDepth 100000
set_option maxHeartbeats 2000000
namespace Mir
open PySem PySem.Spec PyProof.Rows L2
noncomputable def lt2 (a b c d : Int) : Bool := if a = c then decide (b < d) else decide (a < c)
noncomputable def opLt2 : Wv → Wv → M Bool := fun w1 w2 S => match w1, w2 with
  | .fz (.tup [.int a, .int b]), .fz (.tup [.int c, .int d]) => .ok (lt2 a b c d) S
  | _, _ => .bad
end Mir
set_option Elab.async false
set_option linter.all false
set_option maxRecDepth 100000
set_option maxHeartbeats 4000000
namespace Mir
open PySem PySem.Spec PyProof.Rows L2
noncomputable def insU (k : Int) : List Int → List Int
  | [] => [k]
  | x :: r => if k < x then k :: x :: r else if k = x then x :: r else x :: insU k r
noncomputable def setU (ns : List Int) : List Int := ns.foldr insU []
theorem mem_insU {k j : Int} : ∀ {l : List Int}, j ∈ insU k l ↔ j = k ∨ j ∈ l
  | [] => by simp [insU]
  | x :: r => by
    unfold insU
    by_cases h : k < x
    · simp [h]
    · by_cases h2 : k = x
      · simp [h2]
      · rw [if_neg h, if_neg h2, List.mem_cons, mem_insU (l := r), List.mem_cons]
        constructor
        · rintro (a | a | a)
          · exact .inr (.inl a)
          · exact .inl a
          · exact .inr (.inr a)
        · rintro (a | a | a)
          · exact .inr (.inl a)
          · exact .inl a
          · exact .inr (.inr a)
theorem insU_up {k : Int} : ∀ {l : List Int}, l.Pairwise (· < ·) → (insU k l).Pairwise (· < ·)
  | [], _ => by simp [insU]
  | x :: r, h => by
    obtain ⟨h1, h2⟩ := List.pairwise_cons.mp h
    unfold insU
    by_cases c : k < x
    · rw [if_pos c]
      refine List.pairwise_cons.mpr ⟨fun y hy => ?_, h⟩
      rcases List.mem_cons.mp hy with e | e
      · omega
      · have := h1 y e; omega
    · rw [if_neg c]
      by_cases c2 : k = x
      · rw [if_pos c2]; exact h
      · rw [if_neg c2]
        refine List.pairwise_cons.mpr ⟨fun y hy => ?_, insU_up h2⟩
        rcases mem_insU.mp hy with e | e
        · omega
        · exact h1 y e
theorem setU_up : ∀ ns : List Int, (setU ns).Pairwise (· < ·)
  | [] => List.Pairwise.nil
  | n :: r => insU_up (setU_up r)
theorem mem_setU {j : Int} : ∀ {ns : List Int}, j ∈ setU ns ↔ j ∈ ns
  | [] => by simp [setU]
  | n :: r => by
    show j ∈ insU n (setU r) ↔ _
    rw [mem_insU, mem_setU (ns := r), List.mem_cons]
theorem nodup_len_eq {a b : List Int} (ha : a.Nodup) (hb : b.Nodup) (h : ∀ k, k ∈ a ↔ k ∈ b) : a.length = b.length :=
  ((List.perm_ext_iff_of_nodup ha hb).mpr h).length_eq
theorem up_nodup {a : List Int} (h : a.Pairwise (· < ·)) : a.Nodup := h.imp fun q => by omega
theorem setU_len_nodup {ns : List Int} (h : ns.Nodup) : (setU ns).length = ns.length := nodup_len_eq (up_nodup (setU_up ns)) h fun _ => mem_setU
theorem setU_len_le : ∀ ns : List Int, (setU ns).length ≤ ns.length
  | [] => Nat.le_refl _
  | n :: r => by
    have ins : ∀ l : List Int, (insU n l).length ≤ l.length + 1 := by
      intro l
      induction l with
      | nil => simp [insU]
      | cons x l ih =>
        unfold insU
        by_cases c : n < x
        · simp [c]
        · by_cases c2 : n = x
          · simp [c2]
          · rw [if_neg c, if_neg c2]; simp only [List.length_cons]; omega
    have := setU_len_le r
    have := ins (setU r)
    show (insU n (setU r)).length ≤ _
    simp only [List.length_cons]
    omega
theorem met_mem (f : Nat → Int) : ∀ n k, (firstMet f n).any (· == k) = true ↔ ∃ i, i < n ∧ f i = k
  | 0, k => by
    constructor
    · intro h; exact absurd h (by simp [firstMet])
    · rintro ⟨i, h, _⟩; omega
  | n + 1, k => by
    rw [firstMet_succ]
    unfold step_dedup
    by_cases h : (firstMet f n).any (· == f n) = true
    · rw [if_pos h, met_mem f n k]
      constructor
      · rintro ⟨i, h1, h2⟩; exact ⟨i, by omega, h2⟩
      · rintro ⟨i, h1, h2⟩
        by_cases c : i = n
        · obtain ⟨j, h3, h4⟩ := (met_mem f n (f n)).mp h
          exact ⟨j, h3, by rw [h4, ← h2, c]⟩
        · exact ⟨i, by omega, h2⟩
    · rw [if_neg h, List.any_append, Bool.or_eq_true, met_mem f n k]
      constructor
      · rintro (⟨i, h1, h2⟩ | q)
        · exact ⟨i, by omega, h2⟩
        · exact ⟨n, by omega, by simpa using q⟩
      · rintro ⟨i, h1, h2⟩
        by_cases c : i = n
        · right; rw [← h2, c]; simp
        · left; exact ⟨i, by omega, h2⟩
theorem met_nodup (f : Nat → Int) : ∀ n, (firstMet f n).Nodup
  | 0 => List.nodup_nil
  | n + 1 => by
    rw [firstMet_succ]
    unfold step_dedup
    by_cases h : (firstMet f n).any (· == f n) = true
    · rw [if_pos h]; exact met_nodup f n
    · rw [if_neg h, List.nodup_append]
      refine ⟨met_nodup f n, by simp, fun a ha b hb => ?_⟩
      rw [List.mem_singleton.mp hb]
      intro e
      exact h (List.any_eq_true.mpr ⟨a, ha, by rw [e]; simp⟩)
theorem met_len (ns : List Int) : (firstMet (fun i => ns.getD i 0) ns.length).length = (setU ns).length := by
  refine nodup_len_eq (met_nodup _ _) (up_nodup (setU_up ns)) fun k => ?_
  rw [mem_setU]
  have q := met_mem (fun i => ns.getD i 0) ns.length k
  have e : (firstMet (fun i => ns.getD i 0) ns.length).any (· == k) = true ↔ k ∈ firstMet (fun i => ns.getD i 0) ns.length := by
    rw [List.any_eq_true]
    constructor
    · rintro ⟨x, h1, h2⟩; rw [← (beq_iff_eq.mp h2)]; exact h1
    · intro h; exact ⟨k, h, by simp⟩
  rw [← e, q]
  constructor
  · rintro ⟨i, h1, h2⟩
    have h2 : ns.getD i 0 = k := h2
    rw [List.getD_eq_getElem?_getD, List.getElem?_eq_getElem h1] at h2
    have h2 : ns[i] = k := h2
    exact h2 ▸ List.getElem_mem h1
  · intro h
    obtain ⟨i, h1, h2⟩ := List.getElem_of_mem h
    exact ⟨i, h1, by show ns.getD i 0 = k; rw [List.getD_eq_getElem?_getD, List.getElem?_eq_getElem h1]; exact h2⟩
noncomputable def setLO (S : Store) (w : Wv) : Option (List Int) := match viewR S w with
  | some xs => match intsD xs with
    | some ns => if ns.length < 4000 then some ns else none
    | none => none
  | none => none
noncomputable def opLenSet : Wv → M Wv := fun w S => match setLO S w with
  | some ns => .ok (.fz (.int ((setU ns).length : Nat))) S
  | none => .bad
theorem setLO_ok {T : Tx} {g : Gh} {H : Hp} {S : Store} {w : Wv} {v : V} {ns : List Int} (rs : RelS T g S H) (r : RepB T g H w v) (h : setLO S w = some ns) : ∃ a, v = .ref a ∧ SqL T.K H a (ns.map V.int) ∧ ns.length < 4000 := by
  unfold setLO at h
  split at h
  · rename_i xs hx
    split at h
    · rename_i ms hm
      split at h
      · rename_i hl
        cases h
        obtain ⟨a, vs, rfl, h1, h2⟩ := viewR_ok rs r hx
        have e := intsD_eq hm
        subst e
        have e2 : vs = ns.map V.int := by
          have : ∀ {ms : List Int} {us : List V}, Reps T g H (ms.map D.int) us → us = ms.map V.int := by
            intro ms
            induction ms with
            | nil => intro us q; cases q; rfl
            | cons m r ih => intro us q; cases q with | cons x y => cases x; rw [ih y]; rfl
          exact this h2
        rw [e2] at h1
        exact ⟨a, rfl, h1, hl⟩
      · cases h
    · cases h
  · cases h
section
variable {X : Cx}
noncomputable def tLenSetU (K : PySem.W.Frag) (ta : TE) : TE := fun σ H Q => ta σ H fun x H1 => ∃ (l : Addr) (ns : List Int), x = V.ref l ∧ SqL K H1 l (ns.map V.int) ∧ ns.length < 4000 ∧ Q (.int ((setU ns).length : Nat)) H1
theorem pe_lenSetU {a : Expr} {ta : TE} {p p2 q pos : Pos} (hc : X.calm = true) (hg : Gl X "len") (hm : X.mg "len" = none) (hg2 : Gl X "set") (hm2 : X.mg "set" = none) (ha : PE X a ta)
    (na : starEach [a] X.env = (false, eval a X.env) :: starEach [] X.env := by rfl) : PE X (.Call (.Name "len" p) [.Call (.Name "set" p2) [a] [] q] [] pos) (tLenSetU X.K ta) := by
  refine ⟨fun pins s σ H Q I h => ?_⟩
  refine Call_ (ld_blt I hg hm PySem.boot_len ?_)
  refine PyProof.Rows.callWith_builtin1 (PyProof.Rows.args_cons ?_ rfl) rfl rfl
  refine Call_ (ld_blt I hg2 hm2 PyProof.Rows.boot_set ?_)
  refine PyProof.Rows.callWith_type1 (PyProof.Rows.args_cons (thn (ha.run pins s σ H _ I h) fun v s1 ⟨x, H1, I1, r1, q1⟩ => PyProof.Rows.args_nil ?_) na) na rfl
  obtain ⟨l, ns, rfl, hq, h1, q1⟩ := q1
  cases r1
  obtain ⟨its, r, pl, hz⟩ := I1.list hq
  have hl : its.toArray.size = ns.length := by rw [List.size_toArray, ← r.length, List.length_map]
  refine call_set_list (I1.ok.hd hc) pl.isList (ns := ns) (by simpa using r.ints) (by unfold scanBound; omega) fun h' tk hS hk => ?_
  rw [hl] at hS
  refine PyProof.Rows.args_nil ?_
  have hn2 := met_len ns
  have hle := setU_len_le ns
  obtain ⟨o, es, ep, t, ho, hex, hd, _, _, _, hf, hn⟩ := hS
  have I2 : Inv X pins σ H1 { s1 with heap := h', toks := tk } := I1.kept fun b o e => hk b o (Heap.lt_size e) e
  refine call_len_set ho hex hd hf (by rw [hn] <;> omega) ⟨.int ((setU ns).length : Nat), H1, I2.tok _, ⟨_, by rw [hn, hn2]⟩, q1⟩
end
section
variable {X : Cx}
end
section
variable {T : Tx} {Wx : WX} {X : Cx} {a : Expr} {f1 : CE}
theorem je_lenSet {p p2 q pos : Pos} (lv : Lv T Wx X) (hc : X.calm = true) (hg : Gl X "len") (hm : X.mg "len" = none) (hg2 : Gl X "set") (hm2 : X.mg "set" = none) (ha : JB T Wx X a f1)
    (na : starEach [a] X.env = (false, eval a X.env) :: starEach [] X.env := by rfl) : JE T Wx X (.Call (.Name "len" p) [.Call (.Name "set" p2) [a] [] q] [] pos) (cUn opLenSet f1) :=
  PE.imp (pe_lenSetU hc hg hm hg2 hm2 ha na) fun σ H Q hh_ => by
  obtain ⟨g0, H0, c, g, S, ds, fr, p⟩ := hh_
  refine tG.bind (r1 := RB T) (r2 := RW T) mono_w fr p fun w1 S1 g1 H1 v1 e1 fr1 rv1 p1 => ?_
  unfold opLenSet at p1
  split at p1
  · rename_i ns hx
    obtain ⟨a, rfl, h1, hl⟩ := setLO_ok fr1.st rv1 hx
    exact ⟨a, ns, rfl, by rw [lv.hK]; exact h1, hl, PostG.now (r := RW T H1) p1 fr1.st (.int _)⟩
  · exact p1.elim
end
section
variable {T : Tx} {Wx : WX} {X : Cx} {g : Gh} {H : Hp} {tg : Expr} {pos : Pos}
end
end Mir
set_option Elab.async false
set_option linter.all false
set_option maxRecDepth 100000
set_option maxHeartbeats 2000000
namespace Mir
open PySem PySem.Spec PyProof.Rows L2
mutual
noncomputable def eqD : D → D → Bool
  | .non, b => match b with | .non => true | _ => false
  | .bl a, b => match b with | .bl b => a == b | _ => false
  | .int a, b => match b with | .int b => decide (a = b) | _ => false
  | .str a, b => match b with | .str b => decide (a = b) | _ => false
  | .tup a, b => match b with | .tup b => eqDs a b | _ => false
  | .lst a, b => match b with | .lst b => eqDs a b | _ => false
  | .dct a, b => match b with | .dct b => eqDk a b | _ => false
  | .ins c a, b => match b with | .ins d b => decide (c = d) && eqDf a b | _ => false
  | .ref a, b => match b with | .ref b => decide (a = b) | _ => false
  | .scr a, b => match b with | .scr b => decide (a = b) | _ => false
noncomputable def eqDs : List D → List D → Bool
  | [], b => match b with | [] => true | _ => false
  | a :: r, b => match b with | b :: s => eqD a b && eqDs r s | _ => false
noncomputable def eqDk : List (Key × D) → List (Key × D) → Bool
  | [], b => match b with | [] => true | _ => false
  | (k, a) :: r, b => match b with | (l, b) :: s => decide (k = l) && (eqD a b && eqDk r s) | _ => false
noncomputable def eqDf : List (Str × D) → List (Str × D) → Bool
  | [], b => match b with | [] => true | _ => false
  | (k, a) :: r, b => match b with | (l, b) :: s => decide (k = l) && (eqD a b && eqDf r s) | _ => false
end
mutual
theorem eqD_self : ∀ a : D, eqD a a = true
  | .non => by simp [eqD]
  | .bl a => by simp [eqD]
  | .int a => by simp [eqD]
  | .str a => by simp [eqD]
  | .tup a => by rw [eqD]; exact eqDs_self a
  | .lst a => by rw [eqD]; exact eqDs_self a
  | .dct a => by rw [eqD]; exact eqDk_self a
  | .ins c a => by rw [eqD]; simp [eqDf_self a]
  | .ref a => by simp [eqD]
  | .scr a => by simp [eqD]
theorem eqDs_self : ∀ a : List D, eqDs a a = true
  | [] => by simp [eqDs]
  | a :: r => by rw [eqDs]; simp [eqD_self a, eqDs_self r]
theorem eqDk_self : ∀ a : List (Key × D), eqDk a a = true
  | [] => by simp [eqDk]
  | (k, a) :: r => by rw [eqDk]; simp [eqD_self a, eqDk_self r]
theorem eqDf_self : ∀ a : List (Str × D), eqDf a a = true
  | [] => by simp [eqDf]
  | (k, a) :: r => by rw [eqDf]; simp [eqD_self a, eqDf_self r]
end
mutual
theorem eqD_of : ∀ {a b : D}, eqD a b = true → a = b
  | .non, b, h => by cases b <;> simp_all [eqD]
  | .bl a, b, h => by cases b <;> simp_all [eqD]
  | .int a, b, h => by cases b <;> simp_all [eqD]
  | .str a, b, h => by cases b <;> simp_all [eqD]
  | .ref a, b, h => by cases b <;> simp_all [eqD]
  | .scr a, b, h => by cases b <;> simp_all [eqD]
  | .tup a, b, h => by
    cases b with
    | tup b => rw [eqD] at h; rw [eqDs_of h]
    | _ => simp [eqD] at h
  | .lst a, b, h => by
    cases b with
    | lst b => rw [eqD] at h; rw [eqDs_of h]
    | _ => simp [eqD] at h
  | .dct a, b, h => by
    cases b with
    | dct b => rw [eqD] at h; rw [eqDk_of h]
    | _ => simp [eqD] at h
  | .ins c a, b, h => by
    cases b with
    | ins d b =>
      rw [eqD] at h
      rcases Bool.and_eq_true_iff.mp h with ⟨h1, h2⟩
      rw [of_decide_eq_true h1, eqDf_of h2]
    | _ => simp [eqD] at h
theorem eqDs_of : ∀ {a b : List D}, eqDs a b = true → a = b
  | [], b, h => by
    cases b with
    | nil => rfl
    | cons _ _ => simp [eqDs] at h
  | a :: r, b, h => by
    cases b with
    | nil => simp [eqDs] at h
    | cons b s =>
      rw [eqDs] at h
      rcases Bool.and_eq_true_iff.mp h with ⟨h1, h2⟩
      rw [eqD_of h1, eqDs_of h2]
theorem eqDk_of : ∀ {a b : List (Key × D)}, eqDk a b = true → a = b
  | [], b, h => by
    cases b with
    | nil => rfl
    | cons _ _ => simp [eqDk] at h
  | (k, a) :: r, b, h => by
    cases b with
    | nil => simp [eqDk] at h
    | cons b s =>
      obtain ⟨l, b⟩ := b
      rw [eqDk] at h
      rcases Bool.and_eq_true_iff.mp h with ⟨h1, h2⟩
      rcases Bool.and_eq_true_iff.mp h2 with ⟨h2, h3⟩
      rw [of_decide_eq_true h1, eqD_of h2, eqDk_of h3]
theorem eqDf_of : ∀ {a b : List (Str × D)}, eqDf a b = true → a = b
  | [], b, h => by
    cases b with
    | nil => rfl
    | cons _ _ => simp [eqDf] at h
  | (k, a) :: r, b, h => by
    cases b with
    | nil => simp [eqDf] at h
    | cons b s =>
      obtain ⟨l, b⟩ := b
      rw [eqDf] at h
      rcases Bool.and_eq_true_iff.mp h with ⟨h1, h2⟩
      rcases Bool.and_eq_true_iff.mp h2 with ⟨h2, h3⟩
      rw [of_decide_eq_true h1, eqD_of h2, eqDf_of h3]
end
noncomputable def eqO : SO → SO → Bool
  | .lst a, .lst b => eqDs a b
  | .dct a, .dct b => eqDk a b
  | .ins c a, .ins d b => decide (c = d) && eqDf a b
  | _, _ => false
theorem eqO_self (a : SO) : eqO a a = true := by cases a <;> simp [eqO, eqDs_self, eqDk_self, eqDf_self]
noncomputable def eqSt : Store → Store → Bool
  | [], b => match b with | [] => true | _ => false
  | a :: r, b => match b with | b :: s => eqO a b && eqSt r s | _ => false
@[simp] theorem eqSt_self : ∀ a : Store, eqSt a a = true
  | [] => rfl
  | a :: r => by simp [eqSt, eqO_self a, eqSt_self r]
mutual
noncomputable def lowD (n : Nat) : D → Bool
  | .tup xs => lowDs n xs
  | .lst xs => lowDs n xs
  | .dct xs => lowDk n xs
  | .ins _ xs => lowDf n xs
  | .ref k => decide (k < n)
  | _ => true
noncomputable def lowDs (n : Nat) : List D → Bool
  | [] => true
  | a :: r => lowD n a && lowDs n r
noncomputable def lowDk (n : Nat) : List (Key × D) → Bool
  | [] => true
  | (_, a) :: r => lowD n a && lowDk n r
noncomputable def lowDf (n : Nat) : List (Str × D) → Bool
  | [] => true
  | (_, a) :: r => lowD n a && lowDf n r
end
noncomputable def lowO (n : Nat) : SO → Bool
  | .lst xs => lowDs n xs
  | .dct xs => lowDk n xs
  | .ins _ xs => lowDf n xs
section
variable {T : Tx} {Wx : WX} {X : Cx} {e : Expr} {g g0 g1 g2 g' : Gh} {H H0 H1 H2 H' : Hp} {c : Chk} {S S1 S2 : Store} {ds ds2 : Env} {σ σ2 : SV} {st : Stmt} {a : Addr} {pos : Pos} {tg : Expr}
mutual
theorem Rep.low : ∀ {d : D} {v : V}, Rep T g H d v → lowD g.io.length d = true
  | _, _, .non => rfl
  | _, _, .bl b => rfl
  | _, _, .int i => rfl
  | _, _, .str x => rfl
  | _, _, .tup _ _ r => by rw [lowD]; exact Reps.low r
  | _, _, .lst _ _ r => by rw [lowD]; exact Reps.low r
  | _, _, .scr _ => rfl
  | _, _, .dct _ _ r => by rw [lowD]; exact RepK.low r
  | _, _, .ins _ _ r => by rw [lowD]; exact RepF.low r
  | _, _, .ref h => by rw [lowD]; exact decide_eq_true (List.getElem?_eq_some_iff.mp h).1
theorem Reps.low : ∀ {ds : List D} {us : List V}, Reps T g H ds us → lowDs g.io.length ds = true
  | _, _, .nil => rfl
  | _, _, .cons h r => by rw [lowDs, Rep.low h, Reps.low r]; rfl
theorem RepK.low : ∀ {ds : List (Key × D)} {us : List (Key × V)}, RepK T g H ds us → lowDk g.io.length ds = true
  | _, _, .nil => rfl
  | _, _, .cons h r => by rw [lowDk, Rep.low h, RepK.low r]; rfl
theorem RepF.low : ∀ {ds : List (Str × D)} {us : List (Str × V)}, RepF T g H ds us → lowDf g.io.length ds = true
  | _, _, .nil => rfl
  | _, _, .cons h r => by rw [lowDf, Rep.low h, RepF.low r]; rfl
end
theorem RepO.low {so : SO} {ho : HO} (r : RepO T g H so ho) : lowO g.io.length so = true := by
  cases r with
  | lst r => exact r.low
  | dct r => exact r.low
  | ins r => exact r.low
noncomputable abbrev Gh.pop (g : Gh) (n : Nat) : Gh := ⟨g.io.take n, g.L⟩
mutual
theorem Rep.pop {n : Nat} : ∀ {d : D} {v : V}, Rep T g H d v → lowD n d = true → Rep T (g.pop n) H d v
  | _, _, .non, _ => .non
  | _, _, .bl b, _ => .bl b
  | _, _, .int i, _ => .int i
  | _, _, .str x, _ => .str x
  | _, _, .tup h k r, q => .tup h k (Reps.pop r (by rw [lowD] at q; exact q))
  | _, _, .lst h k r, q => .lst h k (Reps.pop r (by rw [lowD] at q; exact q))
  | _, _, .scr h, _ => .scr h
  | _, _, .dct h k r, q => .dct h k (RepK.pop r (by rw [lowD] at q; exact q))
  | _, _, .ins h k r, q => .ins h k (RepF.pop r (by rw [lowD] at q; exact q))
  | _, _, .ref h, q => .ref (by
    rw [lowD] at q
    show (g.io.take n)[_]? = _
    rw [List.getElem?_take, if_pos (of_decide_eq_true q)]
    exact h)
theorem Reps.pop {n : Nat} : ∀ {ds : List D} {us : List V}, Reps T g H ds us → lowDs n ds = true → Reps T (g.pop n) H ds us
  | _, _, .nil, _ => .nil
  | _, _, .cons h r, q => by
    rw [lowDs, Bool.and_eq_true] at q
    exact .cons (Rep.pop h q.1) (Reps.pop r q.2)
theorem RepK.pop {n : Nat} : ∀ {ds : List (Key × D)} {us : List (Key × V)}, RepK T g H ds us → lowDk n ds = true → RepK T (g.pop n) H ds us
  | _, _, .nil, _ => .nil
  | _, _, .cons h r, q => by
    rw [lowDk, Bool.and_eq_true] at q
    exact .cons (Rep.pop h q.1) (RepK.pop r q.2)
theorem RepF.pop {n : Nat} : ∀ {ds : List (Str × D)} {us : List (Str × V)}, RepF T g H ds us → lowDf n ds = true → RepF T (g.pop n) H ds us
  | _, _, .nil, _ => .nil
  | _, _, .cons h r, q => by
    rw [lowDf, Bool.and_eq_true] at q
    exact .cons (Rep.pop h q.1) (RepF.pop r q.2)
end
theorem RepO.pop {n : Nat} {so : SO} {ho : HO} (r : RepO T g H so ho) (q : lowO n so = true) : RepO T (g.pop n) H so ho := by
  cases r with
  | lst r => exact .lst (r.pop q)
  | dct r => exact .dct (r.pop q)
  | ins r => exact .ins (r.pop q)
theorem Own.pop {n : Nat} {so : SO} (o : Own T H0 g H so a) (q : lowO n so = true) : Own T H0 (g.pop n) H so a := by
  obtain ⟨ho, h1, h2⟩ := o.obj
  exact ⟨o.new, o.liv, fun z => o.nio (List.mem_of_mem_take z), ho, h1, h2.pop q⟩
theorem Ext.pop {n : Nat} (x : Ext g0 H0 g H) (hn : g0.io.length ≤ n) : Ext g0 H0 (g.pop n) H := by
  refine ⟨?_, x.trk, x.liv, fun b o nt h k => ⟨(x.kp b o nt h k).1, fun z => (x.kp b o nt h k).2 (List.mem_of_mem_take z)⟩⟩
  obtain ⟨t, e⟩ := x.pre
  refine ⟨t.take (n - g0.io.length), ?_⟩
  show g.io.take n = _
  rw [e, List.take_append, List.take_of_length_le hn]
theorem RelS.pop (rs : RelS T g (S ++ S1) H) (hl : ∀ so ∈ S, lowO S.length so = true) : RelS T (g.pop S.length) S H := by
  have l : S.length ≤ g.io.length := by rw [rs.len, List.length_append]; omega
  refine ⟨by show (g.io.take _).length = _; rw [List.length_take]; omega, rs.nd.sublist (List.take_sublist _ _), fun b hb => rs.liv b (List.mem_of_mem_take hb), fun n o b h1 h2 => ?_, ⟨rs.tab.lv, rs.tab.ok⟩⟩
  have hn : n < S.length := (List.getElem?_eq_some_iff.mp h1).1
  have h2' : g.io[n]? = some b := by
    have z : (g.io.take S.length)[n]? = some b := h2
    rw [List.getElem?_take, if_pos hn] at z
    exact z
  obtain ⟨ho, h3, p⟩ := rs.obj n o b (by rw [List.getElem?_append_left hn]; exact h1) h2'
  exact ⟨ho, h3, p.pop (hl o (List.mem_of_getElem? h1))⟩
theorem FR.share {i : Nat} {so : SO} (fr : FR T g0 H0 c g H S ds σ) (h : ds[i]? = some (some (.ow so))) (ha : σ[i]? = some (some (.ref a))) :
    FR T g0 H0 ⟨c.fz, g.io ++ [a]⟩ ⟨g.io ++ [a], g.L⟩ H (S ++ [so]) (ds.set i (some (.fz (.ref S.length)))) σ := by
  obtain ⟨a', ha', o⟩ := fr.env.ow i so h
  rw [ha] at ha'
  cases ha'
  obtain ⟨ho, hH, p⟩ := o.obj
  have hi : i < ds.length := (List.getElem?_eq_some_iff.mp h).1
  have fx : Fix g H ⟨g.io ++ [a], g.L⟩ H := ⟨⟨[a], rfl⟩, fun b u hb n => ⟨hb, n⟩⟩
  have gl : g.io.length = S.length := fr.st.len
  refine ⟨⟨?_, fr.ext.trk, fr.ext.liv, fun b u nt hb n => ⟨(fr.ext.kp b u nt hb n).1, fun z => ?_⟩⟩, ⟨by simp [gl], ?_, fun b hb => ?_, fun n so' b h1 h2 => ?_, ⟨fr.st.tab.lv, fr.st.tab.ok⟩⟩,
    ⟨by simpa using fr.env.len, fun j d hj => ?_, fun j so' hj => ?_, fun j k so1 so2 b ne h1 h2 h3 h4 => ?_, fun j hj => ?_⟩, fr.fz, ⟨[], by simp⟩, fr.ln⟩
  · obtain ⟨t, e⟩ := fr.ext.pre
    exact ⟨t ++ [a], by show g.io ++ [a] = _; rw [e, List.append_assoc]⟩
  · rcases List.mem_append.mp z with z | z
    · exact (fr.ext.kp b u nt hb n).2 z
    · rw [List.mem_singleton.mp z, o.new] at hb
      cases hb
  · show (g.io ++ [a]).Nodup
    rw [List.nodup_append]
    exact ⟨fr.st.nd, by simp, fun x hx y hy e => o.nio (by rw [List.mem_singleton.mp hy] at e; rw [← e]; exact hx)⟩
  · rcases List.mem_append.mp hb with hb | hb
    · exact fr.st.liv b hb
    · rw [List.mem_singleton.mp hb]
      exact o.liv
  · by_cases hn : n < S.length
    · rw [List.getElem?_append_left hn] at h1
      have h2' : g.io[n]? = some b := by
        have z : (g.io ++ [a])[n]? = some b := h2
        rw [List.getElem?_append_left (by omega)] at z
        exact z
      obtain ⟨ho', h3, p'⟩ := fr.st.obj n so' b h1 h2'
      exact ⟨ho', h3, p'.fix fx⟩
    · rw [List.getElem?_append_right (by omega)] at h1
      have z : (g.io ++ [a])[n]? = some b := h2
      rw [List.getElem?_append_right (by omega)] at z
      have e : n - S.length = 0 := by
        cases q : n - S.length with
        | zero => rfl
        | succ m => rw [q] at h1; cases h1
      rw [e] at h1
      rw [gl, e] at z
      cases h1
      cases z
      exact ⟨ho, hH, p.fix fx⟩
  · by_cases e : i = j
    · subst e
      rw [List.getElem?_set_self hi] at hj
      cases hj
      refine ⟨_, ha, .ref ?_⟩
      show (g.io ++ [a])[S.length]? = some a
      rw [← gl, List.getElem?_append_right (Nat.le_refl _), Nat.sub_self]
      rfl
    · rw [List.getElem?_set_ne e] at hj
      obtain ⟨v, hv, rv⟩ := fr.env.fz j d hj
      exact ⟨v, hv, rv.fix fx⟩
  · by_cases e : i = j
    · subst e
      rw [List.getElem?_set_self hi] at hj
      cases hj
    · rw [List.getElem?_set_ne e] at hj
      obtain ⟨b, hb, ob⟩ := fr.env.ow j so' hj
      have nb : b ≠ a := fun z => fr.env.ne i j so so' a e h hj ha (z ▸ hb)
      obtain ⟨ho', h3, p'⟩ := ob.obj
      refine ⟨b, hb, ob.new, ob.liv, fun z => ?_, ho', h3, p'.fix fx⟩
      rcases List.mem_append.mp z with z | z
      · exact ob.nio z
      · exact nb (List.mem_singleton.mp z)
  · have f : ∀ {m : Nat} {s : SO}, (ds.set i (some (Wv.fz (.ref S.length))))[m]? = some (some (.ow s)) → ds[m]? = some (some (.ow s)) := fun {m s} q => by
      by_cases e : i = m
      · subst e
        rw [List.getElem?_set_self hi] at q
        cases q
      · rw [List.getElem?_set_ne e] at q
        exact q
    exact fr.env.ne j k so1 so2 b ne (f h1) (f h2) h3 h4
  · by_cases e : i = j
    · subst e
      rw [List.getElem?_set_self hi] at hj
      cases hj
    · rw [List.getElem?_set_ne e] at hj
      exact fr.env.xc j hj
noncomputable def refL (d : D) (S : Store) : Option (Nat × List D) := match d with
  | .ref n => match S[n]? with
    | some (.lst xs) => some (n, xs)
    | _ => none
  | _ => none
noncomputable def sameL (n : Nat) (xs : List D) (S : Store) : Bool := match S[n]? with
  | some (.lst ys) => eqDs xs ys
  | _ => false
theorem sameL_of {n : Nat} {xs : List D} (h : sameL n xs S = true) : S[n]? = some (.lst xs) := by
  unfold sameL at h
  split at h
  · rename_i ys hy
    rw [hy, eqDs_of h]
  · cases h
noncomputable def grd (ck : Store → Bool) (b : CS) : CS := fun ds S => match b ds S with
  | .nx ds2 S2 => if ck S2 then .nx ds2 S2 else .bad
  | .ct ds2 S2 => if ck S2 then .ct ds2 S2 else .bad
  | r => r
noncomputable def cForS (f : Env → M D) (t : Tgt) (b : CS) : CS := fun ds S => liftR (f ds S) ds fun d S => match refL d S with
  | some (n, xs) => forRun t (grd (sameL n xs) b) xs ds S
  | none => .bad
noncomputable def tI2 (T : Tx) (Wx : WX) (f : Env → M D) : TI := fun σ H Rr => ∃ g0 H0 c g S ds, FR T g0 H0 c g H S ds σ ∧ (match f ds S with
  | .ok d S1 => match refL d S1 with
    | some (n, xs) => ∀ g1 H1 a, Ext g H g1 H1 → RelS T g1 S1 H1 → g1.io[n]? = some a → Rr (Itl T.K a) H1
    | none => False
  | .ex x S' => ∀ g' H' cls dx, Ext g H g' H' → RelS T g' S' H' → RepX T g' H' x cls dx → Wx cls dx σ H'
  | .bad => False)
theorem ji_ref {f : Env → M D} (lv : Lv T Wx X) (h : JD T Wx X e f) : PI X tg e (tI2 T Wx f) := PI.imp (pi_list h) fun σ H Rr hh_ => by
  obtain ⟨g0, H0, c, g, S, ds, fr, p⟩ := hh_
  have hK := lv.hK
  refine ⟨g0, H0, c, g, S, ds, fr, ?_⟩
  cases q : f ds S with
  | bad => rw [q] at p; exact p
  | ex x S1 => rw [q] at p; exact p
  | ok d S1 =>
    rw [q] at p
    dsimp only at p
    unfold refL at p
    intro g1 H1 v e1 rs rv
    split at p
    · rename_i n xs hr
      split at hr
      · rename_i m
        split at hr
        · rename_i ys hy
          cases hr
          cases rv with
          | @ref _ a hio =>
            obtain ⟨ho, h1, h2⟩ := rs.obj n _ a hy hio
            cases h2 with
            | lst r =>
              refine ⟨a, rfl, ⟨_, by rw [hK]; exact SqL.of h1⟩, ?_⟩
              rw [hK]
              exact p g1 H1 a e1 rs hio
        · cases hr
      · cases hr
    · exact p.elim
theorem js_forS {f : Env → M D} {t : Tgt} {b : CS} {iter : Expr} {body : List Stmt} (lv : Lv T Wx X) (hc : X.calm = true) (hp : PassesOwn (model X.prog X.w) X.A X.env X.xe) (hi : JD T Wx X iter f) (hg : JG T X tg t) (hb : JSs T Wx X body b)
    (hs : ∀ x, foldedSetIterable iter X.env x = pure x := by intro _; rfl) : JS T Wx X (.For tg iter body [] pos) (cForS f t b) :=
  PS.imp (ps_for hp hc (ji_ref lv hi) hg hb hs) fun D' σ H hh_ => by
    obtain ⟨g0, H0, c, g, S, ds, fr, p⟩ := hh_
    refine ⟨g0, H0, c, g, S, ds, fr, ?_⟩
    unfold cForS at p
    cases q : f ds S with
    | ex x S1 =>
      rw [q] at p
      exact fun g1 H1 cls dx e1 rs rx => p g1 H1 σ cls dx (fr.on e1 rs) rx
    | bad =>
      rw [q] at p
      exact p
    | ok d S1 =>
      rw [q] at p
      dsimp only [liftR] at p ⊢
      cases hr : refL d S1 with
      | none => rw [hr] at p; exact p
      | some nx =>
      obtain ⟨n, items⟩ := nx
      rw [hr] at p
      dsimp only at p ⊢
      have hn : S1[n]? = some (.lst items) := by
        unfold refL at hr
        split at hr
        · split at hr
          · rename_i hy
            cases hr
            exact hy
          · cases hr
        · cases hr
      intro g1 H1 a e1 rs1 hio
      have fr1 := (fr.on e1 rs1).chk (c' := ⟨c.fz, g1.io⟩) (fr.on e1 rs1).fz ⟨[], by simp⟩
      have back : ∀ {g' : Gh} {H' : Hp} {S' : Store} {ds' : Env} {σ' : SV}, FR T g0 H0 ⟨c.fz, g1.io⟩ g' H' S' ds' σ' → FR T g0 H0 c g' H' S' ds' σ' := fun {g' H' S' ds' σ'} f => f.chk f.fz (by
        obtain ⟨t1, h1⟩ := f.io
        obtain ⟨t2, h2⟩ := (fr.on e1 rs1).io
        exact ⟨t2 ++ t1, by rw [h1, h2, List.append_assoc]⟩)
      have at' : ∀ {g' : Gh} {H' : Hp} {S' : Store} {ds' : Env} {σ' : SV}, FR T g0 H0 ⟨c.fz, g1.io⟩ g' H' S' ds' σ' → S'[n]? = some (.lst items) → ∃ vs, H' a = some (.lst vs) ∧ Reps T g' H' items vs := fun {g' H' S' ds' σ'} f hn' => by
        obtain ⟨t1, h1⟩ := f.io
        have hl : n < g1.io.length := (List.getElem?_eq_some_iff.mp hio).1
        obtain ⟨ho, h2, h3⟩ := f.st.obj n _ a hn' (by rw [h1]; exact (List.getElem?_append_left hl).trans hio)
        cases h3 with
        | lst r => exact ⟨_, h2, r⟩
      refine ⟨fun i m σ' H' => m = items.length - i ∧ i ≤ items.length ∧ ∃ g' S' ds', FR T g0 H0 ⟨c.fz, g1.io⟩ g' H' S' ds' σ' ∧ S'[n]? = some (.lst items) ∧ PostS T Wx g0 H0 c D' (forRun t (grd (sameL n items) b) (items.drop i) ds' S'), ⟨items.length, by simp, Nat.zero_le _, g1, S1, ds, fr1, hn, by simpa using p⟩, ?_⟩
      rintro i m σ' H' ⟨rfl, hi', g', S', ds', fr', hn', p'⟩
      obtain ⟨vs, hvs, rvs⟩ := at' fr' hn'
      by_cases hlt : i < items.length
      · obtain ⟨v, hv, rv⟩ := rvs.get (List.getElem?_eq_getElem hlt)
        refine .inr ⟨⟨vs, v, SqL.of hvs, hv⟩, fun σ2 H2 => ∃ g2 S2 ds2, FR T g0 H0 ⟨c.fz, g1.io⟩ g2 H2 S2 ds2 σ2 ∧ S2[n]? = some (.lst items) ∧ PostS T Wx g0 H0 c D' (forRun t (grd (sameL n items) b) (items.drop (i + 1)) ds2 S2), fun σ2 H2 ⟨g2, S2, ds2, fr2, hn2, p2⟩ => ⟨items.length - (i + 1), by omega, rfl, hlt, g2, S2, ds2, fr2, hn2, p2⟩, fun x H2 hy => ?_⟩
        obtain ⟨rfl, q2⟩ := hy
        have e2 := q2 vs (SqL.of hvs)
        rw [hv] at e2
        cases e2
        have p2 := p'
        rw [List.drop_eq_getElem_cons hlt] at p2
        unfold forRun at p2
        split at p2
        · exact p2.elim
        · rename_i ds1 ha
          refine ⟨g0, H0, _, g', S', ds', .fz items[i], ds1, fr', rv, rv, ha, fun σ3 fr3 => ⟨g0, H0, _, g', S', ds1, fr3, ?_⟩⟩
          unfold grd at p2
          cases q3 : b ds1 S' with
          | nx ds3 S3 =>
            rw [q3] at p2
            dsimp only at p2
            by_cases hz : sameL n items S3 = true
            · rw [if_pos hz] at p2
              exact fun g3 H3 σ4 fr4 => ⟨g3, S3, ds3, fr4, sameL_of hz, p2⟩
            · rw [if_neg hz] at p2
              exact p2.elim
          | ct ds3 S3 =>
            rw [q3] at p2
            dsimp only at p2
            by_cases hz : sameL n items S3 = true
            · rw [if_pos hz] at p2
              exact fun g3 H3 σ4 fr4 => ⟨g3, S3, ds3, fr4, sameL_of hz, p2⟩
            · rw [if_neg hz] at p2
              exact p2.elim
          | bk ds3 S3 =>
            rw [q3] at p2
            exact fun g3 H3 σ4 fr4 => p2 g3 H3 σ4 (back fr4)
          | rt w S3 =>
            rw [q3] at p2
            exact p2
          | ex x' ds3 S3 =>
            rw [q3] at p2
            exact fun g3 H3 σ4 cls dx fr4 rx => p2 g3 H3 σ4 cls dx (back fr4) rx
          | bad =>
            rw [q3] at p2
            exact p2
      · have ei : i = items.length := Nat.le_antisymm hi' (Nat.le_of_not_lt hlt)
        subst ei
        refine .inl ⟨⟨vs, SqL.of hvs, by rw [rvs.length]; exact Nat.le_refl _⟩, ?_⟩
        rw [List.drop_length] at p'
        exact p' g' H' σ' (back fr')
noncomputable def opShr : Wv → M Wv := fun w S => match w with
  | .ow so => .ok (.fz (.ref S.length)) (S ++ [so])
  | w => .ok w S
theorem je_shr {f : CE} (h : JE T Wx X e f) : JE T Wx X e (cUn opShr f) := PE.imp h fun σ H Q hh_ => by
  obtain ⟨g0, H0, c, g, S, ds, fr, p⟩ := hh_
  refine ⟨g0, H0, c, g, S, ds, fr, ?_⟩
  unfold cUn at p
  cases q : f ds S with
  | ex x S1 => rw [q] at p; exact p
  | bad => rw [q] at p; exact p
  | ok w S1 =>
    rw [q] at p
    dsimp only [bindR] at p
    intro g' H' v ex rs rw1
    cases w with
    | fz d => exact p g' H' v ex rs rw1
    | xc => exact rw1.elim
    | ow so =>
      obtain ⟨a, ea, o⟩ := rw1
      subst ea
      obtain ⟨ho, hH, pr⟩ := o.obj
      have gl : g'.io.length = S1.length := rs.len
      have fx : Fix g' H' ⟨g'.io ++ [a], g'.L⟩ H' := ⟨⟨[a], rfl⟩, fun b u hb n => ⟨hb, n⟩⟩
      refine p ⟨g'.io ++ [a], g'.L⟩ H' _ ⟨?_, ex.trk, ex.liv, fun b u nt hb n => ⟨(ex.kp b u nt hb n).1, fun z => ?_⟩⟩ ⟨by simp [gl], ?_, fun b hb => ?_, fun n so' b h1 h2 => ?_, ⟨rs.tab.lv, rs.tab.ok⟩⟩ (.ref ?_)
      · obtain ⟨t, e⟩ := ex.pre
        exact ⟨t ++ [a], by show g'.io ++ [a] = _; rw [e, List.append_assoc]⟩
      · rcases List.mem_append.mp z with z | z
        · exact (ex.kp b u nt hb n).2 z
        · rw [List.mem_singleton.mp z, o.new] at hb
          cases hb
      · show (g'.io ++ [a]).Nodup
        rw [List.nodup_append]
        exact ⟨rs.nd, by simp, fun x hx y hy e => o.nio (by rw [List.mem_singleton.mp hy] at e; rw [← e]; exact hx)⟩
      · rcases List.mem_append.mp hb with hb | hb
        · exact rs.liv b hb
        · rw [List.mem_singleton.mp hb]
          exact o.liv
      · by_cases hn : n < S1.length
        · rw [List.getElem?_append_left hn] at h1
          have h2' : g'.io[n]? = some b := by
            have z : (g'.io ++ [a])[n]? = some b := h2
            rw [List.getElem?_append_left (by omega)] at z
            exact z
          obtain ⟨ho', h3, p'⟩ := rs.obj n so' b h1 h2'
          exact ⟨ho', h3, p'.fix fx⟩
        · rw [List.getElem?_append_right (by omega)] at h1
          have z : (g'.io ++ [a])[n]? = some b := h2
          rw [List.getElem?_append_right (by omega)] at z
          have e : n - S1.length = 0 := by
            cases q : n - S1.length with
            | zero => rfl
            | succ m => rw [q] at h1; cases h1
          rw [e] at h1
          rw [gl, e] at z
          cases h1
          cases z
          exact ⟨ho, hH, pr.fix fx⟩
      · show (g'.io ++ [a])[S1.length]? = some a
        rw [← gl, List.getElem?_append_right (Nat.le_refl _), Nat.sub_self]
        rfl
end
end Mir
set_option Elab.async false
set_option linter.all false
set_option maxRecDepth 100000
set_option maxHeartbeats 2000000
namespace Mir
open PySem PySem.Spec PyProof.Rows L2
noncomputable def cErF (fe : Env → M D) : CE := fun ds S => bindR (fe ds S) fun d S => match d with
  | .int i => .ok (.fz (.int i)) S
  | _ => .bad
section
variable {T : Tx} {Wx : WX} {X : Cx} {e : Expr} {pos : Pos}
end
end Mir
set_option Elab.async false
set_option linter.all false
set_option maxRecDepth 100000
set_option maxHeartbeats 2000000
namespace Mir
open PySem PySem.Spec PyProof.Rows L2
noncomputable def mergeD (kvs : List (Key × D)) : List (Key × D) := kvs.foldl (fun acc kv => putD acc kv.1 kv.2) []
section
variable {T : Tx} {Wx : WX} {X : Cx} {e : Expr} {g g0 g1 g' : Gh} {H H0 H1 H' : Hp} {c : Chk} {S S1 : Store} {ds : Env} {σ : SV} {pos : Pos}
theorem merge_rep : ∀ {more : List (Key × D)} {us : List (Key × V)} {kvs : List (Key × D)} {vs : List (Key × V)}, RepK T g H more us → RepK T g H kvs vs → RepK T g H (more.foldl (fun acc kv => putD acc kv.1 kv.2) kvs) (mergeK vs us)
  | _, _, _, _, .nil, r => r
  | (k, d) :: more, (_, v) :: us, kvs, vs, .cons h t, r => by
    show RepK T g H (more.foldl (fun acc kv => putD acc kv.1 kv.2) (putD kvs k d)) (mergeK (putK vs k v) us)
    exact merge_rep t (RepK.put h r)
theorem RepK.len {ds : List (Key × D)} {vs : List (Key × V)} (r : RepK T g H ds vs) : ds.length = vs.length := by
  induction ds generalizing vs with
  | nil => cases r; rfl
  | cons a b ih => cases r with | cons h t => rw [List.length_cons, List.length_cons, ih t]
noncomputable def opUpper : Wv → M Wv := fun w S => match w with
  | .fz (.str z) => if decide (z.length ≤ 5592405) then .ok (.fz (.str (Txt.upper z))) S else .bad
  | _ => .bad
end
end Mir
set_option Elab.async false
set_option linter.all false
set_option maxRecDepth 100000
set_option maxHeartbeats 2000000
namespace Mir
open PySem PySem.Spec PyProof.Rows L2
section
variable {T : Tx} {Wx : WX} {X : Cx} {st : Stmt}
end
noncomputable def mutF (m : Mu) (n : Nat) (args : List D) : M Wv := fun S => match S[n]? with
  | some so => match m so args with
    | some (so', d) => .ok (.fz d) (S.set n so')
    | none => .bad
  | none => .bad
noncomputable def mutX (ty : String) (m : Mu) (fs : M (List D)) (w : Wv) : M Wv := fun S => match w with
  | .fz (.ref n) => match S[n]? with
    | some so => if soTy so == some ty then bindR (fs S) (mutF m n) else .bad
    | none => .bad
  | _ => .bad
noncomputable def cMutX (ty : String) (m : Mu) (f : CE) (fs : Env → M (List D)) : CE := fun ds S => bindR (f ds S) (mutX ty m (fs ds))
section
variable {T : Tx} {Wx : WX} {X : Cx} {g g0 : Gh} {H H0 : Hp} {c : Chk} {S : Store} {ds : Env} {σ : SV}
end
end Mir
set_option Elab.async false
set_option linter.all false
set_option maxRecDepth 100000
set_option maxHeartbeats 2000000
namespace Mir
open PySem PySem.Spec PyProof.Rows L2
noncomputable def refIs (n : Nat) : D → Bool
  | .ref k => decide (k = n)
  | _ => false
noncomputable def lendA (n : Nat) (xs : List D) : List D → Option (List D)
  | [] => some []
  | d :: r => match lendA n xs r with
    | none => none
    | some r' => if refIs n d then some (.lst xs :: r') else if lowD n d then some (d :: r') else none
noncomputable def lendB (n : Nat) (xs : List D) : R Wv → R Wv
  | .ok w S => if decide (S.length = n) && (noLstW w && noLstS S) then .ok w (S ++ [.lst xs]) else .bad
  | _ => .bad
noncomputable def callR (m : Fn) (args : List D) : M Wv := fun S => match S.getLast? with
  | some (.lst xs) => match lendA S.dropLast.length xs args with
    | some args' => if lowDs S.dropLast.length xs && (noLsts xs && S.dropLast.all (lowO S.dropLast.length)) then lendB S.dropLast.length xs (m args' S.dropLast) else .bad
    | none => .bad
  | _ => .bad
noncomputable def cCallR (m : Fn) (fs : Env → M (List D)) : CE := fun ds S => bindR (fs ds S) (callR m)
section
variable {T : Tx} {Wx : WX} {X : Cx} {e : Expr} {g g0 g1 g2 g' : Gh} {H H0 H1 H2 H' : Hp} {c : Chk} {S S0 S1 S2 : Store} {ds ds2 : Env} {σ σ2 : SV} {st : Stmt} {a : Addr} {pos : Pos}
theorem fix_less : Fix g H (g.less a) H := ⟨⟨[], by simp⟩, fun b u hb n => ⟨hb, fun z => n z.1⟩⟩
theorem lendA_ok {n : Nat} {xs : List D} {us : List V} (hio : g.io[n]? = some a) (ha : H a = some (.lst us)) (rx : Reps T ((g.pop n).less a) H xs us) : ∀ {args : List D} {vs : List V} {args' : List D}, Reps T g H args vs → lendA n xs args = some args' → Reps T ((g.pop n).less a) H args' vs ∧ args'.length = args.length
  | _, _, _, .nil, h => by
    cases h
    exact ⟨.nil, rfl⟩
  | d :: r, _, _, .cons r1 r2, h => by
    unfold lendA at h
    cases q : lendA n xs r with
    | none =>
      rw [q] at h
      cases h
    | some r' =>
      rw [q] at h
      dsimp only at h
      obtain ⟨i1, i2⟩ := lendA_ok hio ha rx r2 q
      split at h
      · rename_i z
        cases h
        refine ⟨.cons ?_ i1, by simp [i2]⟩
        cases r1 with
        | @ref k b hb =>
          have e : k = n := of_decide_eq_true z
          subst e
          rw [hio] at hb
          cases hb
          exact .lst ha (fun z => z.2 rfl) rx
        | _ => cases z
      · split at h
        · rename_i z
          cases h
          exact ⟨.cons ((r1.pop z).fix fix_less) i1, by simp [i2]⟩
        · cases h
theorem last_split {so : SO} (h : S.getLast? = some so) : S = S.dropLast ++ [so] := by
  have hn : S ≠ [] := fun z => by rw [z] at h; cases h
  have e := List.dropLast_concat_getLast hn
  rw [List.getLast?_eq_some_getLast hn] at h
  cases h
  exact e.symm
end
end Mir
set_option Elab.async false
set_option linter.all false
set_option maxRecDepth 100000
set_option maxHeartbeats 2000000
namespace Mir
open PySem PySem.Spec PyProof.Rows L2
noncomputable def LamO (f : Addr) (q : Str) (params : Arguments) (body : Expr) (scope : Scope) (c' : Addr) : HO := .ext fun h => ∃ (pm ctv : Value), h.get? f = some (PySem.W.kla_obj "<lambda>" q params body scope [] pm c' ctv)
section
variable {X : Cx} {pins : List (Addr × Obj)} {σ : L2.St} {H : Hp} {s : Shared}
structure LamX2 (T : List (Addr × Str)) (H H1 : Hp) (f c' : Addr) (q : Str) (params : Arguments) (body : Expr) (scope : Scope) : Prop where
  kp : LamX.ExtN H H1
  trk : ∀ b, H1 b = none → H b = none
  tabs : LamX.Tabs T H1
  new : H f = none
  obj : H1 f = some (LamO f q params body scope c')
  code : H1 c' = some (LamX.CodeO c' q)
end
structure LamF (P : Program) (w : World) (K : PySem.W.Frag) (mg : Str → Option Value) (base : Heap) (T : Tx) (k : Nat) (q : Str) (params : Arguments) (body : Expr) (scope : Scope) (np : Nat) (m : Fn) : Prop where
  run : ∀ (f c' : Addr) (A : Around) (outer : List PySem.Env) (s : Shared) (H : Hp) (us : List Value) (vs : List V) (Q : VK) (E : XK), Room k A → Env0 P w K mg base A outer s H → H f = some (LamO f q params body scope c') → H c' = some (LamX.CodeO c' q) → Vals vs us → spF T np m vs H Q E →
    codeAny (model P w) A (.call (.ref f) ⟨us, []⟩) (CR (L2.CX P w) outer P w H s Q E) s
theorem LamF.mono {P : Program} {w : World} {K : PySem.W.Frag} {mg : Str → Option Value} {base : Heap} {T : Tx} {j k : Nat} {q : Str} {params : Arguments} {body : Expr} {scope : Scope} {np : Nat} {m : Fn} (d : LamF P w K mg base T j q params body scope np m) (h : j ≤ k) : LamF P w K mg base T k q params body scope np m :=
  ⟨fun f c' A outer s H us vs Q E hr => d.run f c' A outer s H us vs Q E (hr.mono h)⟩
end Mir
set_option Elab.async false
set_option linter.all false
set_option maxRecDepth 100000
set_option maxHeartbeats 2000000
namespace Mir
open PySem PySem.Spec PyProof.Rows L2
section
variable {T : Tx} {Wx : WX} {X : Cx} {pins : List (Addr × Obj)} {σ : SV} {g : Gh} {H : Hp} {s : Shared} {S Sf : Store} {m : Fn} {xs ks : List D} {ys : List V} {vs : List Value} {e : Expr} {pos : Pos} {f c' : Addr} {q : Str} {params : Arguments} {body : Expr} {scope : Scope}
structure LamT (X : Cx) (tabs : List (Addr × Str)) (q : Str) : Prop where
  ex : ∃ (c P : Addr), LamX.TabB X.base X.mg c P ∧ X.env.code = .ref c ∧ (P, q) ∈ tabs ∧ ∀ p ∈ tabs, p.1 = P → p.2 = q
end
end Mir
set_option Elab.async false
set_option linter.all false
set_option maxRecDepth 100000
set_option maxHeartbeats 2000000
namespace Mir
open PySem PySem.Spec PyProof.Rows L2
structure LamC (base : Heap) (mg : Str → Option Value) (cdv : Value) (tabs : List (Addr × Str)) (q : Str) : Prop where
  ex : ∃ (c P : Addr), LamX.TabB base mg c P ∧ cdv = .ref c ∧ (P, q) ∈ tabs ∧ ∀ p ∈ tabs, p.1 = P → p.2 = q
theorem LamC.t {X : Cx} {tabs : List (Addr × Str)} {q : Str} (L : LamC X.base X.mg X.env.code tabs q) : LamT X tabs q := ⟨L.ex⟩
end Mir
set_option Elab.async false
set_option linter.all false
set_option maxRecDepth 100000
set_option maxHeartbeats 2000000
namespace Mir
open PySem PySem.Spec PyProof.Rows L2
structure CsOk (K : PySem.W.Frag) (h : Heap) (cs : List (Addr × Addr)) : Prop where
  tb : ∀ p ∈ cs, h.get? p.2 = some { cls := .none, data := .fields #[] }
  no : ∀ p ∈ cs, K.lookup p.2 = none
  hd : ∀ p ∈ cs, PySem.W.CodeHd h p.1 p.2
theorem CsOk.nil {K : PySem.W.Frag} {h : Heap} : CsOk K h [] := ⟨fun _ z => (nomatch z), fun _ z => (nomatch z), fun _ z => (nomatch z)⟩
theorem CsOk.cons {K : PySem.W.Frag} {h : Heap} {c P : Addr} {cs : List (Addr × Addr)} (a : PySem.W.CodeHd h c P ∧ h.get? P = some { cls := .none, data := .fields #[] }) (n : K.lookup P = none) (r : CsOk K h cs) : CsOk K h ((c, P) :: cs) := by
  refine ⟨fun p hp => ?_, fun p hp => ?_, fun p hp => ?_⟩ <;> cases hp
  · exact a.2
  · exact r.tb _ ‹_›
  · exact n
  · exact r.no _ ‹_›
  · exact a.1
  · exact r.hd _ ‹_›
end Mir
set_option Elab.async false
set_option linter.all false
set_option maxRecDepth 100000
set_option maxHeartbeats 2000000
namespace Mir
open PySem PySem.Spec PyProof.Rows L2
section
variable {T : Tx} {Wx : WX} {X : Cx} {e o : Expr} {f : CE} {fd : Env → M D}
noncomputable def idxD (d : D) (ys : List D) : Option Nat := if isPds ys && SeqAt.shaped (.list (toPds ys)) && (isPd d && SeqAt.shaped (toPd d)) then SeqAt.dataPlace (toPds ys) (toPd d) else none
noncomputable def opIdx (w : Wv) (d : D) : M Wv := fun S => match viewL S w with
  | some ys => match idxD d ys with
    | some j => .ok (.fz (.int (j : Nat))) S
    | none => .bad
  | none => .bad
end
section
variable {P : Program} {w : World} {mg : Str → Option Value} {base : Heap} {T : Tx} {k : Nat} {x : Str} {np : Nat} {m : Fn}
end
section
variable {T : Tx} {Wx : WX} {X : Cx} {pos : Pos}
noncomputable def mPutL : Mu := fun so xs => match so, xs with
  | .lst ys, [.int k, d] => match ixN ys.length k with
    | some j => some (.lst (ys.set j d), .non)
    | none => none
  | _, _ => none
end
end Mir
set_option Elab.async false
set_option linter.all false
set_option maxRecDepth 100000
set_option maxHeartbeats 2000000
namespace Mir
open PySem PySem.Spec PyProof.Rows L2
structure Zip3Ap (z TI TO i1 i2 i3 a b c : Addr) : Prop where
  sp : ZipSep3 z TI TO i1 i2 i3 [i1, a] [i2, b] [i3, c]
  n1 : a ≠ i1
  n2 : b ≠ i2
  n3 : c ≠ i3
section
variable {T : Tx} {Wx : WX} {X : Cx} {e e2 e3 : Expr} {g : Gh} {H : Hp} {pos : Pos}
end
end Mir
set_option Elab.async false
set_option linter.all false
set_option maxRecDepth 100000
set_option maxHeartbeats 2000000
namespace Mir
open PySem PySem.Spec PyProof.Rows L2
noncomputable def shN (n k : Nat) : Nat := if k < n then k else k + 1
mutual
/-- the cells from n on one further -/
noncomputable def shD (n : Nat) : D → D
  | .ref k => .ref (shN n k)
  | .tup xs => .tup (shDs n xs)
  | .lst xs => .lst (shDs n xs)
  | .dct kvs => .dct (shDk n kvs)
  | .ins c fs => .ins c (shDf n fs)
  | .non => .non
  | .bl b => .bl b
  | .int i => .int i
  | .str x => .str x
  | .scr ns => .scr ns
noncomputable def shDs (n : Nat) : List D → List D
  | [] => []
  | a :: r => shD n a :: shDs n r
noncomputable def shDk (n : Nat) : List (Key × D) → List (Key × D)
  | [] => []
  | (k, a) :: r => (k, shD n a) :: shDk n r
noncomputable def shDf (n : Nat) : List (Str × D) → List (Str × D)
  | [] => []
  | (k, a) :: r => (k, shD n a) :: shDf n r
end
noncomputable def shO (n : Nat) : SO → SO
  | .lst xs => .lst (shDs n xs)
  | .dct kvs => .dct (shDk n kvs)
  | .ins c fs => .ins c (shDf n fs)
noncomputable def shW (n : Nat) : Wv → Wv
  | .fz d => .fz (shD n d)
  | .ow so => .ow (shO n so)
  | .xc => .xc
section
variable {T : Tx} {g g' : Gh} {H : Hp} {n : Nat}
structure ShG (n : Nat) (g g' : Gh) : Prop where
  io : ∀ (k : Nat) (b : Addr), g.io[k]? = some b → g'.io[shN n k]? = some b
  L : ∀ b, g'.L b ↔ g.L b
mutual
theorem Rep.sh (f : ShG n g g') : ∀ {d : D} {v : V}, Rep T g H d v → Rep T g' H (shD n d) v
  | _, _, .non => .non
  | _, _, .bl b => .bl b
  | _, _, .int i => .int i
  | _, _, .str x => .str x
  | _, _, .tup h m r => .tup h (fun z => m ((f.L _).mp z)) (Reps.sh f r)
  | _, _, .lst h m r => .lst h (fun z => m ((f.L _).mp z)) (Reps.sh f r)
  | _, _, .scr h => .scr (h.elim (fun z => .inl ⟨z.1, fun y => z.2 ((f.L _).mp y)⟩) .inr)
  | _, _, .dct h m r => .dct h (fun z => m ((f.L _).mp z)) (RepK.sh f r)
  | _, _, .ins h m r => .ins h (fun z => m ((f.L _).mp z)) (RepF.sh f r)
  | _, _, .ref h => .ref (f.io _ _ h)
theorem Reps.sh (f : ShG n g g') : ∀ {ds : List D} {vs : List V}, Reps T g H ds vs → Reps T g' H (shDs n ds) vs
  | _, _, .nil => .nil
  | _, _, .cons h r => .cons (Rep.sh f h) (Reps.sh f r)
theorem RepK.sh (f : ShG n g g') : ∀ {ds : List (Key × D)} {vs : List (Key × V)}, RepK T g H ds vs → RepK T g' H (shDk n ds) vs
  | _, _, .nil => .nil
  | _, _, .cons h r => .cons (Rep.sh f h) (RepK.sh f r)
theorem RepF.sh (f : ShG n g g') : ∀ {ds : List (Str × D)} {vs : List (Str × V)}, RepF T g H ds vs → RepF T g' H (shDf n ds) vs
  | _, _, .nil => .nil
  | _, _, .cons h r => .cons (Rep.sh f h) (RepF.sh f r)
end
theorem RepO.sh (f : ShG n g g') {o : SO} {ho : HO} (r : RepO T g H o ho) : RepO T g' H (shO n o) ho := by
  cases r with
  | lst r => exact .lst (r.sh f)
  | dct r => exact .dct (r.sh f)
  | ins r => exact .ins (r.sh f)
end
noncomputable def lendC (n : Nat) (xs : List D) : R Wv → R Wv
  | .ok w S => if decide (n ≤ S.length) && (noLstW w && noLstS S) then .ok (shW n w) ((S.take n).map (shO n) ++ .lst xs :: (S.drop n).map (shO n)) else .bad
  | _ => .bad
noncomputable def callA (m : Fn) (args : List D) : M Wv := fun S => match S.getLast? with
  | some (.lst xs) => match lendA S.dropLast.length xs args with
    | some args' => if lowDs S.dropLast.length xs && (noLsts xs && S.dropLast.all (lowO S.dropLast.length)) then lendC S.dropLast.length xs (m args' S.dropLast) else .bad
    | none => .bad
  | _ => m args S
section
variable {T : Tx} {Wx : WX} {X : Cx} {e : Expr} {g g0 g1 g2 g' : Gh} {H H0 H1 H2 H' : Hp} {c : Chk} {S S0 S1 S2 : Store} {ds ds2 : Env} {σ σ2 : SV} {st : Stmt} {a : Addr} {pos : Pos}
theorem callA_ok {m : Fn} {np : Nat} {args : List D} {vs : List V} {Q : VK} {E : XK} (hn : args.length = np) (rs : RelS T g S H) (rv : Reps T g H args vs)
    (p : PostF T g H Q E (callA m args S)) : spF T np m vs H Q E := by
  unfold callA at p
  split at p
  · rename_i xs hx
    split at p
    · rename_i args' hA
      split at p
      · rename_i hz
        rcases Bool.and_eq_true_iff.mp hz with ⟨z1, z2⟩
        rcases Bool.and_eq_true_iff.mp z2 with ⟨zx, z3⟩
        obtain ⟨S0, eS⟩ : ∃ S0, S0 = S.dropLast := ⟨_, rfl⟩
        rw [← eS] at hA z1 z3 p
        have e := last_split hx
        rw [← eS] at e
        subst e
        have gl : g.io.length = S0.length + 1 := by rw [rs.len]; simp
        obtain ⟨a, ha⟩ : ∃ a, g.io[S0.length]? = some a := ⟨g.io[S0.length]'(by omega), List.getElem?_eq_getElem (by omega)⟩
        obtain ⟨ho, hH, ro⟩ := rs.obj S0.length _ a (by rw [List.getElem?_append_right (Nat.le_refl _), Nat.sub_self]; rfl) ha
        have gio : g.io = g.io.take S0.length ++ [a] := by
          have h1 := List.take_append_drop S0.length g.io
          have h2 : g.io.drop S0.length = [a] := by
            rw [List.drop_eq_getElem_cons (by omega)]
            have : g.io[S0.length] = a := by
              have z := List.getElem?_eq_getElem (l := g.io) (i := S0.length) (by omega)
              rw [z] at ha
              exact Option.some.inj ha
            rw [this, List.drop_eq_nil_of_le (by omega)]
          rw [h2] at h1
          exact h1.symm
        have nin : a ∉ g.io.take S0.length := fun z => by
          have nd := rs.nd
          rw [gio, List.nodup_append] at nd
          exact nd.2.2 a z a (List.mem_singleton_self a) rfl
        have aL : g.L a := rs.liv a (List.mem_of_getElem? ha)
        cases ro with
        | @lst _ us rx0 =>
          have rx : Reps T ((g.pop S0.length).less a) H xs us := (rx0.pop z1).fix fix_less
          obtain ⟨ra, la⟩ := lendA_ok ha hH rx rv hA
          have rs1 : RelS T ((g.pop S0.length).less a) S0 H := by
            have r0 := rs.pop fun so hm => List.all_eq_true.mp z3 so hm
            refine ⟨r0.len, r0.nd, fun b hb => ⟨r0.liv b hb, fun z => nin (z ▸ hb)⟩, fun n so b h1 h2 => by
              obtain ⟨ho, h3, p'⟩ := r0.obj n so b h1 h2
              exact ⟨ho, h3, p'.fix fix_less⟩, r0.tab.ghost fun b ps e l => ⟨l, fun z => by rw [z, hH] at e; cases e⟩⟩
          refine ⟨by rw [← rv.length, hn], _, S0, args', rs1, ra, ?_⟩
          cases q : m args' S0 with
          | ok w S2 =>
            rw [q] at p
            unfold lendC at p
            dsimp only at p
            split at p
            · rename_i hy
              rcases Bool.and_eq_true_iff.mp hy with ⟨y1, y2⟩
              rcases Bool.and_eq_true_iff.mp y2 with ⟨y2, y3⟩
              have l2 : S0.length ≤ S2.length := of_decide_eq_true y1
              intro g2 H2 v x2 rs2 rw2
              have g1l : (g.io.take S0.length).length = S0.length := by rw [List.length_take]; omega
              obtain ⟨t, io2⟩ := x2.pre
              have io2 : g2.io = g.io.take S0.length ++ t := io2
              have hv2 : H2 a = some (.lst us) := (x2.kp a _ (fun _ z => by cases z) hH nin).1
              have nin2 : a ∉ g2.io := (x2.kp a _ (fun _ z => by cases z) hH nin).2
              have rxs2 : Reps T g2 H2 xs us := rx.fix (x2.fix rs1)
              have r3 := rs2.back hv2 y3
              have g2l : g2.io.length = S2.length := rs2.len
              have tl : t.length = S2.length - S0.length := by
                have := congrArg List.length io2
                rw [List.length_append, g1l] at this
                omega
              -- the ghosts with a at its place
              have io3 : g.io.take S0.length ++ a :: t = g.io ++ t := by
                have q : g.io ++ t = (g.io.take S0.length ++ [a]) ++ t := congrArg (fun z => z ++ t) gio
                rw [q, List.append_assoc]
                rfl
              have sg : ShG S0.length (g2.with a) ⟨g.io ++ t, (g2.with a).L⟩ := ⟨fun k b hb => by
                have hb : g2.io[k]? = some b := hb
                rw [io2] at hb
                show (g.io ++ t)[shN S0.length k]? = some b
                rw [← io3]
                unfold shN
                by_cases hk : k < S0.length
                · rw [if_pos hk, List.getElem?_append_left (by omega)]
                  rw [List.getElem?_append_left (by omega)] at hb
                  exact hb
                · rw [if_neg hk, List.getElem?_append_right (by omega), g1l]
                  rw [List.getElem?_append_right (by omega), g1l] at hb
                  rw [show k + 1 - S0.length = (k - S0.length) + 1 by omega]
                  exact hb, fun _ => Iff.rfl⟩
              refine p ⟨g.io ++ t, (g2.with a).L⟩ H2 v ⟨⟨t, rfl⟩, x2.trk, fun b o hb => ?_, fun b o nt hb nb => ?_⟩ ?_ ?_
              · have h := x2.liv b o hb
                by_cases q : b = a
                · subst q
                  exact ⟨fun _ => aL, fun _ => .inr rfl⟩
                · exact ⟨fun z => (h.mp (z.elim id fun w => (q w).elim)).1, fun z => .inl (h.mpr ⟨z, q⟩)⟩
              · have nb1 : b ∉ g.io.take S0.length := fun z => nb (List.mem_of_mem_take z)
                obtain ⟨k1, k2⟩ := x2.kp b o nt hb nb1
                refine ⟨k1, fun z => ?_⟩
                rcases List.mem_append.mp z with z | z
                · exact nb z
                · exact k2 (by rw [io2]; exact List.mem_append_right _ z)
              · refine ⟨?_, ?_, fun b hb => ?_, fun n so b h1 h2 => ?_, ⟨r3.tab.lv, r3.tab.ok⟩⟩
                · show (g.io ++ t).length = _
                  rw [List.length_append, gl, tl, List.length_append, List.length_cons, List.length_map, List.length_map, List.length_take, List.length_drop]
                  omega
                · show (g.io ++ t).Nodup
                  rw [← io3]
                  have nd2 := rs2.nd
                  rw [io2] at nd2
                  rw [io2] at nin2
                  exact (List.perm_middle.nodup_iff).mpr (List.nodup_cons.mpr ⟨nin2, nd2⟩)
                · have hb : b ∈ g.io ++ t := hb
                  rw [← io3] at hb
                  rcases List.mem_append.mp hb with hb | hb
                  · exact .inl (rs2.liv b (by rw [io2]; exact List.mem_append_left _ hb))
                  · rcases List.mem_cons.mp hb with hb | hb
                    · exact .inr hb
                    · exact .inl (rs2.liv b (by rw [io2]; exact List.mem_append_right _ hb))
                · have h2 : (g.io ++ t)[n]? = some b := h2
                  rw [← io3] at h2
                  have tk : ((S2.take S0.length).map (shO S0.length)).length = S0.length := by rw [List.length_map, List.length_take]; omega
                  by_cases hnn : n < S0.length
                  · rw [List.getElem?_append_left (by omega), List.getElem?_map, List.getElem?_take] at h1
                    rw [if_pos hnn] at h1
                    rw [List.getElem?_append_left (by omega)] at h2
                    cases hs : S2[n]? with
                    | none => rw [hs] at h1; cases h1
                    | some so0 =>
                      rw [hs] at h1
                      cases h1
                      obtain ⟨ho', h3, p'⟩ := r3.obj n so0 b hs (by
                        show g2.io[n]? = some b
                        rw [io2, List.getElem?_append_left (by omega)]
                        exact h2)
                      exact ⟨ho', h3, p'.sh sg⟩
                  · by_cases he : n = S0.length
                    · subst he
                      rw [List.getElem?_append_right (by omega), tk, Nat.sub_self] at h1
                      rw [List.getElem?_append_right (by omega), g1l, Nat.sub_self] at h2
                      cases h1
                      cases h2
                      refine ⟨_, hv2, .lst ?_⟩
                      have fx2 : Fix g H ⟨g.io ++ t, (g2.with a).L⟩ H2 := ⟨⟨t, rfl⟩, fun b o hb nb => ?_⟩
                      · exact rx0.fix fx2
                      · have na : b ≠ a := fun z => nb (z ▸ aL)
                        have k := (x2.fix rs1).kp b o hb fun z => nb z.1
                        exact ⟨k.1, fun z => z.elim k.2 na⟩
                    · rw [List.getElem?_append_right (by omega), tk] at h1
                      rw [List.getElem?_append_right (by omega), g1l] at h2
                      obtain ⟨j, hj⟩ : ∃ j, n - S0.length = j + 1 := ⟨n - S0.length - 1, by omega⟩
                      rw [hj] at h1 h2
                      have h1 : ((S2.drop S0.length).map (shO S0.length))[j]? = some so := h1
                      have h2 : t[j]? = some b := h2
                      rw [List.getElem?_map, List.getElem?_drop] at h1
                      cases hs : S2[S0.length + j]? with
                      | none => rw [hs] at h1; cases h1
                      | some so0 =>
                        rw [hs] at h1
                        cases h1
                        obtain ⟨ho', h3, p'⟩ := r3.obj (S0.length + j) so0 b hs (by
                          show g2.io[S0.length + j]? = some b
                          rw [io2, List.getElem?_append_right (by omega), g1l, Nat.add_sub_cancel_left]
                          exact h2)
                        exact ⟨ho', h3, p'.sh sg⟩
              · cases w with
                | fz d => exact (Rep.back hv2 rw2 y2).sh sg
                | xc => exact rw2.elim
                | ow so =>
                  obtain ⟨b, eb, ow⟩ := rw2
                  obtain ⟨ho', h3, h4⟩ := ow.obj
                  refine ⟨b, eb, ow.new, .inl ow.liv, fun z => ?_, ho', h3, (h4.back hv2 y2).sh sg⟩
                  have z : b ∈ g.io ++ t := z
                  rw [← io3] at z
                  rcases List.mem_append.mp z with z | z
                  · exact ow.nio (by rw [io2]; exact List.mem_append_left _ z)
                  · rcases List.mem_cons.mp z with z | z
                    · have := ow.new
                      rw [z, hH] at this
                      cases this
                    · exact ow.nio (by rw [io2]; exact List.mem_append_right _ z)
            · exact p.elim
          | ex x S2 =>
            rw [q] at p
            exact p.elim
          | bad =>
            rw [q] at p
            exact p.elim
      · exact p.elim
    · exact p.elim
  · exact ⟨by rw [← rv.length, hn], g, S, args, rs, rv, p⟩
end
section
variable {P : Program} {w : World} {mg : Str → Option Value} {base : Heap} {T : Tx} {k : Nat} {x : Str} {np : Nat} {m : Fn}
theorem spF_lendA {vs : List V} {H : Hp} {Q : VK} {E : XK} (h : spF T np (callA m) vs H Q E) : spF T np m vs H Q E := by
  obtain ⟨hl, g, S, ds, rs, rr, p⟩ := h
  exact callA_ok (by rw [rr.length, hl]) rs rr p
theorem Def.lendA (d : Def P w T.K mg base T k x np m) : Def P w T.K mg base T k x np (callA m) := by
  obtain ⟨f, fd, ps, h1, h2, h3, h4, h5⟩ := d.ex
  exact ⟨f, fd, ps, h1, h2, h3, h4, h5.imp fun vs H Q E => spF_lendA⟩
end
end Mir
set_option Elab.async false
set_option linter.all false
set_option maxRecDepth 100000
set_option maxHeartbeats 2000000
namespace Mir
open PySem PySem.Spec PyProof.Rows L2
noncomputable def InitFactD (K : PySem.W.Frag) (C : Addr) (qual : Str) (st : Stmt) (dvs : List V) : Prop := ∃ f fd, L2.Mk K C f ∧ FunD K "__init__" qual (defArgs st) (defBody st) (defScope st) dvs [] f fd
theorem init_factD {K : PySem.W.Frag} {C T : Addr} {qual : Str} {st : Stmt} {dvs : List V} {f : Addr} {oc oc' : Value} {od an od' : Option Addr} {osl osl' : Array (Option Value)} {kV doc pm cdv ct : Value} {its : List Value} {n : Nat} (m : PySem.W.makesIn K C = true) (a : PySem.W.findIn K (.ref C) "__init__" = some (some (.ref f))) (b : PySem.W.isFn K (.ref f) = true) (kc : PySem.W.keepIn K (.ref C) = true)
    (l : K.lookup f = some ⟨oc, od, .func (PySem.W.fnOf "__init__" qual (defArgs st) (defBody st) (defScope st) (.ref T) kV doc pm an cdv ct), osl⟩)
    (t : K.lookup T = some ⟨oc', od', .seq its.toArray n, osl'⟩) (r : Vals dvs its) (h0 : dvs ≠ [])
    (c : PySem.W.codeIn K cdv qual = true) (k : PySem.W.keepIn K (.ref f) = true) : InitFactD K C qual st dvs := ⟨_, _, ⟨m, a, b, kc⟩, ⟨⟨_, _, _, _, _, _, _, _, _, _, rfl, l, c, .inr ⟨h0, _, _, its, _, rfl, t, rfl, r⟩, .inl rfl⟩, k⟩⟩
theorem mkd_mkD {P : Program} {w : World} {K : PySem.W.Frag} {mg : Str → Option Value} {base : Heap} {x qual : Str} {st : Stmt} {dvs : List V} {N ps : List Str} {j k np : Nat} {ok : Nat → Bool} {body : CI} {T : Tx} (hT : T.K = K) (hl : ∀ a o, ¬ T.lean a o) (hm : mg x = some (.ref (T.cls k))) (F : InitFactD K (T.cls k) qual st dvs) (Sc : FnScope N ps (defScope st)) (hps : ps.length = np + 1) (hN : 0 < N.length) (hok : ok k = true) (hd : dvs ≠ [])
    (hbi : ∀ (T : Addr) (kV doc pm : Value) (an : Option Addr) (cdv ct : Value) (us its : List Value), us.length = ps.length → its.length = dvs.length →
      ∃ k, bindArgs (PySem.W.fnOf "__init__" qual (defArgs st) (defBody st) (defScope st) (.ref T) kV doc pm an cdv ct) ⟨us, []⟩ = seqItems? (.ref T) >>= k ∧ k (some its.toArray) = pure (ps.zip us))
    (hb : ∀ (f : Addr) (cdv : Value) (A : Around) (outer : List PySem.Env) (s : Shared) (H : Hp) (E : XK), Bd T mg P w base j (fun cls d _ H => E cls d H) (cxOf (L2.CX P w) P w K mg base N qual (defScope st) f cdv A outer s H E) →
      JNs T (fun cls d _ H => E cls d H) ok (cxOf (L2.CX P w) P w K mg base N qual (defScope st) f cdv A outer s H E) (defBody st) body) :
    Mkd P w T.K mg base T (j + 1) x k np (runI N.length body) := by
  obtain ⟨f, fd, a, F⟩ := F
  rw [hT]
  obtain ⟨ds, r, B⟩ := F.binds1 (ps := ps) ps.length dvs.length hd (by omega) fun T kV doc pm an cdv ct us its h1 h2 => by
    obtain ⟨k, e1, e2⟩ := hbi T kV doc pm an cdv ct us its h1 h2
    refine ⟨k, e1, ?_⟩
    rw [e2, ← h2, List.drop_length, List.append_nil]
  have e : ds = [] := by
    rw [List.drop_length] at r
    cases r
    rfl
  subst e
  exact ⟨f, ok, hm, a, hok, ⟨fd, ps, hps, B, F.ok Sc (fun vs H Q E h => h.1.trans hps.symm) fun cdv A outer s H vs Q E hr h => init_run hT hl hN (hb f cdv A outer s H E) hr h⟩⟩
noncomputable def SupFact (K : PySem.W.Frag) (C : Addr) (m qual : Str) (st : Stmt) : Prop := ∃ f fd, ClA K C m f ∧ Fun K m qual st f fd
theorem sup_fact {K : PySem.W.Frag} {C : Addr} {m qual : Str} {st : Stmt} {f : Addr} {oc : Value} {od an : Option Addr} {osl : Array (Option Value)} {kV doc pm cdv ct : Value} (a : PySem.W.readsIn K C (.type "type") = true) (b : PySem.W.specialIn K (.ref C) "__getattribute__" = some (some (.builtin "type.__getattribute__")))
    (d : PySem.W.findCls K (.ref C) (.type "type") m = some (.val (.ref f)))
    (l : K.lookup f = some ⟨oc, od, .func (PySem.W.fnOf m qual (defArgs st) (defBody st) (defScope st) .none kV doc pm an cdv ct), osl⟩)
    (c : PySem.W.codeIn K cdv qual = true) (k : PySem.W.keepIn K (.ref f) = true) : SupFact K C m qual st := ⟨_, _, ⟨⟨a, b⟩, d, k⟩, fun_mk l c k⟩
theorem sup_mk {P : Program} {w : World} {K : PySem.W.Frag} {mg : Str → Option Value} {base : Heap} {x qual : Str} {st : Stmt} {C : Addr} {N ps : List Str} {j np : Nat} {ok : Nat → Bool} {body : CI} {T : Tx} (hT : T.K = K) (hl : ∀ a o, ¬ T.lean a o) (hm : mg x = some (.ref C)) (F : SupFact K C "__init__" qual st) (Sc : FnScope N ps (defScope st)) (hps : ps.length = np + 1) (hN : 0 < N.length)
    (hbi : ∀ (kV doc pm : Value) (an : Option Addr) (cdv ct : Value) (us : List Value), us.length = ps.length → bindArgs (PySem.W.fnOf "__init__" qual (defArgs st) (defBody st) (defScope st) .none kV doc pm an cdv ct) ⟨us, []⟩ = pure (ps.zip us))
    (hb : ∀ (f : Addr) (cdv : Value) (A : Around) (outer : List PySem.Env) (s : Shared) (H : Hp) (E : XK), Bd T mg P w base j (fun cls d _ H => E cls d H) (cxOf (L2.CX P w) P w K mg base N qual (defScope st) f cdv A outer s H E) →
      JNs T (fun cls d _ H => E cls d H) ok (cxOf (L2.CX P w) P w K mg base N qual (defScope st) f cdv A outer s H E) (defBody st) body) :
    Sup P w T.K mg base T (j + 1) x np ok (runI N.length body) := by
  obtain ⟨f, fd, a, F⟩ := F
  rw [hT]
  exact ⟨C, f, hm, a, ⟨fd, ps, hps, F.binds hbi, init_ok F Sc hT hl hps hN (hb f)⟩⟩
structure Dcl (P : Program) (w : World) (K : PySem.W.Frag) (mg : Str → Option Value) (base : Heap) (T : Tx) (k : Nat) (x m : Str) (np : Nat) (b : Fn) : Prop where
  ex : ∃ (C f : Addr) (fd : FuncData) (ps : List Str), mg x = some (.ref C) ∧ ClA K C m f ∧ ps.length = np ∧ Binds K fd ps [] ∧ FnOk P w K mg base (L2.CX P w) k f fd ps (spF T np b)
theorem Dcl.mono {P : Program} {w : World} {K : PySem.W.Frag} {mg : Str → Option Value} {base : Heap} {T : Tx} {j k : Nat} {x m : Str} {np : Nat} {b : Fn} (d : Dcl P w K mg base T j x m np b) (h : j ≤ k) : Dcl P w K mg base T k x m np b := by
  obtain ⟨C, f, fd, ps, h1, h2, h3, h4, h5⟩ := d.ex
  exact ⟨C, f, fd, ps, h1, h2, h3, h4, h5.mono h⟩
theorem dcl_mk {P : Program} {w : World} {K : PySem.W.Frag} {mg : Str → Option Value} {base : Heap} {x m qual : Str} {st : Stmt} {C : Addr} {N ps : List Str} {j : Nat} {body : CS} {T : Tx} (hT : T.K = K) (hl : ∀ a o, ¬ T.lean a o) (hm : mg x = some (.ref C)) (F : SupFact K C m qual st) (Sc : FnScope N ps (defScope st))
    (hbi : ∀ (kV doc pm : Value) (an : Option Addr) (cdv ct : Value) (us : List Value), us.length = ps.length → bindArgs (PySem.W.fnOf m qual (defArgs st) (defBody st) (defScope st) .none kV doc pm an cdv ct) ⟨us, []⟩ = pure (ps.zip us))
    (hb : ∀ (f : Addr) (cdv : Value) (A : Around) (outer : List PySem.Env) (s : Shared) (H : Hp) (E : XK), Bd T mg P w base j (fun cls d _ H => E cls d H) (cxOf (L2.CX P w) P w K mg base N qual (defScope st) f cdv A outer s H E) →
      JSs T (fun cls d _ H => E cls d H) (cxOf (L2.CX P w) P w K mg base N qual (defScope st) f cdv A outer s H E) (defBody st) body) :
    Dcl P w T.K mg base T (j + 1) x m ps.length (runF N.length body) := by
  obtain ⟨f, fd, a, F⟩ := F
  rw [hT]
  exact ⟨C, f, fd, ps, hm, a, rfl, F.binds hbi, fn_ok F Sc hT hl (hb f)⟩
theorem okc_sub {cs cs' : List Nat} (h : ∀ k ∈ cs, cs'.contains k = true) : ∀ k, (fun k => cs.contains k) k = true → (fun k => cs'.contains k) k = true := fun k hk => h k (by simpa using hk)
section
variable {T : Tx} {Wx : WX} {X : Cx} {e : Expr} {g g0 g1 g' : Gh} {H H0 H1 H' : Hp} {c : Chk} {S S1 : Store} {ds : Env} {σ : SV} {pos : Pos}
theorem je_clm {P : Program} {w : World} {mg : Str → Option Value} {base : Heap} {k : Nat} {x m : Str} {np : Nat} {b : Fn} {p apos : Pos} {es : List Expr} {pl : Sem Bool} {fs : Env → M (List D)} (B : Bd T mg P w base k Wx X) (d : Dcl P w T.K mg base T k x m np b) (hg : Gl X x) (ha : JA T Wx X (e :: es) fs)
    (hlen : ∀ ds S args S', fs ds S = .ok args S' → args.length = np) (hdb : (x == ("__debug__" : Str)) = false := by decide) (he : starEach (e :: es) X.env = (false, eval e X.env) :: starEach es X.env := by rfl) (hpl : (backTo pos (starEach es X.env)).any (·.1) = false := by rfl)
    (ht : eval (.Call (.Attribute (.Name x p) m apos) (e :: es) [] pos) X.env = (do
      let ov ← eval (.Name x p) X.env; standAt apos.atName; let (f, first) ← holding [ov] (getMethod ov m pl); callWith pos f first (backTo pos (starEach (e :: es) X.env)) (backToKw pos (keywordEach [] X.env))) := by rfl) :
    JE T Wx X (.Call (.Attribute (.Name x p) m apos) (e :: es) [] pos) (cCall b fs) := by
  obtain ⟨C, f, fd, ps, h1, h2, h3, h4, h5⟩ := d.ex
  have hK := B.hK
  have F : FnOk X.prog X.w X.K X.mg X.base (L2.CX X.prog X.w) k f fd ps (spF T np b) := by rw [B.prog, B.wo, hK, B.mg, B.ba]; exact h5
  refine PE.imp (pe_cl1 (E := fun σ => WE Wx σ) (pl := pl) hg (by rw [B.mg]; exact h1) (hK.symm ▸ h2) F B.rm (hK.symm ▸ h4) ha (fun σ => passAt B.tk σ) hdb he hpl ht) fun σ H Q hh_ => ?_
  obtain ⟨g0, H0, c, g, S, ds, fr, p⟩ := hh_
  unfold cCall at p
  refine ⟨g0, H0, c, g, S, ds, fr, ?_⟩
  cases q : fs ds S with
  | ok args S1 =>
    rw [q] at p
    intro g1 H1 vs e1 rs rv
    refine ⟨by rw [← rv.length]; exact hlen ds S args S1 q, g1, S1, args, rs, rv, ?_⟩
    have p2 : PostG T Wx (RW T H1) g1 H1 σ Q (b args S1) := PostG.from mono_w e1 p
    cases q2 : b args S1 with
    | ok w2 S2 =>
      rw [q2] at p2
      exact p2
    | ex x2 S2 =>
      rw [q2] at p2
      exact p2
    | bad =>
      rw [q2] at p2
      exact p2
  | ex x1 S1 =>
    rw [q] at p
    exact p
  | bad =>
    rw [q] at p
    exact p
noncomputable def bTuple : List Wv → M Wv := fun ws S => match ws with
  | [w] => match itemsOf S w with
    | some xs => .ok (.fz (.tup xs)) S
    | none => .bad
  | _ => .bad
noncomputable def rTupA (K : PySem.W.Frag) : List V → Hp → VK → Prop := fun xs H Q => ∃ p ys, xs = [.ref p] ∧ ((SqL K H p ys ∧ ∀ l, H l = none → Q (.ref l) (upd H l (.tup ys))) ∨ (SqT K H p ys ∧ Q (.ref p) H))
theorem Lv.crTuple (lv : Lv T Wx X) : CallR X (.type "tuple") (rTupA T.K) := lv.hK ▸ call_tuple_of
theorem v_tuple : VC T Wx (rTupA T.K) bTuple := by
  intro g H S σ ws vs Q rs rv p
  unfold bTuple at p
  split at p
  · rename_i w
    cases rv with
    | cons r1 r2 =>
      cases r2
      cases q : itemsOf S w with
      | none => rw [q] at p; exact p.elim
      | some xs =>
        rw [q] at p
        unfold itemsOf at q
        split at q
        · rename_i ys hy
          cases q
          cases w with
          | fz d =>
            cases d with
            | tup zs =>
              cases hy
              cases r1 with
              | tup h1 n1 h2 => exact ⟨_, _, rfl, .inr ⟨SqT.of h1, PostG.now (r := RW T H) p rs (.tup h1 n1 h2)⟩⟩
            | _ => cases hy
          | ow so => cases hy
          | xc => cases hy
        · obtain ⟨a, us, rfl, h1, r⟩ := viewR_ok rs r1 q
          refine ⟨a, us, rfl, .inl ⟨h1, fun l hl => ?_⟩⟩
          obtain ⟨g2, e2, rs2, fx, nl⟩ := alloc_fz rs hl (.tup us)
          exact p g2 _ _ e2 rs2 (.tup upd_same nl (r.fix fx))
  · exact p.elim
noncomputable def bDict : List Wv → M Wv := fun ws S => match ws with
  | [w] => match viewK S w with
    | some kvs => .ok (.ow (.dct kvs)) S
    | none => .bad
  | _ => .bad
noncomputable def mDPop : Mu := fun so xs => match so, xs with
  | .dct kvs, [k] => match keyD k with
    | some k => match lkD kvs k with
      | some d => some (.dct (delD kvs k), d)
      | none => none
    | none => none
  | _, _ => none
noncomputable def dpG : List ((Env → M D) × (Env → M D)) → Env → M (List (Key × D))
  | [], _, S => .ok [] S
  | (k, f) :: r, ds, S => bindR (k ds S) fun kd S => bindR (f ds S) fun d S => bindR (dpG r ds S) fun kvs S => match keyD kd with
    | some k => .ok ((k, d) :: kvs) S
    | none => .bad
noncomputable def cDispG (ks : List ((Env → M D) × (Env → M D))) : CE := fun ds S => bindR (dpG ks ds S) fun kvs S => .ok (.ow (.dct (mergeD kvs))) S
noncomputable def dpTG (T : Tx) (Wx : WX) : List ((Env → M D) × (Env → M D)) → List (TE × TE)
  | [] => []
  | (k, f) :: r => (tG T Wx (RD T) k, tG T Wx (RD T) f) :: dpTG T Wx r
theorem dpG_go : ∀ (ks : List ((Env → M D) × (Env → M D))) {g : Gh} {H : Hp} {S : Store} {Q : List (V × V) → Hp → Prop}, FR T g0 H0 c g H S ds σ →
    (match dpG ks ds S with
      | .ok kvs S' => ∀ g' H' vs, Ext g H g' H' → RelS T g' S' H' → RepK T g' H' kvs vs → Q (vs.map fun kv => (kV kv.1, kv.2)) H'
      | .ex x S' => ∀ g' H' cls dx, Ext g H g' H' → RelS T g' S' H' → RepX T g' H' x cls dx → Wx cls dx σ H'
      | .bad => False) → tPairs (dpTG T Wx ks) σ H Q
  | [], g, H, S, Q, fr, p => p g H [] (Ext.refl g H) fr.st .nil
  | (k, f) :: r, g, H, S, Q, fr, p => by
    show tPairs ((tG T Wx (RD T) k, tG T Wx (RD T) f) :: dpTG T Wx r) σ H Q
    unfold tPairs
    refine ⟨g0, H0, c, g, S, ds, fr, ?_⟩
    unfold dpG at p
    cases q0 : k ds S with
    | bad => rw [q0] at p; exact p
    | ex x S1 => rw [q0] at p; exact p
    | ok kd S0 =>
    rw [q0] at p
    dsimp only [bindR] at p
    intro g1 H1 kv e1 rs1 rk
    have fr1 := fr.on e1 rs1
    refine ⟨g0, H0, c, g1, S0, ds, fr1, ?_⟩
    cases q : f ds S0 with
    | bad => rw [q] at p; exact p
    | ex x S1 =>
      rw [q] at p
      exact fun g' H' cls dx e2 => p g' H' cls dx (e1.trans e2)
    | ok d S1 =>
      rw [q] at p
      dsimp only at p
      intro g2 H2 v e2 rs2 rv
      refine dpG_go r (fr1.on e2 rs2) ?_
      cases q2 : dpG r ds S1 with
      | bad => rw [q2] at p; exact p
      | ex x S2 =>
        rw [q2] at p
        exact fun g' H' cls dx e3 => p g' H' cls dx ((e1.trans e2).trans e3)
      | ok kvs S2 =>
        rw [q2] at p
        dsimp only at p ⊢
        intro g' H' vs e3 rs3 rk3
        cases hk : keyD kd with
        | none => rw [hk] at p; exact p.elim
        | some kk =>
          rw [hk] at p
          have ek : kv = kV kk := keyW_ok (w := .fz kd) rk hk
          subst ek
          exact p g' H' ((kk, v) :: vs) ((e1.trans e2).trans e3) rs3 (.cons (rv.fix (e3.fix rs2)) rk3)
theorem ppg_nil : PPs X pos [] [] (dpTG T Wx []) := pps_nil
theorem ppg_cons {ke v : Expr} {k f : Env → M D} {ks : List (Option Expr)} {vs : List Expr} {r : List ((Env → M D) × (Env → M D))} (hk : JD T Wx X ke k) (hv : JD T Wx X v f) (hr : PPs X pos ks vs (dpTG T Wx r)) : PPs X pos (some ke :: ks) (v :: vs) (dpTG T Wx ((k, f) :: r)) := pps_cons hk hv hr
theorem dpG_len : ∀ {ks : List ((Env → M D) × (Env → M D))} {S S' : Store} {kvs : List (Key × D)}, dpG ks ds S = .ok kvs S' → kvs.length = ks.length
  | [], S, S', kvs, h => by cases h; rfl
  | (k, f) :: r, S, S', kvs, h => by
    unfold dpG at h
    cases q0 : k ds S with
    | bad => rw [q0] at h; cases h
    | ex x S1 => rw [q0] at h; cases h
    | ok kd S0 =>
    rw [q0] at h
    dsimp only [bindR] at h
    cases q : f ds S0 with
    | bad => rw [q] at h; cases h
    | ex x S1 => rw [q] at h; cases h
    | ok d S1 =>
      rw [q] at h
      dsimp only at h
      cases q2 : dpG r ds S1 with
      | bad => rw [q2] at h; cases h
      | ex x S2 => rw [q2] at h; cases h
      | ok kv S2 =>
        rw [q2] at h
        dsimp only at h
        split at h
        · cases h
          rw [List.length_cons, List.length_cons, dpG_len q2]
        · cases h
theorem je_dispG {keys : List (Option Expr)} {values : List Expr} {ks : List ((Env → M D) × (Env → M D))} (h : PPs X pos keys values (dpTG T Wx ks)) (hn : ks.length ≤ 15 := by decide) (hall : keys.all (·.isSome) = true := by rfl) (hl : keys.length = values.length := by rfl) (h0 : keys ≠ [] := by exact fun z => nomatch z) (h15 : keys.length ≤ 15 := by decide) :
    JE T Wx X (.Dict keys values pos) (cDispG ks) := PE.imp (pe_disp h hall hl h0 h15) fun σ H Q hh_ => by
  obtain ⟨g0, H0, c, g, S, ds, fr, p⟩ := hh_
  intro Dd hD
  obtain ⟨g1, e1, rs1, rw1⟩ := alloc_ow (so := .dct []) fr.st hD (ho := .dK []) fun g' H' fx => .dct .nil
  have fr1 := fr.on e1 rs1
  obtain ⟨Da, ea, ow1⟩ := rw1
  cases ea
  refine dpG_go ks fr1 ?_
  unfold cDispG at p
  cases q : dpG ks ds S with
  | bad => rw [q] at p; exact p
  | ex x S1 =>
    rw [q] at p
    exact fun g' H' cls dx e2 => p g' H' cls dx (e1.trans e2)
  | ok kvs S2 =>
    rw [q] at p
    dsimp only [bindR] at p ⊢
    intro g2 H2 vs e2 rs2 rk
    have len := dpG_len q
    have len2 := rk.len
    obtain ⟨hD2, hio2⟩ := e2.kp Dd _ (fun _ z => by cases z) upd_same ow1.nio
    have hL2 := (e2.liv Dd _ upd_same).mpr ow1.liv
    refine ⟨hD2, vs, rfl, by omega, ?_⟩
    have fx : Fix g2 H2 g2 (L2.upd H2 Dd (.dK (mergeK [] vs))) := fix_upd hL2
    exact p g2 _ _ ((e1.trans e2).upd_new hD) (rs2.upd hL2 hio2 (fun u e => by rw [hD2] at e; cases e; exact RepO.plain (T := T) (g := g2) (H := H2) (.dct .nil)) (fun _ z => by cases z)) ⟨Dd, rfl, hD, hL2, hio2, _, upd_same, .dct (merge_rep (rk.fix fx) .nil)⟩
noncomputable def enumD (xs : List D) : List D := (List.range xs.length).zipWith (fun i x => D.tup [.int (i : Nat), x]) xs
theorem enumD_at (xs : List D) (i : Nat) : (enumD xs)[i]? = xs[i]?.map fun x => D.tup [.int (i : Nat), x] := by
  unfold enumD
  rw [List.getElem?_zipWith]
  by_cases h : i < xs.length
  · rw [List.getElem?_range h, List.getElem?_eq_getElem h]
    rfl
  · rw [List.getElem?_eq_none (by simpa using h), List.getElem?_eq_none (by simpa using h)]
    rfl
theorem enumD_len (xs : List D) : (enumD xs).length = xs.length := by
  unfold enumD
  rw [List.length_zipWith, List.length_range, Nat.min_self]
noncomputable def enumO : List D → Store → R (List D)
  | [a], S => match seqD a with
    | some xs => .ok (enumD xs) S
    | none => .bad
  | _, _ => .bad
noncomputable def cEnum (fs : Env → M (List D)) : Env → M (List D) := fun ds S => bindR (fs ds S) fun xs S => enumO xs S
theorem iter_enum {a : Addr} {vs : List V} {xs : List D} (hs : ∀ g' H', Held (Chk.now g H) g' H' → SqL T.K H' a vs) (r : Reps T g H xs vs) : IterOk T (Ite T.K a) (enumD xs) (Chk.now g H) := by
  refine ⟨fun i g' H' S hi hh _ => ?_, fun g' H' S hh _ => ?_, fun i d g' H' S x H2 hd hh rs hy => ?_⟩
  · rw [enumD_len] at hi
    obtain ⟨v, hv, _⟩ := r.get (List.getElem?_eq_getElem hi)
    exact ⟨vs, v, hs g' H' hh, hv⟩
  · exact ⟨vs, hs g' H' hh, by rw [enumD_len, r.length]; exact Nat.le_refl _⟩
  · obtain ⟨q, x1, rfl, hq, rfl, e1⟩ := hy
    rw [enumD_at] at hd
    cases p1 : xs[i]? with
    | none =>
      rw [p1] at hd
      cases hd
    | some dx =>
      rw [p1] at hd
      cases hd
      obtain ⟨v, hv, rv⟩ := r.get p1
      have z1 := e1 vs (hs g' H' hh)
      rw [hv] at z1
      cases z1
      have fx := Chk.now_fix hh
      obtain ⟨g2, x2, rs2, fx2, nl⟩ := alloc_fz rs hq (.tup [.int (i : Nat), x1])
      exact ⟨g2, x2, rs2, .tup upd_same nl (.cons (.int _) (.cons ((rv.fix fx).fix fx2) .nil))⟩
theorem ji_enum {elts : List Expr} {kk : Nat} {tpos p : Pos} {fs : Env → M (List D)} (lv : Lv T Wx X) (hg : Gl X "enumerate") (hm : X.mg "enumerate" = none) (ha : JA T Wx X [e] fs)
    (hs : starEach [e] X.env = [(false, eval e X.env)] := by rfl) : JI T Wx X (.Tuple elts kk tpos) (.Call (.Name "enumerate" p) [e] [] pos) (cEnum fs) :=
  PI.imp (pi_enum hg hm ha hs) fun σ H Rr hh_ => by
    obtain ⟨g0, H0, c, g, S, ds, fr, p⟩ := hh_
    have hK := lv.hK
    refine tG.iter (r := RA T) fr p fun xs S1 g1 H1 vs hf e1 fr1 rv p1 => ?_
    unfold enumO at p1
    split at p1
    · rename_i a
      split at p1
      · rename_i xs hx
        cases rv with
        | cons r1 r2 =>
          cases r2
          obtain ⟨a1, us1, rfl, q1, s1⟩ := seqD_ok r1 hx
          refine ⟨a1, us1, rfl, hK.symm ▸ s1 _ _ (Chk.now_held _ _), ?_⟩
          refine p1 g1 H1 _ (Chk.now g1 H1) (Ext.refl _ _) fr1.st (Chk.now_held _ _) fr1.now ?_
          rw [hK]
          exact iter_enum s1 q1
      · exact p1.elim
    · exact p1.elim
end
section
variable {T : Tx} {Wx : WX} {X : Cx} {pos : Pos}
end
end Mir
set_option Elab.async false
set_option linter.all false
set_option maxRecDepth 100000
namespace Mir
open PySem PySem.Spec PyProof.Rows L2
noncomputable def killE : List Nat → Env → Env
  | [], ds => ds
  | i :: is, ds => killE is (ds.set i none)
noncomputable def killR (is : List Nat) : RS → RS
  | .nx ds S => .nx (killE is ds) S
  | r => r
noncomputable def cKill (is : List Nat) (a : CS) : CS := fun ds S => killR is (a ds S)
section
variable {T : Tx} {Wx : WX} {X : Cx} {g g0 : Gh} {H H0 : Hp} {c : Chk} {S : Store} {ds : Env} {σ : SV} {st : Stmt}
theorem FR.kill1 (i : Nat) (fr : FR T g0 H0 c g H S ds σ) : FR T g0 H0 c g H S (ds.set i none) σ := by
  have look : ∀ {j : Nat} {w : Wv}, (ds.set i none)[j]? = some (some w) → ds[j]? = some (some w) := fun {j w} h => by
    rw [List.getElem?_set] at h
    split at h
    · split at h
      · cases h
      · cases h
    · exact h
  exact ⟨fr.ext, fr.st, ⟨by simpa using fr.env.len, fun j d h => fr.env.fz j d (look h), fun j so h => fr.env.ow j so (look h), fun j k so so' a ne h1 h2 => fr.env.ne j k so so' a ne (look h1) (look h2), fun j h => fr.env.xc j (look h)⟩, fr.fz, fr.io, fr.ln⟩
theorem FR.kill : ∀ (is : List Nat) {ds : Env}, FR T g0 H0 c g H S ds σ → FR T g0 H0 c g H S (killE is ds) σ
  | [], _, fr => fr
  | i :: is, _, fr => FR.kill is (fr.kill1 i)
theorem js_kill (is : List Nat) {a : CS} (h : JS T Wx X st a) : JS T Wx X st (cKill is a) := PS.imp h fun D σ H hh_ => by
  obtain ⟨g0, H0, c, g, S, ds, fr, p⟩ := hh_
  refine ⟨g0, H0, c, g, S, ds, fr, ?_⟩
  unfold cKill at p
  cases q : a ds S with
  | nx ds' S' => rw [q] at p; exact fun g' H' σ' fr' => p g' H' σ' (fr'.kill is)
  | bk ds' S' => rw [q] at p; exact p
  | ct ds' S' => rw [q] at p; exact p
  | rt w S' => rw [q] at p; exact p
  | ex x ds' S' => rw [q] at p; exact p
  | bad => rw [q] at p; exact p
end
inductive Out (σ : Type) where | nx (s : σ) | rt (w : Wv)
noncomputable def Wv.fzn : Wv → Wv
  | .ow so => .fz (Wv.ow so).frz
  | w => w
section
variable {α β σ τ : Type}
noncomputable def pur (a : α) : M α := fun S => .ok a S
noncomputable def bnd (m : M α) (k : α → M β) : M β := fun S => bindR (m S) k
noncomputable def onO (k : σ → Store → R (Out τ)) : Out σ → Store → R (Out τ)
  | .nx s, S => k s S
  | .rt w, S => .ok (.rt w) S
noncomputable def onT (k : σ → Store → R Wv) : Out σ → Store → R Wv
  | .nx s, S => k s S
  | .rt w, S => .ok w S
noncomputable def bnO (m : M (Out σ)) (k : σ → M (Out τ)) : M (Out τ) := fun S => bindR (m S) (onO k)
noncomputable def bnT (m : M (Out σ)) (k : σ → M Wv) : M Wv := fun S => bindR (m S) (onT k)
noncomputable def ift (t : M Bool) (a b : M α) : M α := fun S => bindR (t S) fun c S => if c then a S else b S
noncomputable def forD (body : D → σ → M σ) : List D → σ → M σ
  | [], s => pur s
  | d :: r, s => bnd (body d s) (forD body r)
noncomputable def forO (body : D → σ → M (Out σ)) : List D → σ → M (Out σ)
  | [], s => pur (.nx s)
  | d :: r, s => bnO (body d s) (forO body r)
noncomputable def rd (w : Wv) : M Wv := cBor 0 [some w]
noncomputable def rdD (w : Wv) : M D := cVar 0 [some w]
noncomputable def dUp (m : M D) : M Wv := fun S => bindR (m S) fun d S => .ok (.fz d) S
noncomputable def dFz (m : M Wv) : M D := fun S => bindR (m S) fun w S => .ok w.frz S
noncomputable def dCons (a : M D) (r : M (List D)) : M (List D) := fun S => bindR (a S) fun d S => bindR (r S) fun r S => .ok (d :: r) S
noncomputable def dConsB (a : M Wv) (r : M (List Wv)) : M (List Wv) := fun S => bindR (a S) fun d S => bindR (r S) fun r S => .ok (d :: r) S
noncomputable def dTup (m : M (List D)) : M D := fun S => bindR (m S) fun r S => if szOk r.length then .ok (.tup r) S else .bad
noncomputable def dLst (m : M (List D)) : M Wv := fun S => bindR (m S) fun r S => if szOk r.length then .ok (.ow (.lst r)) S else .bad
noncomputable def dBin (k : Wv → Wv → M α) (a b : M Wv) : M α := fun S => bindR (a S) fun w1 S => bindR (b S) fun w2 S => k w1 w2 S
noncomputable def dUn (k : Wv → M α) (a : M Wv) : M α := fun S => bindR (a S) fun w S => k w S
noncomputable def dBl (p : M Bool) : M Wv := fun S => bindR (p S) fun b S => .ok (.fz (.bl b)) S
noncomputable def dChain (k k' : Wv → Wv → M Bool) (a b c : M Wv) : M Bool := fun S => bindR (a S) fun w1 S => bindR (b S) fun w2 S => bindR (k w1 w2 S) fun z S => if z then bindR (c S) fun w3 S => k' w2 w3 S else .ok false S
noncomputable def dAnd (p q : M Bool) : M Bool := fun S => bindR (p S) fun b S => if b then q S else .ok false S
noncomputable def dOr (p q : M Bool) : M Bool := fun S => bindR (p S) fun b S => if b then .ok true S else q S
noncomputable def dNot (p : M Bool) : M Bool := fun S => bindR (p S) fun b S => .ok (!b) S
noncomputable def dTst (a : M Wv) : M Bool := cTst (fun _ => a) []
noncomputable def dAndV (a b : M Wv) : M Wv := cAndV (fun _ => a) (fun _ => b) []
noncomputable def dOrV (a b : M Wv) : M Wv := cOrV (fun _ => a) (fun _ => b) []
noncomputable def dNotV (a : M Wv) : M Wv := cNotV (fun _ => a) []
noncomputable def dPart (a : M Wv) : M (Option Int) := cPart (fun _ => a) []
noncomputable def dSl (a : M Wv) (l h : M (Option Int)) : M Wv := fun S => bindR (a S) fun w S => bindR (l S) fun lo S => bindR (h S) fun hi S => opSl w lo hi S
noncomputable def dCall (m : Fn) (a : M (List D)) : M Wv := fun S => bindR (a S) fun args S => m args S
noncomputable def dItems (a : M D) : M (List D) := cItems (fun _ => a) []
noncomputable def dFld (f : Str) (cs : List Nat) (a : M Wv) : M D := fun S => bindR (a S) fun w S => fldO f cs S (insW S w)
noncomputable def dMeth (m : Str) (disp : Nat → Option Fn) (o : M D) (fs : M (List D)) : M Wv := cMeth m disp (fun _ => o) (fun _ => fs) []
noncomputable def dMk (c : Nat) (m : FnI) (fs : M (List D)) : M Wv := fun S => bindR (fs S) fun args S => mkO c (m args [] S)
noncomputable def dIsO (tst : Nat → Option Bool) (a : M Wv) : M Wv := fun S => bindR (a S) fun w S => isO tst S (insW S w)
noncomputable def lcStep (t : M Bool) (e : M D) : M (Option D) := fun S => bindR (noEx (t S)) fun b S => if b then bindR (noEx (e S)) (fun y S => .ok (some y) S) else .ok none S
noncomputable def lcS (f : D → M (Option D)) : List D → List D → M Wv
  | [], acc => fun S => .ok (.ow (.lst acc)) S
  | d :: r, acc => fun S => bindR (f d S) fun o S => match o with
    | some y => if szOk (acc.length + 1) then lcS f r (acc ++ [y]) S else .bad
    | none => lcS f r acc S
noncomputable def tyW (ty : String) (w : Wv) (S : Store) : Bool := match w with
  | .ow so => soTy so == some ty
  | .fz (.ref n) => match S[n]? with
    | some so => soTy so == some ty
    | none => false
  | _ => false
noncomputable def mutW (m : Mu) (w : Wv) (args : List D) : M (Wv × D) := fun S => match w with
  | .ow so => match m so args with
    | some (so', d) => .ok (.ow so', d) S
    | none => .bad
  | .fz (.ref n) => match S[n]? with
    | some so => match m so args with
      | some (so', d) => .ok (.fz (.ref n), d) (S.set n so')
      | none => .bad
    | none => .bad
  | _ => .bad
noncomputable def dMut (ty : String) (m : Mu) (w : Wv) (fs : M (List D)) : M Wv := fun S => if tyW ty w S then bindR (fs S) fun args S => bindR (mutW m w args S) fun p S => .ok p.1 S else .bad
noncomputable def dAug (k : Wv → Wv → M Wv) (w : Wv) (a : M Wv) : M Wv := fun S => match w with
  | .xc => .bad
  | w => bindR (a S) fun w2 S => k w w2 S
noncomputable def dMutR (ty : String) (m : Mu) (w : Wv) (fs : M (List D)) : M (Wv × D) := fun S => if tyW ty w S then bindR (fs S) fun args S => mutW m w args S else .bad
noncomputable def dPut (w : Wv) (fv fk : M D) : M Wv := fun S => bindR (fv S) fun v S => if tyW "dict" w S then bindR (fk S) fun k S => bindR (mutW mPut w [k, v] S) fun p S => .ok p.1 S else .bad
noncomputable def dPutL (w : Wv) (fv fk : M D) : M Wv := fun S => bindR (fv S) fun v S => if tyW "list" w S then bindR (fk S) fun k S => bindR (mutW mPutL w [k, v] S) fun p S => .ok p.1 S else .bad
noncomputable def dIdx (a : M Wv) (b : M D) : M Wv := fun S => bindR (a S) fun w S => if (viewL S w).isSome then bindR (b S) fun d S => opIdx w d S else .bad
noncomputable def dMk0 (k : Nat) : M Wv := cMk0 k []
noncomputable def dGet1 (a b : M Wv) : M Wv := cGet1 (fun _ => a) (fun _ => b) []
noncomputable def dGet2 (a b : M Wv) (c : M D) : M Wv := cGet2 (fun _ => a) (fun _ => b) (fun _ => c) []
noncomputable def rzN (c : Nat) (f : Str) (w : Wv) (S : Store) : R α := match w with
  | .fz (.int i) => .ex (c, some (f, i)) S
  | _ => .bad
noncomputable def dRaiseN (c : Nat) (f : Str) (a : M Wv) : M α := fun S => bindR (a S) (rzN c f)
noncomputable def dDp : List (Str × M D) → M (List (Key × D))
  | [], S => .ok [] S
  | (k, f) :: r, S => bindR (f S) fun d S => bindR (dDp r S) fun kvs S => .ok ((.inr k, d) :: kvs) S
noncomputable def dDisp (ks : List (Str × M D)) : M Wv := fun S => bindR (dDp ks S) fun kvs S => .ok (.ow (.dct (mergeD kvs))) S
noncomputable def dDpG : List (M D × M D) → M (List (Key × D))
  | [], S => .ok [] S
  | (k, f) :: r, S => bindR (k S) fun kd S => bindR (f S) fun d S => bindR (dDpG r S) fun kvs S => match keyD kd with
    | some k => .ok ((k, d) :: kvs) S
    | none => .bad
noncomputable def dDispG (ks : List (M D × M D)) : M Wv := fun S => bindR (dDpG ks S) fun kvs S => .ok (.ow (.dct (mergeD kvs))) S
noncomputable def dErF (a : M D) : M Wv := cErF (fun _ => a) []
noncomputable def dCallR (f : Fn) (fs : M (List D)) : M Wv := cCallR f (fun _ => fs) []
noncomputable def dMutX (ty : String) (m : Mu) (o : M Wv) (fs : M (List D)) : M Wv := cMutX ty m (fun _ => o) (fun _ => fs) []
noncomputable def shrR : R Wv → R Wv
  | .ok w S => .ok w S
  | _ => .bad
noncomputable def dShr (w : Wv) (d : Wv → M Wv) : M Wv := fun S => match w with
  | .ow so => shrR (d (.fz (.ref S.length)) (S ++ [so]))
  | _ => .bad
noncomputable def gdB (ck : Store → Bool) (m : M σ) : M σ := fun S => match m S with
  | .ok s S2 => if ck S2 then .ok s S2 else .bad
  | r => r
noncomputable def gdO (ck : Store → Bool) (m : M (Out σ)) : M (Out σ) := fun S => match m S with
  | .ok (.nx s) S2 => if ck S2 then .ok (.nx s) S2 else .bad
  | r => r
noncomputable def dForS (m : M D) (k : (Store → Bool) → List D → M σ) : M σ := fun S => bindR (m S) fun d S => match refL d S with
  | some (n, xs) => k (sameL n xs) xs S
  | none => .bad
noncomputable def dLend (w : Wv) (ok : α → Bool) (d : Wv → M α) : M α := fun S => match w with
  | .ow (.lst xs) => lendR ok (d (.fz (.lst xs)) S)
  | _ => .bad
noncomputable def dLendTK (w : Wv) (d : Wv → M Bool) : M Bool := fun S => match w with
  | .ow (.lst xs) => lendR (fun _ => true) (d (.fz (.lst xs)) S)
  | .ow (.dct kvs) => lendRK (d (.fz (.dct kvs)) S)
  | _ => .bad
noncomputable def dRaise (c : Nat) : M α := fun S => .ex (c, none) S
noncomputable def dTry (tst : Nat → Option Bool) (E : Env) (m : M α) (h : Xn → M α) : M α := fun S => match m S with
  | .ex x S => match tst x.1 with
    | some true => if noXc E then noEx (h x S) else .bad
    | some false => .ex x S
    | none => .bad
  | r => r
noncomputable def dXis (tst : Nat → Option Bool) (y : Xn) : M Wv := cXis 0 tst y [some .xc]
end
noncomputable def un1 {β : Type} (w : Wv) (k : D → M β) : M β := fun S => match itemsOf S w with
  | some [x0] => k x0 S
  | _ => .bad
noncomputable def un2 {β : Type} (w : Wv) (k : D → D → M β) : M β := fun S => match itemsOf S w with
  | some [x0, x1] => k x0 x1 S
  | _ => .bad
noncomputable def un3 {β : Type} (w : Wv) (k : D → D → D → M β) : M β := fun S => match itemsOf S w with
  | some [x0, x1, x2] => k x0 x1 x2 S
  | _ => .bad
noncomputable def un4 {β : Type} (w : Wv) (k : D → D → D → D → M β) : M β := fun S => match itemsOf S w with
  | some [x0, x1, x2, x3] => k x0 x1 x2 x3 S
  | _ => .bad
noncomputable def un5 {β : Type} (w : Wv) (k : D → D → D → D → D → M β) : M β := fun S => match itemsOf S w with
  | some [x0, x1, x2, x3, x4] => k x0 x1 x2 x3 x4 S
  | _ => .bad
noncomputable def un6 {β : Type} (w : Wv) (k : D → D → D → D → D → D → M β) : M β := fun S => match itemsOf S w with
  | some [x0, x1, x2, x3, x4, x5] => k x0 x1 x2 x3 x4 x5 S
  | _ => .bad
noncomputable def un7 {β : Type} (w : Wv) (k : D → D → D → D → D → D → D → M β) : M β := fun S => match itemsOf S w with
  | some [x0, x1, x2, x3, x4, x5, x6] => k x0 x1 x2 x3 x4 x5 x6 S
  | _ => .bad
noncomputable def un8 {β : Type} (w : Wv) (k : D → D → D → D → D → D → D → D → M β) : M β := fun S => match itemsOf S w with
  | some [x0, x1, x2, x3, x4, x5, x6, x7] => k x0 x1 x2 x3 x4 x5 x6 x7 S
  | _ => .bad
noncomputable def nrm : RS → RS
  | .ex x _ S => .ex x [] S
  | r => r
noncomputable def inX {σ : Type} (E : σ → Env) : R σ → RS
  | .ok s S => .nx (E s) S
  | .ex x S => .ex x [] S
  | .bad => .bad
noncomputable def inU {σ : Type} (E : σ → Env) : R (Out σ) → RS
  | .ok (.nx s) S => .nx (E s) S
  | .ok (.rt w) S => .rt w S
  | .ex x S => .ex x [] S
  | .bad => .bad
noncomputable def Bl {σ : Type} (c : CS) (E : Env) (E' : σ → Env) (d : M σ) : Prop := ∀ S, nrm (c E S) = inX E' (d S)
noncomputable def BO {σ : Type} (c : CS) (E : Env) (E' : σ → Env) (d : M (Out σ)) : Prop := ∀ S, nrm (c E S) = inU E' (d S)
noncomputable def Tl (c : CS) (E : Env) (d : M Wv) : Prop := ∀ S, outF (c E S) = d S
noncomputable def BX {σ : Type} (c : CS) (E : Env) (E' : σ → Env) (d : M σ) : Prop := ∀ S, c E S = match d S with
  | .ok s S => .nx (E' s) S
  | .ex x S => .ex x E S
  | .bad => .bad
section
variable {α β σ τ ρ : Type} {a b : CS} {w : Wv} {E E0 : Env} {E1 : σ → Env} {E2 : τ → Env} {i : Nat} {t : Env → M Bool} {f f1 : CE}
theorem BX.bl {d : M σ} (h : BX a E E1 d) : Bl a E E1 d := fun S => by
  rw [h S]
  cases d S <;> rfl
theorem Bl.bo {d : M σ} (h : Bl a E E1 d) : BO a E E1 (bnd d fun s => pur (.nx s)) := fun S => by
  rw [h S]
  unfold bnd
  cases d S <;> rfl
theorem bl_seq {d : M σ} {k : σ → M τ} (h : Bl a E E1 d) (r : ∀ s, Bl b (E1 s) E2 (k s)) : Bl (cSeq a b) E E2 (bnd d k) := fun S => by
  have h := h S
  unfold cSeq bnd
  cases q : a E S with
  | nx ds S' =>
    rw [q] at h
    cases q2 : d S with
    | ok s S2 =>
      rw [q2] at h
      cases h
      exact r s _
    | ex x S2 => rw [q2] at h; cases h
    | bad => rw [q2] at h; cases h
  | ex x ds S' =>
    rw [q] at h
    cases q2 : d S with
    | ok s S2 => rw [q2] at h; cases h
    | ex x S2 => rw [q2] at h; exact h
    | bad => rw [q2] at h; cases h
  | bad =>
    rw [q] at h
    cases q2 : d S with
    | ok s S2 => rw [q2] at h; cases h
    | ex x S2 => rw [q2] at h; cases h
    | bad => rfl
  | rt w S' => rw [q] at h; cases q2 : d S <;> (rw [q2] at h; cases h)
  | bk w S' => rw [q] at h; cases q2 : d S <;> (rw [q2] at h; cases h)
  | ct w S' => rw [q] at h; cases q2 : d S <;> (rw [q2] at h; cases h)
theorem bo_seq {d : M (Out σ)} {k : σ → M (Out τ)} (h : BO a E E1 d) (r : ∀ s, BO b (E1 s) E2 (k s)) : BO (cSeq a b) E E2 (bnO d k) := fun S => by
  have h := h S
  unfold cSeq bnO
  cases q : a E S with
  | nx ds S' =>
    rw [q] at h
    cases q2 : d S with
    | ok s S2 =>
      rw [q2] at h
      cases s with
      | nx s =>
        cases h
        exact r s _
      | rt w => cases h
    | ex x S2 => rw [q2] at h; cases h
    | bad => rw [q2] at h; cases h
  | ex x ds S' =>
    rw [q] at h
    cases q2 : d S with
    | ok s S2 => rw [q2] at h; cases s <;> cases h
    | ex x S2 => rw [q2] at h; exact h
    | bad => rw [q2] at h; cases h
  | bad =>
    rw [q] at h
    cases q2 : d S with
    | ok s S2 => rw [q2] at h; cases s <;> cases h
    | ex x S2 => rw [q2] at h; cases h
    | bad => rfl
  | rt w S' =>
    rw [q] at h
    cases q2 : d S with
    | ok s S2 =>
      rw [q2] at h
      cases s with
      | nx s => cases h
      | rt w => exact h
    | ex x S2 => rw [q2] at h; cases h
    | bad => rw [q2] at h; cases h
  | bk w S' => rw [q] at h; cases q2 : d S with
    | ok s S2 => rw [q2] at h; cases s <;> cases h
    | ex x S2 => rw [q2] at h; cases h
    | bad => rw [q2] at h; cases h
  | ct w S' => rw [q] at h; cases q2 : d S with
    | ok s S2 => rw [q2] at h; cases s <;> cases h
    | ex x S2 => rw [q2] at h; cases h
    | bad => rw [q2] at h; cases h
theorem tl_seq {d : M (Out σ)} {k : σ → M Wv} (h : BO a E E1 d) (r : ∀ s, Tl b (E1 s) (k s)) : Tl (cSeq a b) E (bnT d k) := fun S => by
  have h := h S
  unfold cSeq bnT
  cases q : a E S with
  | nx ds S' =>
    rw [q] at h
    cases q2 : d S with
    | ok s S2 =>
      rw [q2] at h
      cases s with
      | nx s =>
        cases h
        exact r s _
      | rt w => cases h
    | ex x S2 => rw [q2] at h; cases h
    | bad => rw [q2] at h; cases h
  | ex x ds S' =>
    rw [q] at h
    cases q2 : d S with
    | ok s S2 => rw [q2] at h; cases s <;> cases h
    | ex x S2 => rw [q2] at h; cases h; rfl
    | bad => rw [q2] at h; cases h
  | bad =>
    rw [q] at h
    cases q2 : d S with
    | ok s S2 => rw [q2] at h; cases s <;> cases h
    | ex x S2 => rw [q2] at h; cases h
    | bad => rfl
  | rt w S' =>
    rw [q] at h
    cases q2 : d S with
    | ok s S2 =>
      rw [q2] at h
      cases s with
      | nx s => cases h
      | rt w => cases h; rfl
    | ex x S2 => rw [q2] at h; cases h
    | bad => rw [q2] at h; cases h
  | bk w S' => rw [q] at h; cases q2 : d S with
    | ok s S2 => rw [q2] at h; cases s <;> cases h
    | ex x S2 => rw [q2] at h; cases h
    | bad => rw [q2] at h; cases h
  | ct w S' => rw [q] at h; cases q2 : d S with
    | ok s S2 => rw [q2] at h; cases s <;> cases h
    | ex x S2 => rw [q2] at h; cases h
    | bad => rw [q2] at h; cases h
theorem onO_pur {d : M σ} {k : σ → M (Out τ)} (S : Store) : bnO (bnd d fun s => pur (.nx s)) k S = bnd d k S := by
  unfold bnO bnd
  cases d S <;> rfl
theorem onT_pur {d : M σ} {k : σ → M Wv} (S : Store) : bnT (bnd d fun s => pur (.nx s)) k S = bnd d k S := by
  unfold bnT bnd
  cases d S <;> rfl
theorem bo_seq1 {d : M σ} {k : σ → M (Out τ)} (h : Bl a E E1 d) (r : ∀ s, BO b (E1 s) E2 (k s)) : BO (cSeq a b) E E2 (bnd d k) := fun S => by
  rw [← onO_pur S]
  exact bo_seq h.bo r S
theorem tl_seq1 {d : M σ} {k : σ → M Wv} (h : Bl a E E1 d) (r : ∀ s, Tl b (E1 s) (k s)) : Tl (cSeq a b) E (bnd d k) := fun S => by
  rw [← onT_pur S]
  exact tl_seq h.bo r S
theorem bl_last {d : M σ} {k : σ → τ} (h : Bl a E E1 d) (e : ∀ s, E1 s = E2 (k s)) : Bl a E E2 (bnd d fun s => pur (k s)) := fun S => by
  rw [h S]
  unfold bnd
  cases d S with
  | ok s S => exact congrArg (RS.nx · S) (e s)
  | ex x S => rfl
  | bad => rfl
theorem bo_last {d : M (Out σ)} {k : σ → τ} (h : BO a E E1 d) (e : ∀ s, E1 s = E2 (k s)) : BO a E E2 (bnO d fun s => pur (.nx (k s))) := fun S => by
  rw [h S]
  unfold bnO
  cases d S with
  | ok s S =>
    cases s with
    | nx s => exact congrArg (RS.nx · S) (e s)
    | rt w => rfl
  | ex x S => rfl
  | bad => rfl
theorem bx_set {d : M Wv} {E1 : Wv → Env} (hi : i < E.length) (hf : f E = d) (e : ∀ w, E.set i (some w) = E1 w) : BX (cSet i f) E E1 d := fun S => by
  show liftR (f E S) E (fun w S => setE i w E S) = _
  rw [hf]
  cases d S with
  | ok w S =>
    show setE i w E S = _
    unfold setE
    rw [if_pos hi, e]
  | ex x S => rfl
  | bad => rfl
theorem bx_drop {d : M Wv} (hf : f E = d) : BX (cDrop f) E (fun _ : Unit => E) (bnd d fun _ => pur ()) := fun S => by
  show liftR (f E S) E (fun w S => .nx E S) = _
  rw [hf]
  unfold bnd
  cases d S <;> rfl
theorem bl_set {d : M Wv} {E1 : Wv → Env} (hi : i < E.length) (hf : f E = d) (e : ∀ w, E.set i (some w) = E1 w) : Bl (cSet i f) E E1 d := (bx_set hi hf e).bl
theorem bl_drop {d : M Wv} (hf : f E = d) : Bl (cDrop f) E (fun _ : Unit => E) (bnd d fun _ => pur ()) := (bx_drop hf).bl
theorem set_self {l : List α} {i : Nat} {x : α} (h : l[i]? = some x) : l.set i x = l := by
  apply List.ext_getElem?
  intro j
  rw [List.getElem?_set]
  split
  · rename_i e
    subst e
    split
    · exact h.symm
    · rename_i hn
      rw [List.getElem?_eq_none (by omega)] at h
      cases h
  · rfl
theorem bl_mut {d : M (List D)} {ty : String} {m : Mu} {w : Wv} {fs : Env → M (List D)} {E1 : Wv → Env} (hw : E[i]? = some (some w)) (hf : fs E = d) (e : ∀ w, E.set i (some w) = E1 w) : Bl (cMut i ty m fs) E E1 (dMut ty m w d) := fun S => by
  have hi : i < E.length := (List.getElem?_eq_some_iff.mp hw).1
  have ty' : slTy i ty E S = tyW ty w S := by
    unfold slTy tyW
    rw [hw]
    cases w with
    | fz x => cases x <;> rfl
    | ow so => rfl
    | xc => rfl
  unfold cMut dMut
  rw [ty', hf]
  cases tyW ty w S with
  | false => rfl
  | true =>
    show nrm (liftR (d S) E fun args S => mutE i m args E S fun _ ds S => .nx ds S) = inX E1 (bindR (d S) fun args S => bindR (mutW m w args S) fun p S => .ok p.1 S)
    cases d S with
    | ex x S => rfl
    | bad => rfl
    | ok args S =>
      show nrm (mutE i m args E S fun _ ds S => .nx ds S) = inX E1 (bindR (mutW m w args S) fun p S => .ok p.1 S)
      unfold mutE mutW
      rw [hw]
      cases w with
      | xc => rfl
      | ow so =>
        dsimp only
        cases m so args with
        | none => rfl
        | some p => exact congrArg (RS.nx · S) (e _)
      | fz x =>
        cases x with
        | ref n =>
          dsimp only
          cases S[n]? with
          | none => rfl
          | some so =>
            dsimp only
            cases m so args with
            | none => rfl
            | some p =>
              refine congrArg (RS.nx · _) ?_
              rw [← e, set_self hw]
        | _ => rfl
theorem frz_set {w : Wv} (hw : E[i]? = some (some w)) : frzE i E = E.set i (some w.fzn) := by
  rw [s_frzE, hw]
  cases w with
  | fz d => exact (set_self hw).symm
  | xc => exact (set_self hw).symm
  | ow so => rfl
theorem tl_frz {d : M Wv} (w : Wv) (hw : E[i]? = some (some w)) (e : E.set i (some w.fzn) = E0) (h : Tl a E0 d) : Tl (cFrz i a) E d := fun S => by
  show outF (a (frzE i E) S) = _
  rw [frz_set hw, e]
  exact h S
theorem bl_kill {is : List Nat} {d : M σ} {E3 : σ → Env} (h : Bl a E E1 d) (e : ∀ s, killE is (E1 s) = E3 s) : Bl (cKill is a) E E3 d := fun S => by
  have h := h S
  unfold cKill
  cases q : a E S with
  | nx ds S' =>
    rw [q] at h
    cases q2 : d S with
    | ok s S2 => rw [q2] at h; cases h; exact congrArg (RS.nx · _) (e s)
    | ex x S2 => rw [q2] at h; cases h
    | bad => rw [q2] at h; cases h
  | ex x ds S' => rw [q] at h; cases q2 : d S with
    | ok s S2 => rw [q2] at h; cases h
    | ex x S2 => rw [q2] at h; exact h
    | bad => rw [q2] at h; cases h
  | bad => rw [q] at h; cases q2 : d S with
    | ok s S2 => rw [q2] at h; cases h
    | ex x S2 => rw [q2] at h; cases h
    | bad => rfl
  | rt w S' => rw [q] at h; cases q2 : d S <;> (rw [q2] at h; cases h)
  | bk w S' => rw [q] at h; cases q2 : d S <;> (rw [q2] at h; cases h)
  | ct w S' => rw [q] at h; cases q2 : d S <;> (rw [q2] at h; cases h)
theorem bo_kill {is : List Nat} {d : M (Out σ)} {E3 : σ → Env} (h : BO a E E1 d) (e : ∀ s, killE is (E1 s) = E3 s) : BO (cKill is a) E E3 d := fun S => by
  have h := h S
  unfold cKill
  cases q : a E S with
  | nx ds S' =>
    rw [q] at h
    cases q2 : d S with
    | ok s S2 =>
      rw [q2] at h
      cases s with
      | nx s => cases h; exact congrArg (RS.nx · _) (e s)
      | rt w => cases h
    | ex x S2 => rw [q2] at h; cases h
    | bad => rw [q2] at h; cases h
  | ex x ds S' => rw [q] at h; cases q2 : d S with
    | ok s S2 => rw [q2] at h; cases s <;> cases h
    | ex x S2 => rw [q2] at h; exact h
    | bad => rw [q2] at h; cases h
  | bad => rw [q] at h; cases q2 : d S with
    | ok s S2 => rw [q2] at h; cases s <;> cases h
    | ex x S2 => rw [q2] at h; cases h
    | bad => rfl
  | rt w S' => rw [q] at h; cases q2 : d S with
    | ok s S2 =>
      rw [q2] at h
      cases s with
      | nx s => cases h
      | rt w => exact h
    | ex x S2 => rw [q2] at h; cases h
    | bad => rw [q2] at h; cases h
  | bk w S' => rw [q] at h; cases q2 : d S with
    | ok s S2 => rw [q2] at h; cases s <;> cases h
    | ex x S2 => rw [q2] at h; cases h
    | bad => rw [q2] at h; cases h
  | ct w S' => rw [q] at h; cases q2 : d S with
    | ok s S2 => rw [q2] at h; cases s <;> cases h
    | ex x S2 => rw [q2] at h; cases h
    | bad => rw [q2] at h; cases h
theorem tl_kill {is : List Nat} {d : M Wv} (h : Tl a E d) : Tl (cKill is a) E d := fun S => by
  rw [← h S]
  unfold cKill
  cases a E S <;> rfl
theorem tl_ret {d : M Wv} (hf : f E = d) : Tl (cRet f) E d := fun S => by
  show outF (liftR (f E S) E fun w S => .rt w S) = _
  rw [hf]
  cases d S <;> rfl
theorem bo_ret {d : M Wv} (hf : f E = d) : BO (cRet f) E E1 (bnd d fun w => pur (.rt w)) := fun S => by
  show nrm (liftR (f E S) E fun w S => .rt w S) = _
  rw [hf]
  unfold bnd
  cases d S <;> rfl
theorem tl_retV {w : Wv} (hw : E[i]? = some (some w)) : Tl (cRetV i) E (rd w) := fun S => by
  unfold cRetV
  rw [hw]
  cases w <;> rfl
theorem tl_raise {k : Nat} : Tl (cRaise k) E (dRaise k) := fun _ => rfl
theorem tl_skip : Tl cSkip E (pur (.fz .non)) := fun _ => rfl
theorem bl_if {c : M Bool} {d d' : M σ} (ht : t E = c) (ha : Bl a E E1 d) (hb : Bl b E E1 d') : Bl (cIfS t a b) E E1 (ift c d d') := fun S => by
  show nrm (liftR (t E S) E fun k S => if k then a E S else b E S) = _
  rw [ht]
  unfold ift
  cases c S with
  | ok k S =>
    cases k with
    | true => exact ha S
    | false => exact hb S
  | ex x S => rfl
  | bad => rfl
theorem bo_if {c : M Bool} {d d' : M (Out σ)} (ht : t E = c) (ha : BO a E E1 d) (hb : BO b E E1 d') : BO (cIfS t a b) E E1 (ift c d d') := fun S => by
  show nrm (liftR (t E S) E fun k S => if k then a E S else b E S) = _
  rw [ht]
  unfold ift
  cases c S with
  | ok k S =>
    cases k with
    | true => exact ha S
    | false => exact hb S
  | ex x S => rfl
  | bad => rfl
theorem tl_if {c : M Bool} {d d' : M Wv} (ht : t E = c) (ha : Tl a E d) (hb : Tl b E d') : Tl (cIfS t a b) E (ift c d d') := fun S => by
  show outF (liftR (t E S) E fun k S => if k then a E S else b E S) = _
  rw [ht]
  unfold ift
  cases c S with
  | ok k S =>
    cases k with
    | true => exact ha S
    | false => exact hb S
  | ex x S => rfl
  | bad => rfl
noncomputable def StepB (t : Tgt) (body : CS) (Es : σ → Env) (bd : D → σ → M σ) : Prop := ∀ d s S, (match asgT t (.fz d) S (Es s) with
  | none => RS.bad
  | some ds => nrm (body ds S)) = inX Es (bd d s S)
noncomputable def StepO (t : Tgt) (body : CS) (Es : σ → Env) (bd : D → σ → M (Out σ)) : Prop := ∀ d s S, (match asgT t (.fz d) S (Es s) with
  | none => RS.bad
  | some ds => nrm (body ds S)) = inU Es (bd d s S)
theorem forB {t : Tgt} {Es : σ → Env} {bd : D → σ → M σ} (h : StepB t a Es bd) : ∀ (items : List D) (s : σ) (S : Store), nrm (forRun t a items (Es s) S) = inX Es (forD bd items s S)
  | [], s, S => rfl
  | d :: r, s, S => by
    have h' := h d s S
    unfold forRun forD bnd
    cases q : asgT t (.fz d) S (Es s) with
    | none =>
      rw [q] at h'
      cases q2 : bd d s S with
      | ok s' S2 => rw [q2] at h'; cases h'
      | ex x S2 => rw [q2] at h'; cases h'
      | bad => rfl
    | some ds1 =>
      rw [q] at h'
      dsimp only at h' ⊢
      cases q3 : a ds1 S with
      | nx ds2 S2 =>
        rw [q3] at h'
        cases q2 : bd d s S with
        | ok s' S3 =>
          rw [q2] at h'
          cases h'
          exact forB h r s' _
        | ex x S3 => rw [q2] at h'; cases h'
        | bad => rw [q2] at h'; cases h'
      | ex x ds2 S2 => rw [q3] at h'; cases q2 : bd d s S with
        | ok s S2 => rw [q2] at h'; cases h'
        | ex x S2 => rw [q2] at h'; exact h'
        | bad => rw [q2] at h'; cases h'
      | bad => rw [q3] at h'; cases q2 : bd d s S with
        | ok s S2 => rw [q2] at h'; cases h'
        | ex x S2 => rw [q2] at h'; cases h'
        | bad => rfl
      | rt w S' => rw [q3] at h'; cases q2 : bd d s S <;> (rw [q2] at h'; cases h')
      | bk w S' => rw [q3] at h'; cases q2 : bd d s S <;> (rw [q2] at h'; cases h')
      | ct w S' => rw [q3] at h'; cases q2 : bd d s S <;> (rw [q2] at h'; cases h')
theorem forBO {t : Tgt} {Es : σ → Env} {bd : D → σ → M (Out σ)} (h : StepO t a Es bd) : ∀ (items : List D) (s : σ) (S : Store), nrm (forRun t a items (Es s) S) = inU Es (forO bd items s S)
  | [], s, S => rfl
  | d :: r, s, S => by
    have h' := h d s S
    unfold forRun forO bnO
    cases q : asgT t (.fz d) S (Es s) with
    | none =>
      rw [q] at h'
      cases q2 : bd d s S with
      | ok s' S2 => rw [q2] at h'; cases s' <;> cases h'
      | ex x S2 => rw [q2] at h'; cases h'
      | bad => rfl
    | some ds1 =>
      rw [q] at h'
      dsimp only at h' ⊢
      cases q3 : a ds1 S with
      | nx ds2 S2 =>
        rw [q3] at h'
        cases q2 : bd d s S with
        | ok s' S3 =>
          rw [q2] at h'
          cases s' with
          | nx s' =>
            cases h'
            exact forBO h r s' _
          | rt w => cases h'
        | ex x S3 => rw [q2] at h'; cases h'
        | bad => rw [q2] at h'; cases h'
      | ex x ds2 S2 => rw [q3] at h'; cases q2 : bd d s S with
        | ok s S2 => rw [q2] at h'; cases s <;> cases h'
        | ex x S2 => rw [q2] at h'; exact h'
        | bad => rw [q2] at h'; cases h'
      | bad => rw [q3] at h'; cases q2 : bd d s S with
        | ok s S2 => rw [q2] at h'; cases s <;> cases h'
        | ex x S2 => rw [q2] at h'; cases h'
        | bad => rfl
      | rt w S' => rw [q3] at h'; cases q2 : bd d s S with
        | ok s S2 =>
          rw [q2] at h'
          cases s with
          | nx s => cases h'
          | rt w => exact h'
        | ex x S2 => rw [q2] at h'; cases h'
        | bad => rw [q2] at h'; cases h'
      | bk w S' => rw [q3] at h'; cases q2 : bd d s S with
        | ok s S2 => rw [q2] at h'; cases s <;> cases h'
        | ex x S2 => rw [q2] at h'; cases h'
        | bad => rw [q2] at h'; cases h'
      | ct w S' => rw [q3] at h'; cases q2 : bd d s S with
        | ok s S2 => rw [q2] at h'; cases s <;> cases h'
        | ex x S2 => rw [q2] at h'; cases h'
        | bad => rw [q2] at h'; cases h'
theorem bl_for {t : Tgt} {Es : σ → Env} {bd : D → σ → M σ} {fi : Env → M (List D)} {di : M (List D)} (s0 : σ) (hE : E = Es s0) (hi : fi E = di) (h : StepB t a Es bd) : Bl (cFor fi t a) E Es (bnd di fun items => forD bd items s0) := fun S => by
  show nrm (liftR (fi E S) E fun items S => forRun t a items E S) = _
  rw [hi]
  unfold bnd
  cases di S with
  | ok items S =>
    show nrm (forRun t a items E S) = _
    rw [hE]
    exact forB h items s0 S
  | ex x S => rfl
  | bad => rfl
theorem bo_for {t : Tgt} {Es : σ → Env} {bd : D → σ → M (Out σ)} {fi : Env → M (List D)} {di : M (List D)} (s0 : σ) (hE : E = Es s0) (hi : fi E = di) (h : StepO t a Es bd) : BO (cFor fi t a) E Es (bnd di fun items => forO bd items s0) := fun S => by
  show nrm (liftR (fi E S) E fun items S => forRun t a items E S) = _
  rw [hi]
  unfold bnd
  cases di S with
  | ok items S =>
    show nrm (forRun t a items E S) = _
    rw [hE]
    exact forBO h items s0 S
  | ex x S => rfl
  | bad => rfl
theorem StepB.grd {t : Tgt} {Es : σ → Env} {bd : D → σ → M σ} (ck : Store → Bool) (h : StepB t a Es bd) : StepB t (Mir.grd ck a) Es (fun d s => gdB ck (bd d s)) := fun d s S => by
  have q := h d s S
  show (match asgT t (.fz d) S (Es s) with
    | none => RS.bad
    | some ds => nrm (Mir.grd ck a ds S)) = inX Es (gdB ck (bd d s) S)
  unfold Mir.grd gdB
  cases q0 : asgT t (.fz d) S (Es s) with
  | none =>
    rw [q0] at q
    dsimp only at q ⊢
    cases q2 : bd d s S with
    | ok s' S2 => rw [q2] at q; cases q
    | ex x S2 => rw [q2] at q; cases q
    | bad => rfl
  | some ds =>
    rw [q0] at q
    dsimp only at q ⊢
    cases q1 : a ds S with
    | nx d2 S2 =>
      rw [q1] at q
      cases q2 : bd d s S with
      | ok s' S3 =>
        rw [q2] at q
        cases q
        dsimp only
        split <;> rfl
      | ex x S3 => rw [q2] at q; cases q
      | bad => rw [q2] at q; cases q
    | ct d2 S2 =>
      rw [q1] at q
      cases q2 : bd d s S <;> (rw [q2] at q; cases q)
    | bk d2 S2 =>
      rw [q1] at q
      cases q2 : bd d s S <;> (rw [q2] at q; cases q)
    | rt w S2 =>
      rw [q1] at q
      cases q2 : bd d s S <;> (rw [q2] at q; cases q)
    | ex x d2 S2 =>
      rw [q1] at q
      cases q2 : bd d s S with
      | ok s' S3 => rw [q2] at q; cases q
      | ex x S3 => rw [q2] at q; exact q
      | bad => rw [q2] at q; cases q
    | bad =>
      rw [q1] at q
      cases q2 : bd d s S with
      | ok s' S3 => rw [q2] at q; cases q
      | ex x S3 => rw [q2] at q; cases q
      | bad => rfl
theorem StepO.grd {t : Tgt} {Es : σ → Env} {bd : D → σ → M (Out σ)} (ck : Store → Bool) (h : StepO t a Es bd) : StepO t (Mir.grd ck a) Es (fun d s => gdO ck (bd d s)) := fun d s S => by
  have q := h d s S
  show (match asgT t (.fz d) S (Es s) with
    | none => RS.bad
    | some ds => nrm (Mir.grd ck a ds S)) = inU Es (gdO ck (bd d s) S)
  unfold Mir.grd gdO
  cases q0 : asgT t (.fz d) S (Es s) with
  | none =>
    rw [q0] at q
    dsimp only at q ⊢
    cases q2 : bd d s S with
    | ok s' S2 => rw [q2] at q; cases s' <;> cases q
    | ex x S2 => rw [q2] at q; cases q
    | bad => rfl
  | some ds =>
    rw [q0] at q
    dsimp only at q ⊢
    cases q1 : a ds S with
    | nx d2 S2 =>
      rw [q1] at q
      cases q2 : bd d s S with
      | ok s' S3 =>
        rw [q2] at q
        cases s' with
        | nx s' =>
          cases q
          dsimp only
          split <;> rfl
        | rt w => cases q
      | ex x S3 => rw [q2] at q; cases q
      | bad => rw [q2] at q; cases q
    | ct d2 S2 =>
      rw [q1] at q
      cases q2 : bd d s S with
      | ok s' S3 => rw [q2] at q; cases s' <;> cases q
      | ex x S3 => rw [q2] at q; cases q
      | bad => rw [q2] at q; cases q
    | bk d2 S2 =>
      rw [q1] at q
      cases q2 : bd d s S with
      | ok s' S3 => rw [q2] at q; cases s' <;> cases q
      | ex x S3 => rw [q2] at q; cases q
      | bad => rw [q2] at q; cases q
    | rt w S2 =>
      rw [q1] at q
      cases q2 : bd d s S with
      | ok s' S3 =>
        rw [q2] at q
        cases s' with
        | nx s' => cases q
        | rt w2 => cases q; rfl
      | ex x S3 => rw [q2] at q; cases q
      | bad => rw [q2] at q; cases q
    | ex x d2 S2 =>
      rw [q1] at q
      cases q2 : bd d s S with
      | ok s' S3 => rw [q2] at q; cases s' <;> cases q
      | ex x S3 => rw [q2] at q; exact q
      | bad => rw [q2] at q; cases q
    | bad =>
      rw [q1] at q
      cases q2 : bd d s S with
      | ok s' S3 => rw [q2] at q; cases s' <;> cases q
      | ex x S3 => rw [q2] at q; cases q
      | bad => rfl
theorem bl_forS {t : Tgt} {Es : σ → Env} {bd : D → σ → M σ} {f : Env → M D} {m : M D} (s0 : σ) (hE : E = Es s0) (hi : f E = m) (h : StepB t a Es bd) : Bl (cForS f t a) E Es (dForS m fun ck items => forD (fun d s => gdB ck (bd d s)) items s0) := fun S => by
  show nrm (liftR (f E S) E fun d S => match refL d S with
    | some (n, xs) => forRun t (Mir.grd (sameL n xs) a) xs E S
    | none => .bad) = _
  rw [hi]
  unfold dForS
  cases m S with
  | ok d S =>
    dsimp only [liftR, bindR]
    cases refL d S with
    | none => rfl
    | some q =>
      obtain ⟨n, xs⟩ := q
      dsimp only
      rw [hE]
      exact forB (h.grd _) xs s0 S
  | ex x S => rfl
  | bad => rfl
theorem sb_nm {Es : σ → Env} {E3 : D → σ → Env} {bd : D → σ → M σ} (hi : ∀ s, i < (Es s).length) (e : ∀ d s, (Es s).set i (some (.fz d)) = E3 d s) (h : ∀ d s, Bl a (E3 d s) Es (bd d s)) : StepB (.nm i) a Es bd := fun d s S => by
  rw [s_asgN, if_pos (hi s), e]
  exact h d s S
theorem so_nm {Es : σ → Env} {E3 : D → σ → Env} {bd : D → σ → M (Out σ)} (hi : ∀ s, i < (Es s).length) (e : ∀ d s, (Es s).set i (some (.fz d)) = E3 d s) (h : ∀ d s, BO a (E3 d s) Es (bd d s)) : StepO (.nm i) a Es bd := fun d s S => by
  rw [s_asgN, if_pos (hi s), e]
  exact h d s S
theorem asg2 {S : Store} {w : Wv} {i0 i1 : Nat} {β : Type} (E : Env) (hi0 : i0 < E.length) (hi1 : i1 < E.length) (g : Option Env → β) (k : D → D → β) (z : β) (hk : ∀ x0 x1, g (some ((E.set i0 (some (.fz x0))).set i1 (some (.fz x1)))) = k x0 x1) (hz : g none = z) : g (asgT (.tp [i0, i1]) w S E) = match itemsOf S w with
  | some [x0, x1] => k x0 x1
  | _ => z := by
  show g (setO [i0, i1] (itemsOf S w) E) = _
  cases itemsOf S w with
  | none => exact hz
  | some l =>
    show g (setAll [i0, i1] l E) = _
    match l with
    | [] =>
      exact hz
    | x0 :: l =>
      match l with
      | [] =>
        rw [setAll, if_pos (by simpa using hi0)]
        exact hz
      | x1 :: l =>
        match l with
        | [] =>
          rw [setAll, if_pos (by simpa using hi0), setAll, if_pos (by simpa using hi1)]
          exact hk x0 x1
        | _ :: _ =>
          rw [setAll, if_pos (by simpa using hi0), setAll, if_pos (by simpa using hi1)]
          exact hz
theorem asg6 {S : Store} {w : Wv} {i0 i1 i2 i3 i4 i5 : Nat} {β : Type} (E : Env) (hi0 : i0 < E.length) (hi1 : i1 < E.length) (hi2 : i2 < E.length) (hi3 : i3 < E.length) (hi4 : i4 < E.length) (hi5 : i5 < E.length) (g : Option Env → β) (k : D → D → D → D → D → D → β) (z : β) (hk : ∀ x0 x1 x2 x3 x4 x5, g (some ((((((E.set i0 (some (.fz x0))).set i1 (some (.fz x1))).set i2 (some (.fz x2))).set i3 (some (.fz x3))).set i4 (some (.fz x4))).set i5 (some (.fz x5)))) = k x0 x1 x2 x3 x4 x5) (hz : g none = z) : g (asgT (.tp [i0, i1, i2, i3, i4, i5]) w S E) = match itemsOf S w with
  | some [x0, x1, x2, x3, x4, x5] => k x0 x1 x2 x3 x4 x5
  | _ => z := by
  show g (setO [i0, i1, i2, i3, i4, i5] (itemsOf S w) E) = _
  cases itemsOf S w with
  | none => exact hz
  | some l =>
    show g (setAll [i0, i1, i2, i3, i4, i5] l E) = _
    match l with
    | [] =>
      exact hz
    | x0 :: l =>
      match l with
      | [] =>
        rw [setAll, if_pos (by simpa using hi0)]
        exact hz
      | x1 :: l =>
        match l with
        | [] =>
          rw [setAll, if_pos (by simpa using hi0), setAll, if_pos (by simpa using hi1)]
          exact hz
        | x2 :: l =>
          match l with
          | [] =>
            rw [setAll, if_pos (by simpa using hi0), setAll, if_pos (by simpa using hi1), setAll, if_pos (by simpa using hi2)]
            exact hz
          | x3 :: l =>
            match l with
            | [] =>
              rw [setAll, if_pos (by simpa using hi0), setAll, if_pos (by simpa using hi1), setAll, if_pos (by simpa using hi2), setAll, if_pos (by simpa using hi3)]
              exact hz
            | x4 :: l =>
              match l with
              | [] =>
                rw [setAll, if_pos (by simpa using hi0), setAll, if_pos (by simpa using hi1), setAll, if_pos (by simpa using hi2), setAll, if_pos (by simpa using hi3), setAll, if_pos (by simpa using hi4)]
                exact hz
              | x5 :: l =>
                match l with
                | [] =>
                  rw [setAll, if_pos (by simpa using hi0), setAll, if_pos (by simpa using hi1), setAll, if_pos (by simpa using hi2), setAll, if_pos (by simpa using hi3), setAll, if_pos (by simpa using hi4), setAll, if_pos (by simpa using hi5)]
                  exact hk x0 x1 x2 x3 x4 x5
                | _ :: _ =>
                  rw [setAll, if_pos (by simpa using hi0), setAll, if_pos (by simpa using hi1), setAll, if_pos (by simpa using hi2), setAll, if_pos (by simpa using hi3), setAll, if_pos (by simpa using hi4), setAll, if_pos (by simpa using hi5)]
                  exact hz
theorem lc_run {own : List Nat} {t : Tgt} {ts : Env → M Bool} {el : Env → M D} {F : D → M (Option D)} (h : ∀ d S, (match asgT t (.fz d) S (wipeE E own) with
  | none => R.bad
  | some ds1 => lcStep (ts ds1) (el ds1) S) = F d S) : ∀ (items acc : List D) (S : Store), lcRun own t ts el E items acc S = lcS F items acc S
  | [], acc, S => rfl
  | d :: r, acc, S => by
    unfold lcRun lcS
    rw [← h d S]
    cases asgT t (.fz d) S (wipeE E own) with
    | none => rfl
    | some ds1 =>
      dsimp only
      unfold lcStep
      cases noEx (ts ds1 S) with
      | ex x S => rfl
      | bad => rfl
      | ok b S =>
        cases b with
        | false => exact lc_run h r acc S
        | true =>
          show bindR (noEx (el ds1 S)) _ = bindR (bindR (noEx (el ds1 S)) _) _
          cases noEx (el ds1 S) with
          | ex x S => rfl
          | bad => rfl
          | ok y S =>
            show (if szOk (acc.length + 1) = true then _ else _) = (if szOk (acc.length + 1) = true then _ else _)
            split
            · exact lc_run h r (acc ++ [y]) S
            · rfl
theorem lc_nm {own : List Nat} {ts : Env → M Bool} {el : Env → M D} {fi : Env → M (List D)} {E3 : D → Env} {tD : D → M Bool} {eD : D → M D} {iD : M (List D)} (hl : i < (wipeE E own).length) (e : ∀ d, (wipeE E own).set i (some (.fz d)) = E3 d) (hi : fi E = iD) (ht : ∀ d, ts (E3 d) = tD d) (he : ∀ d, el (E3 d) = eD d) : cLc own (.nm i) ts el fi E = bnd iD fun items => lcS (fun d => lcStep (tD d) (eD d)) items [] := by
  funext S
  show bindR (fi E S) (fun items S => lcRun own (.nm i) ts el E items [] S) = bindR (iD S) _
  rw [hi]
  refine congrArg (bindR (iD S)) (funext fun items => funext fun S => ?_)
  refine lc_run (fun d S => ?_) items [] S
  rw [s_asgN, if_pos hl, e]
  dsimp only
  rw [ht, he]
theorem sb_tp2 {i0 i1 : Nat} {Es : σ → Env} {E3 : D → D → σ → Env} {bd : D → D → σ → M σ} (hi : ∀ s, i0 < (Es s).length ∧ i1 < (Es s).length) (e : ∀ x0 x1 s, (((Es s).set i0 (some (.fz x0))).set i1 (some (.fz x1))) = E3 x0 x1 s) (h : ∀ x0 x1 s, Bl a (E3 x0 x1 s) Es (bd x0 x1 s)) : StepB (.tp [i0, i1]) a Es (fun d s => un2 (.fz d) fun x0 x1 => bd x0 x1 s) := fun d s S => by
  have ⟨hi0, hi1⟩ := hi s
  refine (asg2 (Es s) hi0 hi1 (fun o => match o with | none => RS.bad | some ds => nrm (a ds S)) (fun x0 x1 => inX Es (bd x0 x1 s S)) RS.bad (fun x0 x1 => by rw [e]; exact h x0 x1 s S) rfl).trans ?_
  show _ = inX Es (un2 (.fz d) (fun x0 x1 => bd x0 x1 s) S)
  unfold un2
  split <;> rfl
theorem so_tp2 {i0 i1 : Nat} {Es : σ → Env} {E3 : D → D → σ → Env} {bd : D → D → σ → M (Out σ)} (hi : ∀ s, i0 < (Es s).length ∧ i1 < (Es s).length) (e : ∀ x0 x1 s, (((Es s).set i0 (some (.fz x0))).set i1 (some (.fz x1))) = E3 x0 x1 s) (h : ∀ x0 x1 s, BO a (E3 x0 x1 s) Es (bd x0 x1 s)) : StepO (.tp [i0, i1]) a Es (fun d s => un2 (.fz d) fun x0 x1 => bd x0 x1 s) := fun d s S => by
  have ⟨hi0, hi1⟩ := hi s
  refine (asg2 (Es s) hi0 hi1 (fun o => match o with | none => RS.bad | some ds => nrm (a ds S)) (fun x0 x1 => inU Es (bd x0 x1 s S)) RS.bad (fun x0 x1 => by rw [e]; exact h x0 x1 s S) rfl).trans ?_
  show _ = inU Es (un2 (.fz d) (fun x0 x1 => bd x0 x1 s) S)
  unfold un2
  split <;> rfl
theorem bl_asg2 {i0 i1 : Nat} {d : M Wv} {E3 : (D × D) → Env} (hi0 : i0 < E.length) (hi1 : i1 < E.length) (hf : f E = d) (e : ∀ x0 x1, ((E.set i0 (some (.fz x0))).set i1 (some (.fz x1))) = E3 (x0, x1)) : Bl (cAsg (.tp [i0, i1]) f) E E3 (bnd d fun w => un2 w fun x0 x1 => pur (x0, x1)) := fun S => by
  show nrm (liftR (f E S) E fun w S => nxO (asgT (.tp [i0, i1]) w S E) S) = _
  rw [hf]
  unfold bnd
  cases d S with
  | ex x S => rfl
  | bad => rfl
  | ok w S =>
    refine (asg2 E hi0 hi1 (fun o => nrm (nxO o S)) (fun x0 x1 => RS.nx (E3 (x0, x1)) S) RS.bad (fun x0 x1 => by rw [e]; rfl) rfl).trans ?_
    show _ = inX E3 (un2 w (fun x0 x1 => pur (x0, x1)) S)
    unfold un2
    split <;> rfl
theorem bl_asg6 {i0 i1 i2 i3 i4 i5 : Nat} {d : M Wv} {E3 : (D × D × D × D × D × D) → Env} (hi0 : i0 < E.length) (hi1 : i1 < E.length) (hi2 : i2 < E.length) (hi3 : i3 < E.length) (hi4 : i4 < E.length) (hi5 : i5 < E.length) (hf : f E = d) (e : ∀ x0 x1 x2 x3 x4 x5, ((((((E.set i0 (some (.fz x0))).set i1 (some (.fz x1))).set i2 (some (.fz x2))).set i3 (some (.fz x3))).set i4 (some (.fz x4))).set i5 (some (.fz x5))) = E3 (x0, x1, x2, x3, x4, x5)) : Bl (cAsg (.tp [i0, i1, i2, i3, i4, i5]) f) E E3 (bnd d fun w => un6 w fun x0 x1 x2 x3 x4 x5 => pur (x0, x1, x2, x3, x4, x5)) := fun S => by
  show nrm (liftR (f E S) E fun w S => nxO (asgT (.tp [i0, i1, i2, i3, i4, i5]) w S E) S) = _
  rw [hf]
  unfold bnd
  cases d S with
  | ex x S => rfl
  | bad => rfl
  | ok w S =>
    refine (asg6 E hi0 hi1 hi2 hi3 hi4 hi5 (fun o => nrm (nxO o S)) (fun x0 x1 x2 x3 x4 x5 => RS.nx (E3 (x0, x1, x2, x3, x4, x5)) S) RS.bad (fun x0 x1 x2 x3 x4 x5 => by rw [e]; rfl) rfl).trans ?_
    show _ = inX E3 (un6 w (fun x0 x1 x2 x3 x4 x5 => pur (x0, x1, x2, x3, x4, x5)) S)
    unfold un6
    split <;> rfl
noncomputable def Xt (a : CS) : Prop := ∀ E S ds S', a E S ≠ .nx ds S'
theorem xt_ret : Xt (cRet f) := fun E S ds S' h => by
  have h : liftR (f E S) E (fun w S => RS.rt w S) = .nx ds S' := h
  cases q : f E S <;> (rw [q] at h; cases h)
theorem xt_retV : Xt (cRetV i) := fun E S ds S' h => by
  unfold cRetV at h
  split at h <;> cases h
theorem xt_raise {k : Nat} : Xt (cRaise k) := fun E S ds S' h => nomatch h
theorem xt_seq (h : Xt b) : Xt (cSeq a b) := fun E S ds S' q => by
  unfold cSeq at q
  cases q1 : a E S with
  | nx ds' S2 => rw [q1] at q; exact h _ _ _ _ q
  | rt w S2 => rw [q1] at q; cases q
  | bk w S2 => rw [q1] at q; cases q
  | ct w S2 => rw [q1] at q; cases q
  | ex x w S2 => rw [q1] at q; cases q
  | bad => rw [q1] at q; cases q
theorem ifx {E0 : Env} {is : List Nat} (h : Xt a) (he : killE is E = E0) (S : Store) : cSeq (cKill is (cIfS t a cSkip)) b E S = liftR (t E S) E fun k S => if k then a E S else b E0 S := by
  unfold cSeq cKill
  show (match killR is (liftR (t E S) E fun k S => if k then a E S else .nx E S) with
    | .nx ds' S' => b ds' S'
    | r => r) = _
  cases t E S with
  | ex x S => rfl
  | bad => rfl
  | ok k S =>
    cases k with
    | false => show b (killE is E) S = _; rw [he]; rfl
    | true =>
      show (match killR is (a E S) with
        | .nx ds' S' => b ds' S'
        | r => r) = a E S
      cases q : a E S with
      | nx ds S2 => exact absurd q (h _ _ _ _)
      | _ => rfl
theorem tl_ifx {E0 : Env} {is : List Nat} {c : M Bool} {d1 d2 : M Wv} (h : Xt a) (he : killE is E = E0) (ht : t E = c) (ha : Tl a E d1) (hb : Tl b E0 d2) : Tl (cSeq (cKill is (cIfS t a cSkip)) b) E (ift c d1 d2) := fun S => by
  rw [ifx h he, ht]
  unfold ift
  cases c S with
  | ex x S => rfl
  | bad => rfl
  | ok k S =>
    cases k with
    | true => exact ha S
    | false => exact hb S
theorem kill_seq {is : List Nat} (S : Store) : cKill is (cSeq a b) E S = cSeq a (cKill is b) E S := by
  unfold cKill cSeq
  cases a E S <;> rfl
theorem kill_if {is : List Nat} (S : Store) : cKill is (cIfS t a b) E S = cIfS t (cKill is a) (cKill is b) E S := by
  show killR is (liftR (t E S) E fun k S => if k then a E S else b E S) = liftR (t E S) E fun k S => if k then cKill is a E S else cKill is b E S
  cases t E S with
  | ex x S => rfl
  | bad => rfl
  | ok k S => cases k <;> rfl
theorem bl_kseq {is : List Nat} {d : M τ} (h : Bl (cSeq a (cKill is b)) E E2 d) : Bl (cKill is (cSeq a b)) E E2 d := fun S => by rw [kill_seq]; exact h S
theorem bl_kif {is : List Nat} {d : M τ} (h : Bl (cIfS t (cKill is a) (cKill is b)) E E2 d) : Bl (cKill is (cIfS t a b)) E E2 d := fun S => by rw [kill_if]; exact h S
theorem bo_kif {is : List Nat} {d : M (Out τ)} (h : BO (cIfS t (cKill is a) (cKill is b)) E E2 d) : BO (cKill is (cIfS t a b)) E E2 d := fun S => by rw [kill_if]; exact h S
theorem bl_kskip {is : List Nat} {s : τ} (e : killE is E = E2 s) : Bl (cKill is cSkip) E E2 (pur s) := fun S => congrArg (RS.nx · S) e
theorem bo_kskip {is : List Nat} {s : τ} (e : killE is E = E2 s) : BO (cKill is cSkip) E E2 (pur (.nx s)) := fun S => congrArg (RS.nx · S) e
theorem bo_kx {is : List Nat} {d : M (Out τ)} (hx : Xt a) (h : BO a E E2 d) : BO (cKill is a) E E2 d := fun S => by
  rw [← h S]
  unfold cKill
  cases q : a E S with
  | nx ds S2 => exact absurd q (hx _ _ _ _)
  | _ => rfl
theorem tl_sfrz {d : M Wv} (w : Wv) (hw : E[i]? = some (some w)) (e : E.set i (some w.fzn) = E0) (h : Tl (cSeq a b) E0 d) : Tl (cSeq (cFrz i a) b) E d := fun S => by
  show outF (cSeq a b (frzE i E) S) = _
  rw [frz_set hw, e]
  exact h S
theorem bo_sfrz {d : M (Out τ)} (w : Wv) (hw : E[i]? = some (some w)) (e : E.set i (some w.fzn) = E0) (h : BO (cSeq a b) E0 E2 d) : BO (cSeq (cFrz i a) b) E E2 d := fun S => by
  show nrm (cSeq a b (frzE i E) S) = _
  rw [frz_set hw, e]
  exact h S
end
theorem fn_code {n : Nat} {m : CS} {args : List D} {E : Env} {d : M Wv} (e : startE n args = E) (h : Tl m E d) (S : Store) : runF n m args S = d S := by
  rw [s_runF, e]
  exact h S
end Mir
set_option Elab.async false
set_option linter.all false
set_option maxRecDepth 100000
set_option maxHeartbeats 4000000
namespace Mir
open PySem PySem.Spec PyProof.Rows L2
noncomputable def lcRunG (ck : Store → Bool) (own : List Nat) (t : Tgt) (tst : Env → M Bool) (fe : Env → M D) (ds : Env) : List D → List D → Store → R Wv
  | [], acc, S => .ok (.ow (.lst acc)) S
  | d :: r, acc, S => match asgT t (.fz d) S (wipeE ds own) with
    | none => .bad
    | some ds1 => bindR (noEx (tst ds1 S)) fun b S => if b then bindR (noEx (fe ds1 S)) (fun y S => if szOk (acc.length + 1) && ck S then lcRunG ck own t tst fe ds r (acc ++ [y]) S else .bad) else if ck S then lcRunG ck own t tst fe ds r acc S else .bad
structure IterOkG (T : Tx) (J : It) (items : List D) (c : Chk) (P : Store → Prop) : Prop where
  go : ∀ i g H S, i < items.length → Held c g H → RelS T g S H → P S → J.go i H
  stop : ∀ g H S, Held c g H → RelS T g S H → P S → J.stop items.length H
  yld : ∀ i d g H S x H', items[i]? = some d → Held c g H → RelS T g S H → P S → J.yld i H x H' → ∃ g', Ext g H g' H' ∧ RelS T g' S H' ∧ Rep T g' H' d x
section
variable {T : Tx} {Wx : WX} {X : Cx} {e o : Expr} {g g0 g1 g2 : Gh} {H H0 H1 H2 : Hp} {c : Chk} {S S1 : Store} {ds : Env} {σ : SV} {st : Stmt} {rest : List Stmt} {pos : Pos} {f1 : CE} {tg : Expr}
theorem lc_coreG {own : List Nat} {t : Tgt} {tst : Env → M Bool} {fe : Env → M D} (ho : ∀ i ∈ t.slots, i ∈ own) {Q : VK} {items : List D} {J : It} {ck : Store → Bool} {P : Store → Prop} (fr : FR T g0 H0 c g H S ds σ) (ok : IterOkG T J items c P) (hP : P S) (hck : ∀ S, ck S = true → P S)
    (p : PostG T Wx (RW T H) g H σ Q (lcRunG ck own t tst fe ds items [] S)) (Dd : Addr) (hD : H Dd = none) :
    ∃ W : Nat → Nat → Hp → Prop, (∃ m, W 0 m (upd H Dd (.lst []))) ∧ ∀ i m H, W i m H →
      (J.stop i H ∧ Q (.ref Dd) H) ∨ (J.go i H ∧ ∃ Nx : Hp → Prop, (∀ H', Nx H' → ∃ m', m' < m ∧ W (i + 1) m' H') ∧ ∀ x H', J.yld i H x H' → tGc T.K t x (wipe σ own) H' fun σ2 H2 => wipe σ2 own = wipe σ own ∧ tG T W0 RT tst σ2 H2 fun b H3 =>
        if b = true then tG T W0 (RD T) fe σ2 H3 fun y H4 => ∃ acc, H4 Dd = some (.lst acc) ∧ acc.length < sizeLine ∧ Nx (upd H4 Dd (.lst (acc ++ [y]))) else Nx H3) := by
  obtain ⟨g2, e2, rs2, rw2⟩ := alloc_ow (so := .lst []) fr.st hD (ho := .lst []) fun g' H' fx => .lst .nil
  have fr2 := fr.on e2 rs2
  obtain ⟨Da, ea, ow2⟩ := rw2
  cases ea
  have nsl : ∀ (i : Nat) (so : SO), ds[i]? = some (some (.ow so)) → σ[i]? ≠ some (some (.ref Dd)) := fun i so h z => by
    obtain ⟨b, hb, ob⟩ := fr.env.ow i so h
    rw [z] at hb
    cases hb
    obtain ⟨ho, h1, _⟩ := ob.obj
    rw [hD] at h1
    cases h1
  refine ⟨fun i m H' => m = items.length - i ∧ i ≤ items.length ∧ ∃ g' S' acc vacc, FR T g0 H0 c g' H' S' ds σ ∧ Ext g H g' H' ∧ H' Dd = some (.lst vacc) ∧ g'.L Dd ∧ Dd ∉ g'.io ∧ Reps T g' H' acc vacc ∧ P S' ∧ PostG T Wx (RW T H) g H σ Q (lcRunG ck own t tst fe ds (items.drop i) acc S'),
    ⟨items.length, by simp, Nat.zero_le _, g2, S, [], [], fr2, e2, upd_same, ow2.liv, ow2.nio, .nil, hP, by rw [List.drop_zero]; exact p⟩, ?_⟩
  rintro i m H' ⟨rfl, hi, g', S', acc, vacc, fr', ex', hDd, hL, hio, hacc, hc', p'⟩
  by_cases hlt : i < items.length
  · refine .inr ⟨ok.go i g' H' S' hlt fr'.held fr'.st hc', fun H2 => ∃ g2 S2 acc2 vacc2, FR T g0 H0 c g2 H2 S2 ds σ ∧ Ext g H g2 H2 ∧ H2 Dd = some (.lst vacc2) ∧ g2.L Dd ∧ Dd ∉ g2.io ∧ Reps T g2 H2 acc2 vacc2 ∧ P S2 ∧ PostG T Wx (RW T H) g H σ Q (lcRunG ck own t tst fe ds (items.drop (i + 1)) acc2 S2),
      fun H2 ⟨g2, S2, acc2, vacc2, hN⟩ => ⟨items.length - (i + 1), by omega, rfl, hlt, g2, S2, acc2, vacc2, hN⟩, fun x H2 hy => ?_⟩
    obtain ⟨g2, e2, rs2, rx⟩ := ok.yld i _ g' H' S' x H2 (List.getElem?_eq_getElem hlt) fr'.held fr'.st hc' hy
    have fr2 := fr'.on e2 rs2
    rw [List.drop_eq_getElem_cons hlt] at p'
    unfold lcRunG at p'
    split at p'
    · exact p'.elim
    · rename_i ds1 ha
      refine asgT_gc (w := .fz items[i]) (fr2.wipe own) rx rx ho (wipe_wipe σ own) ha fun σ3 fr3 hw => ⟨hw, ⟨g0, H0, c, g2, S', ds1, fr3, ?_⟩⟩
      refine noEx_ok (r := RT H2) p' fun b S3 _ p3 g3 H3 b' e3 rs3 hb => ?_
      subst hb
      have k3 := e2.trans e3
      obtain ⟨hD3, hio3⟩ := k3.kp Dd _ (fun _ z => by cases z) hDd hio
      have hL3 := (k3.liv Dd _ hDd).mpr hL
      have fr4 := fr3.on e3 rs3
      cases b with
      | false =>
        rw [if_neg Bool.false_ne_true] at p3 ⊢
        split at p3
        · rename_i hz
          exact ⟨g3, S3, acc, vacc, fr'.on k3 rs3, ex'.trans k3, hD3, hL3, hio3, hacc.fix (k3.fix fr'.st), hck _ hz, p3⟩
        · exact p3.elim
      | true =>
        rw [if_pos rfl] at p3 ⊢
        refine ⟨g0, H0, c, g3, S3, ds1, fr4, ?_⟩
        refine noEx_ok (r := RD T H3) p3 fun y S4 _ p4 g4 H4 yv e4 rs4 hy4 => ?_
        have k4 := k3.trans e4
        obtain ⟨hD4, hio4⟩ := k4.kp Dd _ (fun _ z => by cases z) hDd hio
        have hL4 := (k4.liv Dd _ hDd).mpr hL
        split at p4
        · rename_i hzz
          rcases Bool.and_eq_true_iff.mp hzz with ⟨hz, hck4⟩
          have hacc4 := hacc.fix (k4.fix fr'.st)
          have fx : Fix g4 H4 g4 (L2.upd H4 Dd (.lst (vacc ++ [yv]))) := fix_upd hL4
          refine ⟨vacc, hD4, ?_, g4, S4, acc ++ [y], vacc ++ [yv], (fr'.on k4 rs4).upd (fr.ext.free hD) hL4 hio4 (fun u e => by rw [hD4] at e; cases e; exact RepO.plain (T := T) (g := g4) (H := H4) (.lst hacc4)) (fun _ z => by cases z) nsl, (ex'.trans k4).upd_new hD, upd_same, hL4, hio4, (hacc4.fix fx).append (.cons (hy4.fix fx) .nil), hck _ hck4, p4⟩
          rw [← hacc4.length]
          have := szOk_of hz
          omega
        · exact p4.elim
  · have ei : i = items.length := Nat.le_antisymm hi (Nat.le_of_not_lt hlt)
    subst ei
    refine .inl ⟨ok.stop g' H' S' fr'.held fr'.st hc', ?_⟩
    rw [List.drop_length] at p'
    exact p' g' H' _ ex' fr'.st ⟨Dd, rfl, hD, hL, hio, _, hDd, .lst hacc⟩
noncomputable def cLcS (own : List Nat) (t : Tgt) (tst : Env → M Bool) (fe : Env → M D) (f : Env → M D) : CE := fun ds S => bindR (f ds S) fun d S => match refL d S with
  | some (n, xs) => lcRunG (sameL n xs) own t tst fe ds xs [] S
  | none => .bad
theorem refL_at {d : D} {n : Nat} {xs : List D} (h : refL d S = some (n, xs)) : d = .ref n ∧ S[n]? = some (.lst xs) := by
  unfold refL at h
  split at h
  · split at h
    · rename_i hy
      cases h
      exact ⟨rfl, hy⟩
    · cases h
  · cases h
theorem iter_sto {a : Addr} {n : Nat} {items : List D} {F : Addr → HO → Prop} (hio : g1.io[n]? = some a) : IterOkG T (Itl T.K a) items ⟨F, g1.io⟩ (fun S => S[n]? = some (.lst items)) := by
  have at' : ∀ {g' : Gh} {H' : Hp} {S' : Store}, Held ⟨F, g1.io⟩ g' H' → RelS T g' S' H' → S'[n]? = some (.lst items) → ∃ vs, H' a = some (.lst vs) ∧ Reps T g' H' items vs := fun {g' H' S'} f rs hn' => by
    obtain ⟨t1, h1⟩ := f.2
    have hl : n < g1.io.length := (List.getElem?_eq_some_iff.mp hio).1
    obtain ⟨ho, h2, h3⟩ := rs.obj n _ a hn' (by rw [h1]; exact (List.getElem?_append_left hl).trans hio)
    cases h3 with
    | lst r => exact ⟨_, h2, r⟩
  refine ⟨fun i g' H' S hi hh rs hc => ?_, fun g' H' S hh rs hc => ?_, fun i d g' H' S x H2 hd hh rs hc hy => ?_⟩
  · obtain ⟨vs, hvs, r⟩ := at' hh rs hc
    obtain ⟨v, hv, _⟩ := r.get (List.getElem?_eq_getElem hi)
    exact ⟨vs, v, SqL.of hvs, hv⟩
  · obtain ⟨vs, hvs, r⟩ := at' hh rs hc
    exact ⟨vs, SqL.of hvs, by rw [r.length]; exact Nat.le_refl _⟩
  · obtain ⟨rfl, q⟩ := hy
    obtain ⟨vs, hvs, r⟩ := at' hh rs hc
    obtain ⟨v, hv, rv⟩ := r.get hd
    have e1 := q vs (SqL.of hvs)
    rw [hv] at e1
    cases e1
    exact ⟨g', Ext.refl _ _, rs, rv⟩
theorem tlcS {own : List Nat} {t : Tgt} {tst : Env → M Bool} {fe : Env → M D} {f : Env → M D} (ho : ∀ i ∈ t.slots, i ∈ own) {Q : VK} (h : tG T Wx (RW T) (cLcS own t tst fe f) σ H Q) :
    tLc (tI2 T Wx f) (tGc T.K t) (tG T W0 RT tst) (tG T W0 (RD T) fe) own σ H Q := by
  obtain ⟨g0, H0, c, g, S, ds, fr, p⟩ := h
  refine ⟨g0, H0, c, g, S, ds, fr, ?_⟩
  unfold cLcS at p
  cases q : f ds S with
  | ex x S1 => rw [q] at p; exact p
  | bad => rw [q] at p; exact p
  | ok d S1 =>
    rw [q] at p
    dsimp only [bindR] at p ⊢
    cases hr : refL d S1 with
    | none => rw [hr] at p; exact p
    | some nx =>
      obtain ⟨n, items⟩ := nx
      rw [hr] at p
      dsimp only at p ⊢
      obtain ⟨_, hn⟩ := refL_at hr
      intro g1 H1 a e1 rs1 hio Dd hD
      have fr1 := (fr.on e1 rs1).chk (c' := ⟨c.fz, g1.io⟩) (fr.on e1 rs1).fz ⟨[], by simp⟩
      exact lc_coreG (Wx := Wx) ho fr1 (iter_sto hio) hn (fun S h => sameL_of h) (PostG.from mono_w e1 p) Dd hD
theorem je_lcS {elt iter : Expr} {ifs : List Expr} {scope : Scope} {own : List (Str × Nat)} {t : Tgt} {tst : Env → M Bool} {fe : Env → M D} {f : Env → M D} (lv : Lv T Wx X) (hc : X.calm = true) (hN : X.N.Nodup) (hi : JD T Wx X iter f) (ok : BlkOk X.N X.env.scope scope own)
    (hg : ∀ (s : Shared) (H : Hp) (C : Addr) (cl : List (Str × Addr)) (fp : List Addr), JGc T (X.blk s H scope (compEnvC scope cl C X.env) fp) tg t) (ht : ∀ (s : Shared) (H : Hp) (C : Addr) (cl : List (Str × Addr)) (fp : List Addr), JTs T (X.blk s H scope (compEnvC scope cl C X.env) fp) ifs tst)
    (he : ∀ (s : Shared) (H : Hp) (C : Addr) (cl : List (Str × Addr)) (fp : List Addr), JD T W0 (X.blk s H scope (compEnvC scope cl C X.env) fp) elt fe) (ho : ∀ i ∈ t.slots, i ∈ own.map (·.2) := by decide) (hs : ∀ x, foldedSetIterable iter X.env x = pure x := by intro _; rfl) :
    JE T Wx X (.ListComp elt [⟨tg, iter, ifs, 0⟩] scope pos) (cLcS (own.map (·.2)) t tst fe f) := PE.imp (pe_lc hc hN (ji_ref lv hi) ok hg ht he hs) fun σ H Q h => tlcS ho h
noncomputable def cItemsK (kd : Key × D → D) (f : Env → M D) : Env → M (List D) := fun ds S => bindR (f ds S) fun d S => match d with
  | .dct kvs => .ok (kvs.map kd) S
  | _ => .bad
end
end Mir
set_option Elab.async false
set_option linter.all false
set_option maxRecDepth 100000
set_option maxHeartbeats 4000000
namespace Mir
open PySem PySem.Spec PyProof.Rows L2
section
variable {X : Cx}
end
section
variable {T : Tx} {Wx : WX} {X : Cx} {e o : Expr} {g g0 g1 g2 : Gh} {H H0 H1 H2 : Hp} {c : Chk} {S S1 : Store} {ds : Env} {σ σ2 : SV} {st : Stmt} {rest : List Stmt} {pos : Pos} {f1 : CE} {tg : Expr} {a : Addr} {od : Obj} {vs : List (Key × V)} {n : Nat}
noncomputable abbrev Gh.hid (g : Gh) (a : Addr) : Gh := ⟨[], fun b => g.L b ∧ b ≠ a⟩
noncomputable abbrev Gh.vis (g2 g : Gh) (a : Addr) : Gh := ⟨g.io, fun b => g2.L b ∨ b = a⟩
theorem vis_fix (h0 : g2.io = []) : Fix (g2.with a) H2 (g2.vis g a) H2 := ⟨⟨g.io, by show g.io = g2.io ++ g.io; rw [h0]; rfl⟩, fun b u hb n => ⟨hb, n⟩⟩
theorem Rep.vis (h0 : g2.io = []) (ha : H2 a = some (.frz od (.dK vs))) {d : D} {v : V} (r : Rep T g2 H2 d v) (q : noDct d = true) : Rep T (g2.vis g a) (L2.upd H2 a (.dK vs)) d v := Rep.fix (vis_fix h0) (Rep.backK ha r q)
theorem Reps.vis (h0 : g2.io = []) (ha : H2 a = some (.frz od (.dK vs))) {d : List D} {v : List V} (r : Reps T g2 H2 d v) (q : noDcts d = true) : Reps T (g2.vis g a) (L2.upd H2 a (.dK vs)) d v := Reps.fix (vis_fix h0) (Reps.backK ha r q)
theorem RepO.vis (h0 : g2.io = []) (ha : H2 a = some (.frz od (.dK vs))) {so : SO} {ho : HO} (r : RepO T g2 H2 so ho) (q : noDctO so = true) : RepO T (g2.vis g a) (L2.upd H2 a (.dK vs)) so ho := RepO.fix (vis_fix h0) (RepO.backK ha r q)
end
end Mir
set_option Elab.async false
set_option linter.all false
set_option maxRecDepth 100000
set_option maxHeartbeats 2000000
namespace Mir
open PySem PySem.Spec PyProof.Rows L2
noncomputable def padI (m : FnI) (dd : List D) : FnI := fun args => m (args ++ dd)
noncomputable def dfV : D → Option V
  | .non => some .non
  | .int i => some (.int i)
  | _ => none
noncomputable def dfVs : List D → Option (List V)
  | [] => some []
  | d :: r => match dfV d, dfVs r with
    | some v, some vs => some (v :: vs)
    | _, _ => none
theorem dfVs_ok {T : Tx} {g : Gh} {H : Hp} : ∀ {dd : List D} {vs : List V}, dfVs dd = some vs → Reps T g H dd vs
  | [], _, h => by cases h; exact .nil
  | d :: r, vs, h => by
    unfold dfVs at h
    split at h
    · rename_i v vs' h1 h2
      cases h
      refine .cons ?_ (dfVs_ok h2)
      cases d with
      | non => cases h1; exact .non
      | int i => cases h1; exact .int i
      | _ => cases h1
    · cases h
theorem Reps.app {T : Tx} {g : Gh} {H : Hp} : ∀ {ds ds2 : List D} {vs vs2 : List V}, Reps T g H ds vs → Reps T g H ds2 vs2 → Reps T g H (ds ++ ds2) (vs ++ vs2)
  | _, _, _, _, .nil, r2 => r2
  | _, _, _, _, .cons r rs, r2 => .cons r (Reps.app rs r2)
section
variable {T : Tx} {Wx : WX} {X : Cx} {e o : Expr} {g g0 : Gh} {H H0 : Hp} {c : Chk} {S : Store} {ds : Env} {σ : SV} {pos : Pos} {C : Addr}
structure MkdD (P : Program) (w : World) (K : PySem.W.Frag) (mg : Str → Option Value) (base : Heap) (T : Tx) (j : Nat) (x : Str) (k np nn : Nat) (dd : List D) (m : FnI) : Prop where
  ex : ∃ (f : Addr) (ok : Nat → Bool) (fd : FuncData) (ps : List Str) (us : List Value) (dvs : List V), mg x = some (.ref (T.cls k)) ∧ L2.Mk K (T.cls k) f ∧ ok k = true ∧ ps.length = np + 1 ∧ nn + dd.length = np ∧ Binds K fd ps us ∧ Vals dvs us ∧ dfVs dd = some dvs ∧ FnOk P w K mg base (L2.CX P w) j f fd ps (spI T np ok m)
theorem MkdD.mono {P : Program} {w : World} {K : PySem.W.Frag} {mg : Str → Option Value} {base : Heap} {i j : Nat} {x : Str} {k np nn : Nat} {dd : List D} {m : FnI} (d : MkdD P w K mg base T i x k np nn dd m) (h : i ≤ j) : MkdD P w K mg base T j x k np nn dd m := by
  obtain ⟨f, ok, fd, ps, us, dvs, h1, h2, h3, h4, h5, h6, h7, h8, h9⟩ := d.ex
  exact ⟨f, ok, fd, ps, us, dvs, h1, h2, h3, h4, h5, h6, h7, h8, h9.mono h⟩
noncomputable def tMkD (C : Addr) (sp : Sp) (E : L2.St → XK) (dvs : List V) (t : TA) : TE := fun σ H Q => t σ H fun vs H1 => ∀ x dx, H1 x = none → H1 dx = none → dx ≠ x → sp (.ref x :: (vs ++ dvs)) (upd (upd H1 dx (.own x)) x (.ins C dx [])) (fun v H2 => v = .non ∧ Q (.ref x) H2) (E σ)
theorem run_mkD {CX : CXT} {k : Nat} {f : Addr} {fd : FuncData} {ps : List Str} {sp : Sp} {E : XK} {pins : List (Addr × Obj)} {s : Shared} {Q : VK} {us dus : List Value} {vs dvs : List V} (M : L2.Mk X.K C f) (F : FnOk X.prog X.w X.K X.mg X.base CX k f fd ps sp) (hr : Room (k + 1) X.A) (hb : Binds X.K fd ps dus) (hd : Vals dvs dus)
    (hx : PassesAt CX X σ E) (I : Inv X pins σ H s) (r : Vals vs us) (h : ∀ x dx, H x = none → H dx = none → dx ≠ x → sp (.ref x :: (vs ++ dvs)) (upd (upd H dx (.own x)) x (.ins C dx [])) (fun v H2 => v = .non ∧ Q (.ref x) H2) E) :
    wpAny (model X.prog X.w) X.A (call (.ref C) us) (EP X pins σ Q) X.xe s := by
  obtain ⟨z, hz⟩ : ∃ z, z = s.heap.objs.size := ⟨_, rfl⟩
  have q := h (z + 1) z (I.hok.fresh (by rw [hz]; exact Nat.le_succ _)) (I.hok.fresh (by rw [hz]; exact Nat.le_refl _)) (Nat.ne_of_lt (Nat.lt_succ_self z))
  have J := Inv.made (C := C) I
  rw [← hz] at J
  have rr : Vals (V.ref (z + 1) :: (vs ++ dvs)) (Value.ref (z + 1) :: us ++ dus) := .cons rfl (r.append hd)
  have hl : (Value.ref (z + 1) :: us ++ dus).length = ps.length := by
    rw [← rr.length]
    exact F.len _ _ _ _ q
  have bd := hb _ (Value.ref (z + 1) :: us) J.kIn hl
  have run := F.run _ X.stack _ _ ⟨Value.ref (z + 1) :: us, []⟩ (Value.ref (z + 1) :: us ++ dus) _ _ E (hr.make C us []) (J.env0.make C us []) bd rr q
  subst hz
  refine wpAny_call (make_map (f := f) I.kIn M.makes M.init (beq_iff_eq.mp M.fn) (codeAny_mono run fun r s' hq => ?_))
  cases r with
  | error e => exact hx pins _ _ e s' J hq
  | ok fl =>
    cases fl with
    | ret u =>
      obtain ⟨v, H', I3, rv, ev, q3⟩ := J.after hq
      subst ev
      exact ⟨rv, ⟨.ref (s.heap.objs.size + 1), H', I3, rfl, q3⟩⟩
    | next => exact hq.elim
    | brk => exact hq.elim
    | cont => exact hq.elim
theorem pe_mkD {x : Str} {f : Addr} {fd : FuncData} {ps : List Str} {sp : Sp} {j : Nat} {E : L2.St → XK} {t : TA} {p : Pos} {es : List Expr} {dus : List Value} {dvs : List V} (M : L2.Mk X.K C f) (F : FnOk X.prog X.w X.K X.mg X.base (L2.CX X.prog X.w) j f fd ps sp) (hr : Room (j + 1) X.A) (hb : Binds X.K fd ps dus) (hd : Vals dvs dus) (hg : Gl X x) (hm : X.mg x = some (.ref C))
    (ha : PA X (e :: es) t) (hx : ∀ σ, PassesAt (L2.CX X.prog X.w) X σ (E σ)) (hdb : (x == ("__debug__" : Str)) = false)
    (hs : starEach (e :: es) X.env = (false, eval e X.env) :: starEach es X.env) (hp : (backTo pos (starEach es X.env)).any (·.1) = false) : PE X (.Call (.Name x p) (e :: es) [] pos) (tMkD C sp E dvs t) := by
  constructor
  intro pins s σ H Q I h
  have kin : PySem.W.Frag.In X.K X.base := I.ok.mod.kin
  refine wpAny_Call_Name_kw (ld_glob I hg hm ?_ hdb)
  refine PySem.W.callWith_K (h₀ := X.base) kin M.kp (thn (ha.run pos pins s σ H _ I h) ?_) hs hp
  rintro us s1 ⟨vs, H1, I1, r, q⟩
  exact ⟨I1.kIn, run_mkD M F hr hb hd (hx σ) I1 r q⟩
theorem je_mkD {P : Program} {w : World} {mg : Str → Option Value} {base : Heap} {j : Nat} {x : Str} {k np nn : Nat} {dd : List D} {m : FnI} {p : Pos} {es : List Expr} {fs : Env → M (List D)} (B : Bd T mg P w base (j + 1) Wx X) (U : MkdD P w T.K mg base T j x k np nn dd m) (hg : Gl X x) (ha : JA T Wx X (e :: es) fs)
    (hlen : ∀ ds S args S', fs ds S = .ok args S' → args.length = nn) (hdb : (x == ("__debug__" : Str)) = false := by decide)
    (hs : starEach (e :: es) X.env = (false, eval e X.env) :: starEach es X.env := by rfl) (hp : (backTo pos (starEach es X.env)).any (·.1) = false := by rfl) : JE T Wx X (.Call (.Name x p) (e :: es) [] pos) (cMk k (padI m dd) fs) := by
  obtain ⟨f, ok, fd, ps, us, dvs, h1, h2, h3, h4, hnn, h5, h7, h8, h6⟩ := U.ex
  have hK := B.hK
  have hF : FnOk X.prog X.w X.K X.mg X.base (L2.CX X.prog X.w) j f fd ps (spI T np ok m) := by rw [B.prog, B.wo, hK, B.mg, B.ba]; exact h6
  refine PE.imp (pe_mkD (E := fun σ => WE Wx σ) (hK.symm ▸ h2) hF B.rm (hK.symm ▸ h5) h7 hg (by rw [B.mg]; exact h1) ha (fun σ => passAt B.tk σ) hdb hs hp) fun σ H Q hh_ => ?_
  obtain ⟨g0, H0, c, g, S, ds, fr, p⟩ := hh_
  refine ⟨g0, H0, c, g, S, ds, fr, ?_⟩
  unfold cMk at p
  cases q : fs ds S with
  | ex x1 S1 =>
    rw [q] at p
    exact p
  | bad =>
    rw [q] at p
    exact p
  | ok args S1 =>
    rw [q] at p
    intro g1 H1 vs e1 rs rv a dx ha hdx ne
    have p2 : PostG T Wx (RW T H1) g1 H1 σ Q (mkO k (m (args ++ dd) [] S1)) := PostG.from mono_w e1 p
    obtain ⟨g2, x2, rs2, _, _⟩ := alloc_lv rs hdx (.own a)
    obtain ⟨g3, x3, rs3, hL, hio⟩ := alloc_lv rs2 (p := a) (by rw [upd_ne (Ne.symm ne)]; exact ha) (.ins (T.cls k) dx [])
    have x13 := x2.trans x3
    have rd : Reps T g3 (upd (upd H1 dx (.own a)) a (.ins (T.cls k) dx [])) (args ++ dd) (vs ++ dvs) := (Reps.fix (x13.fix rs) rv).app (dfVs_ok h8)
    refine ⟨by rw [List.length_cons, ← rd.length, List.length_append, hlen ds S args S1 q, hnn], g3, S1, args ++ dd, a, k, dx, [], [], vs ++ dvs, rfl, rs3, rd, ⟨hL, hio, upd_same, .nil⟩, h3, ?_⟩
    have toE : ∀ {g' : Gh} {H' : Hp}, ExtB a g3 (upd (upd H1 dx (.own a)) a (.ins (T.cls k) dx [])) g' H' → Ext g1 H1 g' H' := fun {g' H'} xb => by
      have na : ∀ {b : Addr} {o : HO}, H1 b = some o → b ≠ a := fun {b o} z y => by
        rw [y, ha] at z
        cases z
      refine ⟨?_, fun b o z => ?_, fun b o z => ?_, fun b o nt z n => ?_⟩
      · obtain ⟨t, e⟩ := x13.pre
        obtain ⟨u, e'⟩ := xb.pre
        exact ⟨t ++ u, by rw [e', e, List.append_assoc]⟩
      · obtain ⟨o', z'⟩ := x13.trk b o z
        exact xb.trk b o' z'
      · obtain ⟨o', z'⟩ := x13.trk b o z
        exact (xb.liv b o' z').trans (x13.liv b o z)
      · obtain ⟨h1, n1⟩ := x13.kp b o nt z n
        exact xb.kp b o nt h1 n1 (na z)
    cases q2 : m (args ++ dd) [] S1 with
    | ok fl S2 =>
      rw [q2] at p2
      exact fun g' H' fv xb rs' sl => ⟨rfl, p2 g' H' _ (toE xb) rs' ⟨a, rfl, ha, sl.liv, sl.nio, _, sl.obj, .ins sl.rep⟩⟩
    | ex x2 S2 =>
      rw [q2] at p2
      exact fun g' H' cls d xb rs' rx => p2 g' H' cls d (toE xb) rs' rx
    | bad =>
      rw [q2] at p2
      exact p2
theorem mkd_fill {P : Program} {w : World} {K : PySem.W.Frag} {mg : Str → Option Value} {base : Heap} {x qual : Str} {st : Stmt} {dvs : List V} {N ps : List Str} {j k np nn jj : Nat} {dd : List D} {ok : Nat → Bool} {body : CI} {T : Tx} (hT : T.K = K) (hl : ∀ a o, ¬ T.lean a o) (hm : mg x = some (.ref (T.cls k))) (F : InitFactD K (T.cls k) qual st dvs) (Sc : FnScope N ps (defScope st)) (hps : ps.length = np + 1) (hN : 0 < N.length) (hok : ok k = true) (hd : dvs ≠ [])
    (hnn : nn + dd.length = np) (hdd : dfVs dd = some (dvs.drop jj)) (hj : (nn + 1) + (dvs.length - jj) = ps.length)
    (hbi : ∀ (T : Addr) (kV doc pm : Value) (an : Option Addr) (cdv ct : Value) (us its : List Value), us.length = nn + 1 → its.length = dvs.length →
      ∃ k, bindArgs (PySem.W.fnOf "__init__" qual (defArgs st) (defBody st) (defScope st) (.ref T) kV doc pm an cdv ct) ⟨us, []⟩ = seqItems? (.ref T) >>= k ∧ k (some its.toArray) = pure (ps.zip (us ++ its.drop jj)))
    (hb : ∀ (f : Addr) (cdv : Value) (A : Around) (outer : List PySem.Env) (s : Shared) (H : Hp) (E : XK), Bd T mg P w base j (fun cls d _ H => E cls d H) (cxOf (L2.CX P w) P w K mg base N qual (defScope st) f cdv A outer s H E) →
      JNs T (fun cls d _ H => E cls d H) ok (cxOf (L2.CX P w) P w K mg base N qual (defScope st) f cdv A outer s H E) (defBody st) body) :
    MkdD P w T.K mg base T (j + 1) x k np nn dd (runI N.length body) := by
  obtain ⟨f, fd, a, F⟩ := F
  rw [hT]
  obtain ⟨ds, r, B⟩ := F.binds1 (ps := ps) (nn + 1) jj hd hj hbi
  exact ⟨f, ok, fd, ps, ds, dvs.drop jj, hm, a, hok, hps, hnn, B, r, hdd, F.ok Sc (fun vs H Q E h => h.1.trans hps.symm) fun cdv A outer s H vs Q E hr h => init_run hT hl hN (hb f cdv A outer s H E) hr h⟩
end
end Mir
set_option Elab.async false
set_option linter.all false
set_option maxRecDepth 100000
namespace Mir
open PySem PySem.Spec PyProof.Rows L2
noncomputable def setFD (f : Str) (cs : List Nat) (d : D) (w : Wv) (S : Store) : R Unit := match w with
  | .fz (.ref n) => match S[n]? with
    | some (.ins k fs) => if cs.contains k && decide (fs.length < 1000) then .ok () (S.set n (.ins k (putN f d fs))) else .bad
    | _ => .bad
  | _ => .bad
noncomputable def dFldS (o : M Wv) (f : Str) (cs : List Nat) (v : M D) : M Unit := fun S => bindR (v S) fun d S => bindR (o S) fun w S => setFD f cs d w S
noncomputable def putSD (k d : D) (w : Wv) (S : Store) : R Unit := match w with
  | .fz (.ref n) => match S[n]? with
    | some (.dct kvs) => match keyD k with
      | some k => if szOk (kvs.length + 1) then .ok () (S.set n (.dct (putD kvs k d))) else .bad
      | none => .bad
    | _ => .bad
  | _ => .bad
noncomputable def dPutX (o : M Wv) (v k : M D) : M Unit := fun S => bindR (v S) fun v S => bindR (o S) fun w S => bindR (k S) fun k S => putSD k v w S
noncomputable def augGD (v : M Wv) (kop : Wv → Wv → M Wv) (w : Wv) (k : D) (S : Store) : R Unit := match viewK S w, keyD k with
  | some kvs, some key => match lkD kvs key with
    | some d => bindR (bindR (v S) fun w2 S => kop (.fz d) w2 S) fun z S => match z with
      | .fz z => putSD k z w S
      | _ => .bad
    | none => .bad
  | _, _ => .bad
noncomputable def dAugX (o : M Wv) (k : M D) (kop : Wv → Wv → M Wv) (v : M Wv) : M Unit := fun S => bindR (o S) fun w S => bindR (k S) fun k S => augGD v kop w k S
noncomputable def lcSG (ck : Store → Bool) (f : D → M (Option D)) : List D → List D → M Wv
  | [], acc => fun S => .ok (.ow (.lst acc)) S
  | d :: r, acc => fun S => bindR (f d S) fun o S => match o with
    | some y => if szOk (acc.length + 1) && ck S then lcSG ck f r (acc ++ [y]) S else .bad
    | none => if ck S then lcSG ck f r acc S else .bad
noncomputable def dLcS (m : M D) (F : D → M (Option D)) : M Wv := fun S => bindR (m S) fun d S => match refL d S with
  | some (n, xs) => lcSG (sameL n xs) F xs [] S
  | none => .bad
noncomputable def dItemsK (kd : Key × D → D) (m : M D) : M (List D) := cItemsK kd (fun _ => m) []
section
variable {α β σ τ ρ : Type} {a b : CS} {w : Wv} {E E0 : Env} {E1 : σ → Env} {E2 : τ → Env} {i : Nat} {t : Env → M Bool} {f f1 : CE}
theorem lc_runG {ck : Store → Bool} {own : List Nat} {t : Tgt} {ts : Env → M Bool} {el : Env → M D} {F : D → M (Option D)} (h : ∀ d S, (match asgT t (.fz d) S (wipeE E own) with
  | none => R.bad
  | some ds1 => lcStep (ts ds1) (el ds1) S) = F d S) : ∀ (items acc : List D) (S : Store), lcRunG ck own t ts el E items acc S = lcSG ck F items acc S
  | [], acc, S => rfl
  | d :: r, acc, S => by
    unfold lcRunG lcSG
    rw [← h d S]
    cases asgT t (.fz d) S (wipeE E own) with
    | none => rfl
    | some ds1 =>
      dsimp only
      unfold lcStep
      cases noEx (ts ds1 S) with
      | ex x S => rfl
      | bad => rfl
      | ok b S =>
        cases b with
        | false =>
          show (if ck S = true then _ else _) = (if ck S = true then _ else _)
          split
          · exact lc_runG h r acc S
          · rfl
        | true =>
          show bindR (noEx (el ds1 S)) _ = bindR (bindR (noEx (el ds1 S)) _) _
          cases noEx (el ds1 S) with
          | ex x S => rfl
          | bad => rfl
          | ok y S =>
            show (if (szOk (acc.length + 1) && ck S) = true then _ else _) = (if (szOk (acc.length + 1) && ck S) = true then _ else _)
            split
            · exact lc_runG h r (acc ++ [y]) S
            · rfl
noncomputable def StpEq (t : Tgt) (ts : Env → M Bool) (el : Env → M D) (Ew : Env) (F : D → M (Option D)) : Prop := ∀ d S, (match asgT t (.fz d) S Ew with
  | none => R.bad
  | some ds1 => lcStep (ts ds1) (el ds1) S) = F d S
theorem lcS_eq {own : List Nat} {t : Tgt} {ts : Env → M Bool} {el : Env → M D} {F : D → M (Option D)} {f : Env → M D} {m : M D} (hi : f E = m) (h : StpEq t ts el (wipeE E own) F) : cLcS own t ts el f E = dLcS m F := by
  funext S
  show bindR (f E S) _ = bindR (m S) _
  rw [hi]
  refine congrArg (bindR (m S)) (funext fun d => funext fun S => ?_)
  cases refL d S with
  | none => rfl
  | some q =>
    obtain ⟨n, xs⟩ := q
    exact lc_runG h xs [] S
theorem stp_tp2 {Ew : Env} {i0 i1 : Nat} {ts : Env → M Bool} {el : Env → M D} {E3 : D → D → Env} {tD : D → D → M Bool} {eD : D → D → M D} (hi0 : i0 < Ew.length) (hi1 : i1 < Ew.length) (e : ∀ x0 x1, ((Ew.set i0 (some (.fz x0))).set i1 (some (.fz x1))) = E3 x0 x1) (ht : ∀ x0 x1, ts (E3 x0 x1) = tD x0 x1) (he : ∀ x0 x1, el (E3 x0 x1) = eD x0 x1) : StpEq (.tp [i0, i1]) ts el Ew (fun d => un2 (.fz d) fun x0 x1 => lcStep (tD x0 x1) (eD x0 x1)) := fun d S => by
  refine (asg2 Ew hi0 hi1 (fun o => match o with | none => R.bad | some ds1 => lcStep (ts ds1) (el ds1) S) (fun x0 x1 => lcStep (tD x0 x1) (eD x0 x1) S) R.bad (fun x0 x1 => by rw [e]; dsimp only; rw [ht, he]) rfl).trans ?_
  dsimp only
  unfold un2
  split <;> rfl
end
end Mir
namespace G
open PySem
noncomputable def cnames : List Str := ["LotError", "NoWeights", "NoEntry", "NotHeld", "Twice", "NoLot", "NoWay", "NoPieces", "Late", "NoNumber", "NoText", "Entry", "Buy", "Sell", "Gift", "Give", "Split", "Parting", "Lot", "Way", "Eldest", "Newest", "Dearest", "Mean", "Sale", "Book", "LayingBook", "Ledger"]
end G
set_option Elab.async false
set_option linter.all false
set_option maxRecDepth 100000
set_option maxHeartbeats 4000000
namespace G
open PySem L2 Mir
noncomputable def m_digits_k01 : CS :=
    (cSeq (cSet 2 (cLst cNil))
    (cSeq (cKill [0, 1, 3] (cFor (cItems (cVar 1)) (.nm 3) (cSeq (cMut 2 "list" mAppend (cCons (cFz (cBin opMod (cBor 0) (cBor 3))) cNil))
      (cKill [3] (cSet 0 (cBin opDiv (cBor 0) (cBor 3)))))))
    (cRetV 2)))
noncomputable def f_digits_k01 : Fn := runF 4 m_digits_k01
noncomputable def g_digits_k01_l1 : D → (Wv × Wv) → M (Wv × Wv) := fun (base_9 : D) (s_8 : Wv × Wv) => (bnd (dMut "list" mAppend s_8.2 (dCons (dFz (dBin opMod (rd s_8.1) (pur (Wv.fz base_9)))) (pur []))) fun row_10 =>
 (bnd (dBin opDiv (rd s_8.1) (pur (Wv.fz base_9))) fun cell_11 => pur (cell_11, row_10)))
noncomputable def g_digits_k01 (cell_1 : D) (bases_2 : D) : M Wv :=
 (bnd (dLst (pur [])) fun row_3 =>
 (bnd (bnd (dItems (pur bases_2)) fun items => forD g_digits_k01_l1 items ((Wv.fz cell_1), row_3)) fun s_12 =>
 (rd s_12.2)))
theorem t_digits_k01 (cell_1 : D) (bases_2 : D) : Tl m_digits_k01 ([some (.fz cell_1), some (.fz bases_2), none, none] : Mir.Env) (g_digits_k01 cell_1 bases_2) :=
 (tl_seq1 (E1 := (fun row_3 => ([some (.fz cell_1), some (.fz bases_2), some row_3, none] : Mir.Env))) (bl_set (E1 := (fun row_3 => ([some (.fz cell_1), some (.fz bases_2), some row_3, none] : Mir.Env))) (Nat.le_of_ble_eq_true rfl) rfl (fun _ => rfl)) (fun row_3 => (tl_seq1 (E1 := (fun (s_12 : (Wv × Wv)) => ([none, none, some s_12.2, none] : Mir.Env))) (bl_kill (E1 := (fun (s_12 : Wv × Wv) => ([some s_12.1, some (.fz bases_2), some s_12.2, none] : Mir.Env))) (E3 := (fun (s_12 : (Wv × Wv)) => ([none, none, some s_12.2, none] : Mir.Env))) (bl_for (Es := (fun (s_8 : Wv × Wv) => ([some s_8.1, some (.fz bases_2), some s_8.2, none] : Mir.Env))) ((Wv.fz cell_1), row_3) rfl rfl (sb_nm (E3 := fun base_9 (s_8 : (Wv × Wv)) => ([some s_8.1, some (.fz bases_2), some s_8.2, some (.fz base_9)] : Mir.Env)) (fun _ => (Nat.le_of_ble_eq_true rfl)) (fun _ _ => rfl) (fun base_9 s_8 => (bl_seq (E1 := (fun row_10 => ([some s_8.1, some (.fz bases_2), some row_10, some (.fz base_9)] : Mir.Env))) (bl_mut (w := s_8.2) (E1 := (fun row_10 => ([some s_8.1, some (.fz bases_2), some row_10, some (.fz base_9)] : Mir.Env))) rfl rfl (fun _ => rfl)) (fun row_10 => (bl_last (E1 := (fun (cell_11 : Wv) => ([some cell_11, some (.fz bases_2), some row_10, none] : Mir.Env))) (bl_kill (E1 := (fun cell_11 => ([some cell_11, some (.fz bases_2), some row_10, some (.fz base_9)] : Mir.Env))) (E3 := (fun (cell_11 : Wv) => ([some cell_11, some (.fz bases_2), some row_10, none] : Mir.Env))) (bl_set (E1 := (fun cell_11 => ([some cell_11, some (.fz bases_2), some row_10, some (.fz base_9)] : Mir.Env))) (Nat.le_of_ble_eq_true rfl) rfl (fun _ => rfl)) (fun _ => rfl)) (fun _ => rfl))))))) (fun _ => rfl)) (fun s_12 => (tl_retV (w := s_12.2) rfl)))))
theorem c_digits_k01 (cell_1 : D) (bases_2 : D) (S : Store) : f_digits_k01 [cell_1, bases_2] S = g_digits_k01 cell_1 bases_2 S := fn_code rfl (t_digits_k01 cell_1 bases_2) S
noncomputable def m_mixed_k01 : CS :=
    (cSeq (cKill [0, 1] (cSet 2 (cBin opMod (cBin opMul (cBin opAdd (cBin opAdd (cBor 0) (cBin opMul (cBin opMul (cUp (cC (.int 7919))) (cBor 1)) (cBor 1))) (cBor 1)) (cUp (cC (.int 982451653)))) (cUp (cC (.int 2305843009213693951))))))
    (cSeq (cSet 3 (cBin opMod (cBin opMul (cBor 2) (cUp (cC (.int 1000003)))) (cUp (cC (.int 1152921504606846883)))))
    (cRet (cBin opMul (cBin opMul (cBor 2) (cBor 3)) (cBin opAdd (cBin opAdd (cBin opDiv (cBor 2) (cUp (cC (.int 4096)))) (cBin opDiv (cBor 3) (cUp (cC (.int 64))))) (cUp (cC (.int 1))))))))
noncomputable def f_mixed_k01 : Fn := runF 4 m_mixed_k01
noncomputable def g_mixed_k01 (cell_1 : D) (k_2 : D) : M Wv :=
 (bnd (dBin opMod (dBin opMul (dBin opAdd (dBin opAdd (pur (Wv.fz cell_1)) (dBin opMul (opMul (Wv.fz (D.int 7919)) (Wv.fz k_2)) (pur (Wv.fz k_2)))) (pur (Wv.fz k_2))) (pur (Wv.fz (D.int 982451653)))) (pur (Wv.fz (D.int 2305843009213693951)))) fun number_3 =>
 (bnd (dBin opMod (dBin opMul (rd number_3) (pur (Wv.fz (D.int 1000003)))) (pur (Wv.fz (D.int 1152921504606846883)))) fun other_4 =>
 (dBin opMul (dBin opMul (rd number_3) (rd other_4)) (dBin opAdd (dBin opAdd (dBin opDiv (rd number_3) (pur (Wv.fz (D.int 4096)))) (dBin opDiv (rd other_4) (pur (Wv.fz (D.int 64))))) (pur (Wv.fz (D.int 1)))))))
theorem t_mixed_k01 (cell_1 : D) (k_2 : D) : Tl m_mixed_k01 ([some (.fz cell_1), some (.fz k_2), none, none] : Mir.Env) (g_mixed_k01 cell_1 k_2) :=
 (tl_seq1 (E1 := (fun (number_3 : Wv) => ([none, none, some number_3, none] : Mir.Env))) (bl_kill (E1 := (fun number_3 => ([some (.fz cell_1), some (.fz k_2), some number_3, none] : Mir.Env))) (E3 := (fun (number_3 : Wv) => ([none, none, some number_3, none] : Mir.Env))) (bl_set (E1 := (fun number_3 => ([some (.fz cell_1), some (.fz k_2), some number_3, none] : Mir.Env))) (Nat.le_of_ble_eq_true rfl) rfl (fun _ => rfl)) (fun _ => rfl)) (fun number_3 => (tl_seq1 (E1 := (fun other_4 => ([none, none, some number_3, some other_4] : Mir.Env))) (bl_set (E1 := (fun other_4 => ([none, none, some number_3, some other_4] : Mir.Env))) (Nat.le_of_ble_eq_true rfl) rfl (fun _ => rfl)) (fun other_4 => (tl_ret rfl)))))
theorem c_mixed_k01 (cell_1 : D) (k_2 : D) (S : Store) : f_mixed_k01 [cell_1, k_2] S = g_mixed_k01 cell_1 k_2 S := fn_code rfl (t_mixed_k01 cell_1 k_2) S
noncomputable def m_cells_k01 : CS :=
    (cSeq (cKill [1] (cIfS (cAnd (cBin opGt (cBlt bLen (bCons (cBor 0) bNil)) (cUp (cC (.int 0)))) (cBin opEq (cBin opMod (cBin opSub2 (cBor 0) (cUp (cC (.int 0)))) (cUp (cC (.int 2)))) (cUp (cC (.int 1)))))
      (cSeq (cSet 1 (cBlt (bInt2 maxI) (bCons (cBlt (bInt2 minI) (bCons (cBlt bLen (bCons (cBor 0) bNil)) (bCons (cUp (cC (.int 63))) bNil))) (bCons (cBin opAdd (cUp (cC (.int 3))) (cBin opMod (cBin opDiv (cBin opSub2 (cBor 0) (cUp (cC (.int 0)))) (cUp (cC (.int 2)))) (cUp (cC (.int 61))))) bNil))))
      (cRet (cLc [3] (.nm 3) cYes (cFz (cCall f_mixed_k01 (cCons (cFz (cBin opSub2 (cBor 0) (cBin opMod (cBor 3) (cBlt bLen (bCons (cBor 0) bNil))))) (cCons (cVar 3) cNil)))) (cRng rng1 (cCons (cVar 1) cNil)))))
      cSkip))
    (cRet (cLc [2] (.nm 2) cYes (cFz (cBin opMod (cBor 2) (cBin opPow (cUp (cC (.int 10))) (cUp (cC (.int 60)))))) (cItems (cFz (cSl (cBor 0) cNoP (cPart (cUp (cC (.int 63))))))))))
noncomputable def f_cells_k01 : Fn := runF 4 m_cells_k01
noncomputable def g_cells_k01 (script_1 : D) : M Wv :=
 (ift (dAnd (dBin opGt (bLen [(Wv.fz script_1)]) (pur (Wv.fz (D.int 0)))) (dBin opEq (dBin opMod (opSub2 (Wv.fz script_1) (Wv.fz (D.int 0))) (pur (Wv.fz (D.int 2)))) (pur (Wv.fz (D.int 1)))))
 (bnd (bnd (dConsB (bnd (dConsB (bLen [(Wv.fz script_1)]) (pur [(Wv.fz (D.int 63))])) (bInt2 minI)) (dConsB (dBin opAdd (pur (Wv.fz (D.int 3))) (dBin opMod (dBin opDiv (opSub2 (Wv.fz script_1) (Wv.fz (D.int 0))) (pur (Wv.fz (D.int 2)))) (pur (Wv.fz (D.int 61))))) (pur []))) (bInt2 maxI)) fun many_2 =>
 (bnd (bnd (dCons (rdD many_2) (pur [])) rng1) fun items => lcS (fun k_3 => lcStep (pur true) (dFz (dCall f_mixed_k01 (dCons (dFz (dBin opSub2 (pur (Wv.fz script_1)) (dBin opMod (pur (Wv.fz k_3)) (bLen [(Wv.fz script_1)])))) (pur [k_3]))))) items []))
 (bnd (dItems (dFz (dSl (pur (Wv.fz script_1)) (pur none) (dPart (pur (Wv.fz (D.int 63))))))) fun items => lcS (fun cell_5 => lcStep (pur true) (dFz (dBin opMod (pur (Wv.fz cell_5)) (opPow (Wv.fz (D.int 10)) (Wv.fz (D.int 60)))))) items []))
theorem t_cells_k01 (script_1 : D) : Tl m_cells_k01 ([some (.fz script_1), none, none, none] : Mir.Env) (g_cells_k01 script_1) :=
 (tl_ifx (E0 := ([some (.fz script_1), none, none, none] : Mir.Env)) (xt_seq xt_ret) rfl rfl (tl_seq1 (E1 := (fun many_2 => ([some (.fz script_1), some many_2, none, none] : Mir.Env))) (bl_set (E1 := (fun many_2 => ([some (.fz script_1), some many_2, none, none] : Mir.Env))) (Nat.le_of_ble_eq_true rfl) rfl (fun _ => rfl)) (fun many_2 => (tl_ret (congrArg (fun h_4 => h_4) (show ((cLc [3] (.nm 3) cYes (cFz (cCall f_mixed_k01 (cCons (cFz (cBin opSub2 (cBor 0) (cBin opMod (cBor 3) (cBlt bLen (bCons (cBor 0) bNil))))) (cCons (cVar 3) cNil)))) (cRng rng1 (cCons (cVar 1) cNil))) : CE) ([some (.fz script_1), some many_2, none, none] : Mir.Env) = (bnd (bnd (dCons (rdD many_2) (pur [])) rng1) fun items => lcS (fun k_3 => lcStep (pur true) (dFz (dCall f_mixed_k01 (dCons (dFz (dBin opSub2 (pur (Wv.fz script_1)) (dBin opMod (pur (Wv.fz k_3)) (bLen [(Wv.fz script_1)])))) (pur [k_3]))))) items []) from (lc_nm (E3 := fun k_3 => ([some (.fz script_1), some many_2, none, some (.fz k_3)] : Mir.Env)) (Nat.le_of_ble_eq_true rfl) (fun _ => rfl) rfl (fun k_3 => rfl) (fun k_3 => rfl))))))) (tl_ret (congrArg (fun h_6 => h_6) (show ((cLc [2] (.nm 2) cYes (cFz (cBin opMod (cBor 2) (cBin opPow (cUp (cC (.int 10))) (cUp (cC (.int 60)))))) (cItems (cFz (cSl (cBor 0) cNoP (cPart (cUp (cC (.int 63)))))))) : CE) ([some (.fz script_1), none, none, none] : Mir.Env) = (bnd (dItems (dFz (dSl (pur (Wv.fz script_1)) (pur none) (dPart (pur (Wv.fz (D.int 63))))))) fun items => lcS (fun cell_5 => lcStep (pur true) (dFz (dBin opMod (pur (Wv.fz cell_5)) (opPow (Wv.fz (D.int 10)) (Wv.fz (D.int 60)))))) items []) from (lc_nm (E3 := fun cell_5 => ([some (.fz script_1), none, some (.fz cell_5), none] : Mir.Env)) (Nat.le_of_ble_eq_true rfl) (fun _ => rfl) rfl (fun cell_5 => rfl) (fun cell_5 => rfl))))))
theorem c_cells_k01 (script_1 : D) (S : Store) : f_cells_k01 [script_1] S = g_cells_k01 script_1 S := fn_code rfl (t_cells_k01 script_1) S
end G
set_option Elab.async false
set_option linter.all false
set_option maxRecDepth 100000
set_option maxHeartbeats 4000000
namespace G
open PySem L2 Mir
noncomputable def m_cell_at_k02 : CS :=
    (cSeq (cKill [0, 1] (cIfS (cBin opLt (cBor 1) (cBlt bLen (bCons (cBor 0) bNil)))
      (cRet (cBin opSub2 (cBor 0) (cBor 1)))
      cSkip))
    (cRet (cUp (cC (.int 0)))))
noncomputable def f_cell_at_k02 : Fn := runF 2 m_cell_at_k02
noncomputable def g_cell_at_k02 (script_1 : D) (k_2 : D) : M Wv :=
 (ift (dBin opLt (pur (Wv.fz k_2)) (bLen [(Wv.fz script_1)]))
 (opSub2 (Wv.fz script_1) (Wv.fz k_2))
 (pur (Wv.fz (D.int 0))))
theorem t_cell_at_k02 (script_1 : D) (k_2 : D) : Tl m_cell_at_k02 ([some (.fz script_1), some (.fz k_2)] : Mir.Env) (g_cell_at_k02 script_1 k_2) :=
 (tl_ifx (E0 := ([none, none] : Mir.Env)) xt_ret rfl rfl (tl_ret rfl) (tl_ret rfl))
theorem c_cell_at_k02 (script_1 : D) (k_2 : D) (S : Store) : f_cell_at_k02 [script_1, k_2] S = g_cell_at_k02 script_1 k_2 S := fn_code rfl (t_cell_at_k02 script_1 k_2) S
end G
set_option Elab.async false
set_option linter.all false
set_option maxRecDepth 100000
set_option maxHeartbeats 4000000
namespace G
open PySem L2 Mir
noncomputable def m_wares_k10 : CS :=
    (cSeq (cSet 1 (cUp (cC (.str ""))))
    (cSeq (cKill [2] (cFor (cItems (cFz (cSl (cCall f_digits_k01 (cCons (cFz (cBin opDiv (cCall f_cell_at_k02 (cCons (cVar 0) (cCons (cC (.int 1)) cNil))) (cUp (cC (.int 8))))) (cCons (cFz (cBin opMul (cLst (cCons (cC (.int 26)) cNil)) (cUp (cC (.int 8))))) cNil))) cNoP (cPart (cBin opAdd (cUp (cC (.int 1))) (cBin opMod (cCall f_cell_at_k02 (cCons (cVar 0) (cCons (cC (.int 1)) cNil))) (cUp (cC (.int 8))))))))) (.nm 2) (cKill [2] (cSet 1 (cBin opAdd (cBor 1) (cBin opSub2 (cUp (cC (.str "abcdefghijklmnopqrstuvwxyz"))) (cBor 2)))))))
    (cSeq (cKill [0] (cSet 3 (cBin opSub2 (cLst (cCons (cC (.int 2)) (cCons (cC (.int 5)) cNil))) (cBlt bInt (bCons (cBl (cBin opEq (cBin opMod (cBin opDiv (cCall f_cell_at_k02 (cCons (cVar 0) (cCons (cC (.int 0)) cNil))) (cUp (cC (.int 122)))) (cUp (cC (.int 8)))) (cUp (cC (.int 3))))) bNil)))))
    (cRet (cBin opAdd (cLst (cCons (cVar 1) cNil)) (cSl (cLc [4] (.nm 4) (cBin (notM opEq) (cBor 4) (cBor 1)) (cVar 4) (cItems (cFz (cLst (cCons (cC (.str "cup")) (cCons (cC (.str "pot")) (cCons (cC (.str "zz")) (cCons (cC (.str "a")) (cCons (cC (.str "teapots")) (cCons (cC (.str "b")) cNil)))))))))) cNoP (cPart (cBor 3))))))))
noncomputable def f_wares_k10 : Fn := runF 5 m_wares_k10
noncomputable def g_wares_k10_l1 : D → Wv → M (Wv) := fun (cell_7 : D) (s_6 : Wv) => (bnd (dBin opAdd (rd s_6) (opSub2 (Wv.fz (D.str "abcdefghijklmnopqrstuvwxyz")) (Wv.fz cell_7))) fun word_8 => pur word_8)
noncomputable def g_wares_k10 (script_1 : D) : M Wv :=
 (bnd (pur (Wv.fz (D.str ""))) fun word_2 =>
 (bnd (bnd (dItems (dFz (dSl (dCall f_digits_k01 (dCons (dFz (dBin opDiv (f_cell_at_k02 (script_1 :: [(D.int 1)])) (pur (Wv.fz (D.int 8))))) (dCons (dFz (dBin opMul (dLst (pur [(D.int 26)])) (pur (Wv.fz (D.int 8))))) (pur [])))) (pur none) (dPart (dBin opAdd (pur (Wv.fz (D.int 1))) (dBin opMod (f_cell_at_k02 (script_1 :: [(D.int 1)])) (pur (Wv.fz (D.int 8))))))))) fun items => forD g_wares_k10_l1 items word_2) fun s_9 =>
 (bnd (dBin opSub2 (dLst (pur ((D.int 2) :: [(D.int 5)]))) (bnd (dConsB (dBl (dBin opEq (dBin opMod (dBin opDiv (f_cell_at_k02 (script_1 :: [(D.int 0)])) (pur (Wv.fz (D.int 122)))) (pur (Wv.fz (D.int 8)))) (pur (Wv.fz (D.int 3))))) (pur [])) bInt)) fun many_10 =>
 (dBin opAdd (dLst (dCons (rdD s_9) (pur []))) (dSl (bnd (dItems (dFz (dLst (pur ((D.str "cup") :: ((D.str "pot") :: ((D.str "zz") :: ((D.str "a") :: ((D.str "teapots") :: [(D.str "b")]))))))))) fun items => lcS (fun name_11 => lcStep (dBin (notM opEq) (pur (Wv.fz name_11)) (rd s_9)) (pur name_11)) items []) (pur none) (dPart (rd many_10)))))))
theorem t_wares_k10 (script_1 : D) : Tl m_wares_k10 ([some (.fz script_1), none, none, none, none] : Mir.Env) (g_wares_k10 script_1) :=
 (tl_seq1 (E1 := (fun word_2 => ([some (.fz script_1), some word_2, none, none, none] : Mir.Env))) (bl_set (E1 := (fun word_2 => ([some (.fz script_1), some word_2, none, none, none] : Mir.Env))) (Nat.le_of_ble_eq_true rfl) rfl (fun _ => rfl)) (fun word_2 => (tl_seq1 (E1 := (fun (s_9 : (Wv)) => ([some (.fz script_1), some s_9, none, none, none] : Mir.Env))) (bl_kill (E1 := (fun (s_9 : Wv) => ([some (.fz script_1), some s_9, none, none, none] : Mir.Env))) (E3 := (fun (s_9 : (Wv)) => ([some (.fz script_1), some s_9, none, none, none] : Mir.Env))) (bl_for (Es := (fun (s_6 : Wv) => ([some (.fz script_1), some s_6, none, none, none] : Mir.Env))) word_2 rfl rfl (sb_nm (E3 := fun cell_7 (s_6 : (Wv)) => ([some (.fz script_1), some s_6, some (.fz cell_7), none, none] : Mir.Env)) (fun _ => (Nat.le_of_ble_eq_true rfl)) (fun _ _ => rfl) (fun cell_7 s_6 => (bl_last (E1 := (fun (word_8 : Wv) => ([some (.fz script_1), some word_8, none, none, none] : Mir.Env))) (bl_kill (E1 := (fun word_8 => ([some (.fz script_1), some word_8, some (.fz cell_7), none, none] : Mir.Env))) (E3 := (fun (word_8 : Wv) => ([some (.fz script_1), some word_8, none, none, none] : Mir.Env))) (bl_set (E1 := (fun word_8 => ([some (.fz script_1), some word_8, some (.fz cell_7), none, none] : Mir.Env))) (Nat.le_of_ble_eq_true rfl) rfl (fun _ => rfl)) (fun _ => rfl)) (fun _ => rfl))))) (fun _ => rfl)) (fun s_9 => (tl_seq1 (E1 := (fun (many_10 : Wv) => ([none, some s_9, none, some many_10, none] : Mir.Env))) (bl_kill (E1 := (fun many_10 => ([some (.fz script_1), some s_9, none, some many_10, none] : Mir.Env))) (E3 := (fun (many_10 : Wv) => ([none, some s_9, none, some many_10, none] : Mir.Env))) (bl_set (E1 := (fun many_10 => ([some (.fz script_1), some s_9, none, some many_10, none] : Mir.Env))) (Nat.le_of_ble_eq_true rfl) rfl (fun _ => rfl)) (fun _ => rfl)) (fun many_10 => (tl_ret (congrArg (fun h_12 => (dBin opAdd (dLst (dCons (rdD s_9) (pur []))) (dSl h_12 (pur none) (dPart (rd many_10))))) (show ((cLc [4] (.nm 4) (cBin (notM opEq) (cBor 4) (cBor 1)) (cVar 4) (cItems (cFz (cLst (cCons (cC (.str "cup")) (cCons (cC (.str "pot")) (cCons (cC (.str "zz")) (cCons (cC (.str "a")) (cCons (cC (.str "teapots")) (cCons (cC (.str "b")) cNil)))))))))) : CE) ([none, some s_9, none, some many_10, none] : Mir.Env) = (bnd (dItems (dFz (dLst (pur ((D.str "cup") :: ((D.str "pot") :: ((D.str "zz") :: ((D.str "a") :: ((D.str "teapots") :: [(D.str "b")]))))))))) fun items => lcS (fun name_11 => lcStep (dBin (notM opEq) (pur (Wv.fz name_11)) (rd s_9)) (pur name_11)) items []) from (lc_nm (E3 := fun name_11 => ([none, some s_9, none, some many_10, some (.fz name_11)] : Mir.Env)) (Nat.le_of_ble_eq_true rfl) (fun _ => rfl) rfl (fun name_11 => rfl) (fun name_11 => rfl)))))))))))
theorem c_wares_k10 (script_1 : D) (S : Store) : f_wares_k10 [script_1] S = g_wares_k10 script_1 S := fn_code rfl (t_wares_k10 script_1) S
noncomputable def m_entry_k10 : CS :=
    (cSeq (cKill [0] (cAsg (.tp [5, 6, 7, 8, 9, 10]) (cCall f_digits_k01 (cCons (cVar 0) (cCons (cFz (cLst (cCons (cC (.int 16)) (cCons (cC (.int 6)) (cCons (cC (.int 4)) (cCons (cFz (cBin opPow (cUp (cC (.int 10))) (cUp (cC (.int 9))))) (cCons (cFz (cBin opAdd (cBin opPow (cUp (cC (.int 10))) (cUp (cC (.int 9)))) (cUp (cC (.int 1))))) (cCons (cFz (cBin opAdd (cBin opPow (cUp (cC (.int 10))) (cUp (cC (.int 9)))) (cUp (cC (.int 1))))) cNil)))))))) cNil)))))
    (cSeq (cSet 11 (cBlt bLen (bCons (cBor 3) bNil)))
    (cSeq (cSet 12 (cBin opSub2 (cBor 3) (cBin opMod (cBor 6) (cBor 11))))
    (cSeq (cKill [4] (cSet 13 (cGet2 (cBor 4) (cBor 12) (cC (.int 0)))))
    (cSeq (cSet 8 (cBin opAdd (cBin opSub2 (cLst (cCons (cFz (cBin opMod (cBor 8) (cUp (cC (.int 4))))) (cCons (cFz (cBin opMod (cBor 8) (cUp (cC (.int 50))))) (cCons (cFz (cBin opMod (cBor 8) (cUp (cC (.int 3000))))) (cCons (cVar 8) cNil))))) (cBor 7)) (cUp (cC (.int 1)))))
    (cSeq (cSet 9 (cBin opSub2 (cLst (cCons (cFz (cBin opMod (cBor 9) (cUp (cC (.int 9))))) (cCons (cFz (cBin opMod (cBor 9) (cUp (cC (.int 500))))) (cCons (cVar 9) cNil)))) (cBin opMod (cBor 8) (cUp (cC (.int 3))))))
    (cSeq (cSet 10 (cBin opSub2 (cLst (cCons (cC (.int 0)) (cCons (cFz (cBin opMod (cBor 10) (cUp (cC (.int 30))))) (cCons (cVar 10) cNil)))) (cBin opMod (cBin opDiv (cBor 8) (cUp (cC (.int 3)))) (cUp (cC (.int 3))))))
    (cSeq (cKill [] (cIfS (cAnd (cBin opGt (cBor 5) (cUp (cC (.int 5)))) (cAnd (cBin opLt (cBor 5) (cUp (cC (.int 12)))) (cBin opGt (cBor 13) (cUp (cC (.int 0))))))
      (cSet 8 (cBin opAdd (cUp (cC (.int 1))) (cBin opMod (cBor 8) (cBlt (bInt2 minI) (bCons (cBor 13) (bCons (cBin opPow (cUp (cC (.int 10))) (cUp (cC (.int 9)))) bNil))))))
      cSkip))
    (cSeq (cKill [3, 6, 11, 14, 15] (cIfS (cBin opEq (cBor 5) (cUp (cC (.int 15))))
      (cSeq (cKill [5, 8, 10, 13] (cSet 14 (cBin opAdd (cBin opMod (cBor 10) (cBin opPow (cUp (cC (.int 10))) (cUp (cC (.int 6))))) (cUp (cC (.int 1))))))
      (cSeq (cKill [3, 6, 7, 11] (cSet 15 (cBin opSub2 (cBor 3) (cBin opMod (cBin opAdd (cBin opAdd (cBin opMod (cBor 6) (cBor 11)) (cUp (cC (.int 1)))) (cBin opMod (cBor 7) (cBin opSub (cBor 11) (cUp (cC (.int 1)))))) (cBor 11)))))
      (cRet (cUp (cTup (cCons (cC (.str "part")) (cCons (cVar 1) (cCons (cVar 2) (cCons (cVar 12) (cCons (cVar 15) (cCons (cFz (cBin opMod (cBor 9) (cBin opAdd (cBor 14) (cUp (cC (.int 1)))))) (cCons (cVar 14) cNil))))))))))))
      cSkip))
    (cSeq (cKill [7] (cIfS (cBin opGt (cBor 5) (cUp (cC (.int 11))))
      (cRet (cUp (cTup (cCons (cC (.str "split")) (cCons (cVar 1) (cCons (cVar 2) (cCons (cVar 12) (cCons (cFz (cBin opAdd (cUp (cC (.int 1))) (cBin opMod (cBor 9) (cBin opSub2 (cLst (cCons (cC (.int 3)) (cCons (cC (.int 3)) (cCons (cC (.int 10)) (cCons (cC (.int 1000)) cNil))))) (cBor 7))))) (cCons (cFz (cBin opAdd (cUp (cC (.int 1))) (cBin opMod (cBor 10) (cBin opSub2 (cLst (cCons (cC (.int 3)) (cCons (cC (.int 5)) (cCons (cC (.int 10)) (cCons (cC (.int 1000)) cNil))))) (cBor 7))))) cNil)))))))))
      cSkip))
    (cSeq (cKill [] (cIfS (cBin opEq (cBor 5) (cUp (cC (.int 6))))
      (cRet (cUp (cTup (cCons (cC (.str "gift")) (cCons (cVar 1) (cCons (cVar 2) (cCons (cVar 12) (cCons (cVar 8) (cCons (cFz (cBin opMul (cBor 9) (cBor 10))) (cCons (cFz (cBin opSub (cBor 1) (cBin opMod (cBor 10) (cBin opAdd (cBor 1) (cUp (cC (.int 1))))))) cNil))))))))))
      cSkip))
    (cSeq (cKill [13] (cIfS (cOr (cBin opLt (cBor 5) (cUp (cC (.int 6)))) (cBin opEq (cBor 13) (cUp (cC (.int 0)))))
      (cRet (cUp (cTup (cCons (cC (.str "buy")) (cCons (cVar 1) (cCons (cVar 2) (cCons (cVar 12) (cCons (cVar 8) (cCons (cVar 9) (cCons (cVar 10) cNil))))))))))
      cSkip))
    (cSeq (cKill [5, 9, 10] (cIfS (cBin opLt (cBor 5) (cUp (cC (.int 10))))
      (cRet (cUp (cTup (cCons (cC (.str "sell")) (cCons (cVar 1) (cCons (cVar 2) (cCons (cVar 12) (cCons (cVar 8) (cCons (cVar 9) (cCons (cVar 10) (cCons (cC .non) cNil)))))))))))
      cSkip))
    (cRet (cUp (cTup (cCons (cC (.str "give")) (cCons (cVar 1) (cCons (cVar 2) (cCons (cVar 12) (cCons (cVar 8) (cCons (cC .non) cNil))))))))))))))))))))))
noncomputable def f_entry_k10 : Fn := runF 16 m_entry_k10
noncomputable def g_entry_k10 (cell_1 : D) (day_2 : D) (number_3 : D) (wares_here_4 : D) (held_5 : D) : M Wv :=
 (bnd (bnd (dCall f_digits_k01 (dCons (pur cell_1) (dCons (dFz (dLst (dCons (pur (D.int 16)) (dCons (pur (D.int 6)) (dCons (pur (D.int 4)) (dCons (dFz (opPow (Wv.fz (D.int 10)) (Wv.fz (D.int 9)))) (dCons (dFz (dBin opAdd (opPow (Wv.fz (D.int 10)) (Wv.fz (D.int 9))) (pur (Wv.fz (D.int 1))))) (dCons (dFz (dBin opAdd (opPow (Wv.fz (D.int 10)) (Wv.fz (D.int 9))) (pur (Wv.fz (D.int 1))))) (pur []))))))))) (pur [])))) fun w => un6 w fun kind_7 at_8 size_9 pieces_10 price_11 extra_12 => pur (kind_7, at_8, size_9, pieces_10, price_11, extra_12)) fun s_6 =>
 (bnd (bLen [(Wv.fz wares_here_4)]) fun many_13 =>
 (bnd (dBin opSub2 (pur (Wv.fz wares_here_4)) (dBin opMod (pur (Wv.fz s_6.2.1)) (rd many_13))) fun ware_14 =>
 (bnd (dGet2 (pur (Wv.fz held_5)) (rd ware_14) (pur (D.int 0))) fun there_15 =>
 (bnd (dBin opAdd (dBin opSub2 (dLst (dCons (dFz (opMod (Wv.fz s_6.2.2.2.1) (Wv.fz (D.int 4)))) (dCons (dFz (opMod (Wv.fz s_6.2.2.2.1) (Wv.fz (D.int 50)))) (dCons (dFz (opMod (Wv.fz s_6.2.2.2.1) (Wv.fz (D.int 3000)))) (pur [s_6.2.2.2.1]))))) (pur (Wv.fz s_6.2.2.1))) (pur (Wv.fz (D.int 1)))) fun pieces_16 =>
 (bnd (dBin opSub2 (dLst (dCons (dFz (opMod (Wv.fz s_6.2.2.2.2.1) (Wv.fz (D.int 9)))) (dCons (dFz (opMod (Wv.fz s_6.2.2.2.2.1) (Wv.fz (D.int 500)))) (pur [s_6.2.2.2.2.1])))) (dBin opMod (rd pieces_16) (pur (Wv.fz (D.int 3))))) fun price_17 =>
 (bnd (dBin opSub2 (dLst (dCons (pur (D.int 0)) (dCons (dFz (opMod (Wv.fz s_6.2.2.2.2.2) (Wv.fz (D.int 30)))) (pur [s_6.2.2.2.2.2])))) (dBin opMod (dBin opDiv (rd pieces_16) (pur (Wv.fz (D.int 3)))) (pur (Wv.fz (D.int 3))))) fun extra_18 =>
 (bnd (ift (dAnd (opGt (Wv.fz s_6.1) (Wv.fz (D.int 5))) (dAnd (opLt (Wv.fz s_6.1) (Wv.fz (D.int 12))) (dBin opGt (rd there_15) (pur (Wv.fz (D.int 0))))))
 (bnd (dBin opAdd (pur (Wv.fz (D.int 1))) (dBin opMod (rd pieces_16) (bnd (dConsB (rd there_15) (dConsB (opPow (Wv.fz (D.int 10)) (Wv.fz (D.int 9))) (pur []))) (bInt2 minI)))) fun pieces_21 => pur pieces_21)
 (pur pieces_16)) fun s_20 =>
 (ift (opEq (Wv.fz s_6.1) (Wv.fz (D.int 15)))
 (bnd (dBin opAdd (dBin opMod (rd extra_18) (opPow (Wv.fz (D.int 10)) (Wv.fz (D.int 6)))) (pur (Wv.fz (D.int 1)))) fun whole_22 =>
 (bnd (dBin opSub2 (pur (Wv.fz wares_here_4)) (dBin opMod (dBin opAdd (dBin opAdd (dBin opMod (pur (Wv.fz s_6.2.1)) (rd many_13)) (pur (Wv.fz (D.int 1)))) (dBin opMod (pur (Wv.fz s_6.2.2.1)) (dBin opSub (rd many_13) (pur (Wv.fz (D.int 1)))))) (rd many_13))) fun other_23 =>
 (dUp (dTup (dCons (pur (D.str "part")) (dCons (pur day_2) (dCons (pur number_3) (dCons (rdD ware_14) (dCons (rdD other_23) (dCons (dFz (dBin opMod (rd price_17) (dBin opAdd (rd whole_22) (pur (Wv.fz (D.int 1)))))) (dCons (rdD whole_22) (pur []))))))))))))
 (ift (opGt (Wv.fz s_6.1) (Wv.fz (D.int 11)))
 (dUp (dTup (dCons (pur (D.str "split")) (dCons (pur day_2) (dCons (pur number_3) (dCons (rdD ware_14) (dCons (dFz (dBin opAdd (pur (Wv.fz (D.int 1))) (dBin opMod (rd price_17) (dBin opSub2 (dLst (pur ((D.int 3) :: ((D.int 3) :: ((D.int 10) :: [(D.int 1000)]))))) (pur (Wv.fz s_6.2.2.1)))))) (dCons (dFz (dBin opAdd (pur (Wv.fz (D.int 1))) (dBin opMod (rd extra_18) (dBin opSub2 (dLst (pur ((D.int 3) :: ((D.int 5) :: ((D.int 10) :: [(D.int 1000)]))))) (pur (Wv.fz s_6.2.2.1)))))) (pur [])))))))))
 (ift (opEq (Wv.fz s_6.1) (Wv.fz (D.int 6)))
 (dUp (dTup (dCons (pur (D.str "gift")) (dCons (pur day_2) (dCons (pur number_3) (dCons (rdD ware_14) (dCons (rdD s_20) (dCons (dFz (dBin opMul (rd price_17) (rd extra_18))) (dCons (dFz (dBin opSub (pur (Wv.fz day_2)) (dBin opMod (rd extra_18) (opAdd (Wv.fz day_2) (Wv.fz (D.int 1)))))) (pur []))))))))))
 (ift (dOr (opLt (Wv.fz s_6.1) (Wv.fz (D.int 6))) (dBin opEq (rd there_15) (pur (Wv.fz (D.int 0)))))
 (dUp (dTup (dCons (pur (D.str "buy")) (dCons (pur day_2) (dCons (pur number_3) (dCons (rdD ware_14) (dCons (rdD s_20) (dCons (rdD price_17) (dCons (rdD extra_18) (pur []))))))))))
 (ift (opLt (Wv.fz s_6.1) (Wv.fz (D.int 10)))
 (dUp (dTup (dCons (pur (D.str "sell")) (dCons (pur day_2) (dCons (pur number_3) (dCons (rdD ware_14) (dCons (rdD s_20) (dCons (rdD price_17) (dCons (rdD extra_18) (pur [D.non]))))))))))
 (dUp (dTup (dCons (pur (D.str "give")) (dCons (pur day_2) (dCons (pur number_3) (dCons (rdD ware_14) (dCons (rdD s_20) (pur [D.non])))))))))))))))))))))
theorem t_entry_k10 (cell_1 : D) (day_2 : D) (number_3 : D) (wares_here_4 : D) (held_5 : D) : Tl m_entry_k10 ([some (.fz cell_1), some (.fz day_2), some (.fz number_3), some (.fz wares_here_4), some (.fz held_5), none, none, none, none, none, none, none, none, none, none, none] : Mir.Env) (g_entry_k10 cell_1 day_2 number_3 wares_here_4 held_5) :=
 (tl_seq1 (E1 := (fun (s_6 : (D × D × D × D × D × D)) => ([none, some (.fz day_2), some (.fz number_3), some (.fz wares_here_4), some (.fz held_5), some (.fz s_6.1), some (.fz s_6.2.1), some (.fz s_6.2.2.1), some (.fz s_6.2.2.2.1), some (.fz s_6.2.2.2.2.1), some (.fz s_6.2.2.2.2.2), none, none, none, none, none] : Mir.Env))) (bl_kill (E1 := (fun (s_6 : D × D × D × D × D × D) => ([some (.fz cell_1), some (.fz day_2), some (.fz number_3), some (.fz wares_here_4), some (.fz held_5), some (.fz s_6.1), some (.fz s_6.2.1), some (.fz s_6.2.2.1), some (.fz s_6.2.2.2.1), some (.fz s_6.2.2.2.2.1), some (.fz s_6.2.2.2.2.2), none, none, none, none, none] : Mir.Env))) (E3 := (fun (s_6 : (D × D × D × D × D × D)) => ([none, some (.fz day_2), some (.fz number_3), some (.fz wares_here_4), some (.fz held_5), some (.fz s_6.1), some (.fz s_6.2.1), some (.fz s_6.2.2.1), some (.fz s_6.2.2.2.1), some (.fz s_6.2.2.2.2.1), some (.fz s_6.2.2.2.2.2), none, none, none, none, none] : Mir.Env))) (bl_asg6 (E3 := (fun (s_6 : D × D × D × D × D × D) => ([some (.fz cell_1), some (.fz day_2), some (.fz number_3), some (.fz wares_here_4), some (.fz held_5), some (.fz s_6.1), some (.fz s_6.2.1), some (.fz s_6.2.2.1), some (.fz s_6.2.2.2.1), some (.fz s_6.2.2.2.2.1), some (.fz s_6.2.2.2.2.2), none, none, none, none, none] : Mir.Env))) (Nat.le_of_ble_eq_true rfl) (Nat.le_of_ble_eq_true rfl) (Nat.le_of_ble_eq_true rfl) (Nat.le_of_ble_eq_true rfl) (Nat.le_of_ble_eq_true rfl) (Nat.le_of_ble_eq_true rfl) rfl (fun _ _ _ _ _ _ => rfl)) (fun _ => rfl)) (fun s_6 => (tl_seq1 (E1 := (fun many_13 => ([none, some (.fz day_2), some (.fz number_3), some (.fz wares_here_4), some (.fz held_5), some (.fz s_6.1), some (.fz s_6.2.1), some (.fz s_6.2.2.1), some (.fz s_6.2.2.2.1), some (.fz s_6.2.2.2.2.1), some (.fz s_6.2.2.2.2.2), some many_13, none, none, none, none] : Mir.Env))) (bl_set (E1 := (fun many_13 => ([none, some (.fz day_2), some (.fz number_3), some (.fz wares_here_4), some (.fz held_5), some (.fz s_6.1), some (.fz s_6.2.1), some (.fz s_6.2.2.1), some (.fz s_6.2.2.2.1), some (.fz s_6.2.2.2.2.1), some (.fz s_6.2.2.2.2.2), some many_13, none, none, none, none] : Mir.Env))) (Nat.le_of_ble_eq_true rfl) rfl (fun _ => rfl)) (fun many_13 => (tl_seq1 (E1 := (fun ware_14 => ([none, some (.fz day_2), some (.fz number_3), some (.fz wares_here_4), some (.fz held_5), some (.fz s_6.1), some (.fz s_6.2.1), some (.fz s_6.2.2.1), some (.fz s_6.2.2.2.1), some (.fz s_6.2.2.2.2.1), some (.fz s_6.2.2.2.2.2), some many_13, some ware_14, none, none, none] : Mir.Env))) (bl_set (E1 := (fun ware_14 => ([none, some (.fz day_2), some (.fz number_3), some (.fz wares_here_4), some (.fz held_5), some (.fz s_6.1), some (.fz s_6.2.1), some (.fz s_6.2.2.1), some (.fz s_6.2.2.2.1), some (.fz s_6.2.2.2.2.1), some (.fz s_6.2.2.2.2.2), some many_13, some ware_14, none, none, none] : Mir.Env))) (Nat.le_of_ble_eq_true rfl) rfl (fun _ => rfl)) (fun ware_14 => (tl_seq1 (E1 := (fun (there_15 : Wv) => ([none, some (.fz day_2), some (.fz number_3), some (.fz wares_here_4), none, some (.fz s_6.1), some (.fz s_6.2.1), some (.fz s_6.2.2.1), some (.fz s_6.2.2.2.1), some (.fz s_6.2.2.2.2.1), some (.fz s_6.2.2.2.2.2), some many_13, some ware_14, some there_15, none, none] : Mir.Env))) (bl_kill (E1 := (fun there_15 => ([none, some (.fz day_2), some (.fz number_3), some (.fz wares_here_4), some (.fz held_5), some (.fz s_6.1), some (.fz s_6.2.1), some (.fz s_6.2.2.1), some (.fz s_6.2.2.2.1), some (.fz s_6.2.2.2.2.1), some (.fz s_6.2.2.2.2.2), some many_13, some ware_14, some there_15, none, none] : Mir.Env))) (E3 := (fun (there_15 : Wv) => ([none, some (.fz day_2), some (.fz number_3), some (.fz wares_here_4), none, some (.fz s_6.1), some (.fz s_6.2.1), some (.fz s_6.2.2.1), some (.fz s_6.2.2.2.1), some (.fz s_6.2.2.2.2.1), some (.fz s_6.2.2.2.2.2), some many_13, some ware_14, some there_15, none, none] : Mir.Env))) (bl_set (E1 := (fun there_15 => ([none, some (.fz day_2), some (.fz number_3), some (.fz wares_here_4), some (.fz held_5), some (.fz s_6.1), some (.fz s_6.2.1), some (.fz s_6.2.2.1), some (.fz s_6.2.2.2.1), some (.fz s_6.2.2.2.2.1), some (.fz s_6.2.2.2.2.2), some many_13, some ware_14, some there_15, none, none] : Mir.Env))) (Nat.le_of_ble_eq_true rfl) rfl (fun _ => rfl)) (fun _ => rfl)) (fun there_15 => (tl_seq1 (E1 := (fun pieces_16 => ([none, some (.fz day_2), some (.fz number_3), some (.fz wares_here_4), none, some (.fz s_6.1), some (.fz s_6.2.1), some (.fz s_6.2.2.1), some pieces_16, some (.fz s_6.2.2.2.2.1), some (.fz s_6.2.2.2.2.2), some many_13, some ware_14, some there_15, none, none] : Mir.Env))) (bl_set (E1 := (fun pieces_16 => ([none, some (.fz day_2), some (.fz number_3), some (.fz wares_here_4), none, some (.fz s_6.1), some (.fz s_6.2.1), some (.fz s_6.2.2.1), some pieces_16, some (.fz s_6.2.2.2.2.1), some (.fz s_6.2.2.2.2.2), some many_13, some ware_14, some there_15, none, none] : Mir.Env))) (Nat.le_of_ble_eq_true rfl) rfl (fun _ => rfl)) (fun pieces_16 => (tl_seq1 (E1 := (fun price_17 => ([none, some (.fz day_2), some (.fz number_3), some (.fz wares_here_4), none, some (.fz s_6.1), some (.fz s_6.2.1), some (.fz s_6.2.2.1), some pieces_16, some price_17, some (.fz s_6.2.2.2.2.2), some many_13, some ware_14, some there_15, none, none] : Mir.Env))) (bl_set (E1 := (fun price_17 => ([none, some (.fz day_2), some (.fz number_3), some (.fz wares_here_4), none, some (.fz s_6.1), some (.fz s_6.2.1), some (.fz s_6.2.2.1), some pieces_16, some price_17, some (.fz s_6.2.2.2.2.2), some many_13, some ware_14, some there_15, none, none] : Mir.Env))) (Nat.le_of_ble_eq_true rfl) rfl (fun _ => rfl)) (fun price_17 => (tl_seq1 (E1 := (fun extra_18 => ([none, some (.fz day_2), some (.fz number_3), some (.fz wares_here_4), none, some (.fz s_6.1), some (.fz s_6.2.1), some (.fz s_6.2.2.1), some pieces_16, some price_17, some extra_18, some many_13, some ware_14, some there_15, none, none] : Mir.Env))) (bl_set (E1 := (fun extra_18 => ([none, some (.fz day_2), some (.fz number_3), some (.fz wares_here_4), none, some (.fz s_6.1), some (.fz s_6.2.1), some (.fz s_6.2.2.1), some pieces_16, some price_17, some extra_18, some many_13, some ware_14, some there_15, none, none] : Mir.Env))) (Nat.le_of_ble_eq_true rfl) rfl (fun _ => rfl)) (fun extra_18 => (tl_seq1 (E1 := (fun (s_20 : Wv) => ([none, some (.fz day_2), some (.fz number_3), some (.fz wares_here_4), none, some (.fz s_6.1), some (.fz s_6.2.1), some (.fz s_6.2.2.1), some s_20, some price_17, some extra_18, some many_13, some ware_14, some there_15, none, none] : Mir.Env))) (bl_kif (bl_if rfl (bl_last (E1 := fun pieces_21 => ([none, some (.fz day_2), some (.fz number_3), some (.fz wares_here_4), none, some (.fz s_6.1), some (.fz s_6.2.1), some (.fz s_6.2.2.1), some pieces_21, some price_17, some extra_18, some many_13, some ware_14, some there_15, none, none] : Mir.Env)) (bl_kill (E1 := (fun pieces_21 => ([none, some (.fz day_2), some (.fz number_3), some (.fz wares_here_4), none, some (.fz s_6.1), some (.fz s_6.2.1), some (.fz s_6.2.2.1), some pieces_21, some price_17, some extra_18, some many_13, some ware_14, some there_15, none, none] : Mir.Env))) (E3 := fun pieces_21 => ([none, some (.fz day_2), some (.fz number_3), some (.fz wares_here_4), none, some (.fz s_6.1), some (.fz s_6.2.1), some (.fz s_6.2.2.1), some pieces_21, some price_17, some extra_18, some many_13, some ware_14, some there_15, none, none] : Mir.Env)) (bl_set (E1 := (fun pieces_21 => ([none, some (.fz day_2), some (.fz number_3), some (.fz wares_here_4), none, some (.fz s_6.1), some (.fz s_6.2.1), some (.fz s_6.2.2.1), some pieces_21, some price_17, some extra_18, some many_13, some ware_14, some there_15, none, none] : Mir.Env))) (Nat.le_of_ble_eq_true rfl) rfl (fun _ => rfl)) (fun _ => rfl)) (fun _ => rfl)) (bl_kskip rfl))) (fun s_20 => (tl_ifx (E0 := ([none, some (.fz day_2), some (.fz number_3), none, none, some (.fz s_6.1), none, some (.fz s_6.2.2.1), some s_20, some price_17, some extra_18, none, some ware_14, some there_15, none, none] : Mir.Env)) (xt_seq (xt_seq xt_ret)) rfl rfl (tl_seq1 (E1 := (fun (whole_22 : Wv) => ([none, some (.fz day_2), some (.fz number_3), some (.fz wares_here_4), none, none, some (.fz s_6.2.1), some (.fz s_6.2.2.1), none, some price_17, none, some many_13, some ware_14, none, some whole_22, none] : Mir.Env))) (bl_kill (E1 := (fun whole_22 => ([none, some (.fz day_2), some (.fz number_3), some (.fz wares_here_4), none, some (.fz s_6.1), some (.fz s_6.2.1), some (.fz s_6.2.2.1), some s_20, some price_17, some extra_18, some many_13, some ware_14, some there_15, some whole_22, none] : Mir.Env))) (E3 := (fun (whole_22 : Wv) => ([none, some (.fz day_2), some (.fz number_3), some (.fz wares_here_4), none, none, some (.fz s_6.2.1), some (.fz s_6.2.2.1), none, some price_17, none, some many_13, some ware_14, none, some whole_22, none] : Mir.Env))) (bl_set (E1 := (fun whole_22 => ([none, some (.fz day_2), some (.fz number_3), some (.fz wares_here_4), none, some (.fz s_6.1), some (.fz s_6.2.1), some (.fz s_6.2.2.1), some s_20, some price_17, some extra_18, some many_13, some ware_14, some there_15, some whole_22, none] : Mir.Env))) (Nat.le_of_ble_eq_true rfl) rfl (fun _ => rfl)) (fun _ => rfl)) (fun whole_22 => (tl_seq1 (E1 := (fun (other_23 : Wv) => ([none, some (.fz day_2), some (.fz number_3), none, none, none, none, none, none, some price_17, none, none, some ware_14, none, some whole_22, some other_23] : Mir.Env))) (bl_kill (E1 := (fun other_23 => ([none, some (.fz day_2), some (.fz number_3), some (.fz wares_here_4), none, none, some (.fz s_6.2.1), some (.fz s_6.2.2.1), none, some price_17, none, some many_13, some ware_14, none, some whole_22, some other_23] : Mir.Env))) (E3 := (fun (other_23 : Wv) => ([none, some (.fz day_2), some (.fz number_3), none, none, none, none, none, none, some price_17, none, none, some ware_14, none, some whole_22, some other_23] : Mir.Env))) (bl_set (E1 := (fun other_23 => ([none, some (.fz day_2), some (.fz number_3), some (.fz wares_here_4), none, none, some (.fz s_6.2.1), some (.fz s_6.2.2.1), none, some price_17, none, some many_13, some ware_14, none, some whole_22, some other_23] : Mir.Env))) (Nat.le_of_ble_eq_true rfl) rfl (fun _ => rfl)) (fun _ => rfl)) (fun other_23 => (tl_ret rfl))))) (tl_ifx (E0 := ([none, some (.fz day_2), some (.fz number_3), none, none, some (.fz s_6.1), none, none, some s_20, some price_17, some extra_18, none, some ware_14, some there_15, none, none] : Mir.Env)) xt_ret rfl rfl (tl_ret rfl) (tl_ifx (E0 := ([none, some (.fz day_2), some (.fz number_3), none, none, some (.fz s_6.1), none, none, some s_20, some price_17, some extra_18, none, some ware_14, some there_15, none, none] : Mir.Env)) xt_ret rfl rfl (tl_ret rfl) (tl_ifx (E0 := ([none, some (.fz day_2), some (.fz number_3), none, none, some (.fz s_6.1), none, none, some s_20, some price_17, some extra_18, none, some ware_14, none, none, none] : Mir.Env)) xt_ret rfl rfl (tl_ret rfl) (tl_ifx (E0 := ([none, some (.fz day_2), some (.fz number_3), none, none, none, none, none, some s_20, none, none, none, some ware_14, none, none, none] : Mir.Env)) xt_ret rfl rfl (tl_ret rfl) (tl_ret rfl))))))))))))))))))))))
theorem c_entry_k10 (cell_1 : D) (day_2 : D) (number_3 : D) (wares_here_4 : D) (held_5 : D) (S : Store) : f_entry_k10 [cell_1, day_2, number_3, wares_here_4, held_5] S = g_entry_k10 cell_1 day_2 number_3 wares_here_4 held_5 S := fn_code rfl (t_entry_k10 cell_1 day_2 number_3 wares_here_4 held_5) S
noncomputable def m_with_named_k10 : CS :=
    (cSeq (cKill [] (cIfS (cOr (cBin (notM opIn) (cBin opSub2 (cBor 0) (cUp (cC (.int 0)))) (cUp (cTup (cCons (cC (.str "sell")) (cCons (cC (.str "give")) cNil))))) (cBin opEq (cBin opMod (cBor 1) (cUp (cC (.int 3)))) (cUp (cC (.int 0)))))
      (cRetV 0)
      cSkip))
    (cSeq (cSet 2 (cBin opSub2 (cBor 0) (cUp (cC (.int 4)))))
    (cSeq (cSet 3 (cLst cNil))
    (cSeq (cKill [1, 2, 3, 4, 5] (cFor (cRng rng1 (cCons (cFz (cBin opAdd (cUp (cC (.int 1))) (cBin opMod (cBin opDiv (cBor 1) (cUp (cC (.int 3)))) (cUp (cC (.int 5)))))) cNil)) (.nm 4) (cSeq (cSet 5 (cBin opAdd (cUp (cC (.int 1))) (cBin opMod (cBin opDiv (cBor 1) (cBin opAdd (cBin opMul (cUp (cC (.int 7))) (cBor 4)) (cUp (cC (.int 5))))) (cBor 2))))
      (cSeq (cKill [] (cIfS (cBin opEq (cBor 4) (cBin opMod (cBin opDiv (cBor 1) (cUp (cC (.int 3)))) (cUp (cC (.int 5)))))
        (cSet 5 (cUp (cVar 2)))
        cSkip))
      (cSeq (cKill [4, 5] (cIfS (cBin opGt (cBor 2) (cUp (cC (.int 0))))
        (cSeq (cKill [4] (cMut 3 "list" mAppend (cCons (cTup (cCons (cFz (cBin opAdd (cBin opMod (cBor 1) (cBin opPow (cUp (cC (.int 10))) (cUp (cC (.int 5))))) (cBin opMul (cBor 4) (cBin opAdd (cUp (cC (.int 1))) (cBin opMod (cBin opDiv (cBor 1) (cUp (cC (.int 11)))) (cUp (cC (.int 9)))))))) (cCons (cVar 5) cNil))) cNil)))
        (cKill [5] (cSet 2 (cBin opSub (cBor 2) (cBor 5)))))
        cSkip))
      (cKill [] (cIfS (cBin opEq (cBor 2) (cUp (cC (.int 0))))
        (cRet (cBin opAdd (cSl (cBor 0) cNoP (cPart (cUn opNeg (cUp (cC (.int 1)))))) (cUp (cTup (cCons (cFz (cBlt bTuple (bCons (cBor 3) bNil))) cNil)))))
        cSkip)))))))
    (cRetV 0)))))
noncomputable def f_with_named_k10 : Fn := runF 6 m_with_named_k10
noncomputable def g_with_named_k10_l1 (told_1 : D) (cell_2 : D) : D → (Wv × Wv) → M (Out (Wv × Wv)) := fun (k_10 : D) (s_9 : Wv × Wv) => (bnd (dBin opAdd (pur (Wv.fz (D.int 1))) (dBin opMod (dBin opDiv (pur (Wv.fz cell_2)) (dBin opAdd (opMul (Wv.fz (D.int 7)) (Wv.fz k_10)) (pur (Wv.fz (D.int 5))))) (rd s_9.1))) fun some_11 =>
 (bnd (ift (dBin opEq (pur (Wv.fz k_10)) (dBin opMod (opDiv (Wv.fz cell_2) (Wv.fz (D.int 3))) (pur (Wv.fz (D.int 5)))))
 (bnd (dUp (rdD s_9.1)) fun some_14 => pur some_14)
 (pur some_11)) fun s_13 =>
 (bnd (ift (dBin opGt (rd s_9.1) (pur (Wv.fz (D.int 0))))
 (bnd (dMut "list" mAppend s_9.2 (dCons (dTup (dCons (dFz (dBin opAdd (dBin opMod (pur (Wv.fz cell_2)) (opPow (Wv.fz (D.int 10)) (Wv.fz (D.int 5)))) (dBin opMul (pur (Wv.fz k_10)) (dBin opAdd (pur (Wv.fz (D.int 1))) (dBin opMod (opDiv (Wv.fz cell_2) (Wv.fz (D.int 11))) (pur (Wv.fz (D.int 9)))))))) (dCons (rdD s_13) (pur [])))) (pur []))) fun lots_18 =>
 (bnd (dBin opSub (rd s_9.1) (rd s_13)) fun left_19 => pur (left_19, lots_18)))
 (pur (s_9.1, s_9.2))) fun s_17 =>
 (bnO (ift (dBin opEq (rd s_17.1) (pur (Wv.fz (D.int 0))))
 (bnd (dBin opAdd (dSl (pur (Wv.fz told_1)) (pur none) (dPart (opNeg (Wv.fz (D.int 1))))) (dUp (dTup (dCons (dFz (bnd (dConsB (rd s_17.2) (pur [])) bTuple)) (pur []))))) fun w => pur (.rt w))
 (pur (.nx ()))) fun s_20 => pur (.nx (s_17.1, s_17.2))))))
noncomputable def g_with_named_k10 (told_1 : D) (cell_2 : D) : M Wv :=
 (ift (dOr (dBin (notM opIn) (opSub2 (Wv.fz told_1) (Wv.fz (D.int 0))) (dUp (dTup (pur ((D.str "sell") :: [(D.str "give")]))))) (dBin opEq (opMod (Wv.fz cell_2) (Wv.fz (D.int 3))) (pur (Wv.fz (D.int 0)))))
 (rd (Wv.fz told_1))
 (bnd (opSub2 (Wv.fz told_1) (Wv.fz (D.int 4))) fun left_3 =>
 (bnd (dLst (pur [])) fun lots_4 =>
 (bnT (bnd (bnd (dCons (dFz (dBin opAdd (pur (Wv.fz (D.int 1))) (dBin opMod (opDiv (Wv.fz cell_2) (Wv.fz (D.int 3))) (pur (Wv.fz (D.int 5)))))) (pur [])) rng1) fun items => forO (g_with_named_k10_l1 told_1 cell_2) items (left_3, lots_4)) fun s_21 =>
 (rd (Wv.fz told_1))))))
theorem t_with_named_k10 (told_1 : D) (cell_2 : D) : Tl m_with_named_k10 ([some (.fz told_1), some (.fz cell_2), none, none, none, none] : Mir.Env) (g_with_named_k10 told_1 cell_2) :=
 (tl_ifx (E0 := ([some (.fz told_1), some (.fz cell_2), none, none, none, none] : Mir.Env)) xt_retV rfl rfl (tl_retV (w := (Wv.fz told_1)) rfl) (tl_seq1 (E1 := (fun left_3 => ([some (.fz told_1), some (.fz cell_2), some left_3, none, none, none] : Mir.Env))) (bl_set (E1 := (fun left_3 => ([some (.fz told_1), some (.fz cell_2), some left_3, none, none, none] : Mir.Env))) (Nat.le_of_ble_eq_true rfl) rfl (fun _ => rfl)) (fun left_3 => (tl_seq1 (E1 := (fun lots_4 => ([some (.fz told_1), some (.fz cell_2), some left_3, some lots_4, none, none] : Mir.Env))) (bl_set (E1 := (fun lots_4 => ([some (.fz told_1), some (.fz cell_2), some left_3, some lots_4, none, none] : Mir.Env))) (Nat.le_of_ble_eq_true rfl) rfl (fun _ => rfl)) (fun lots_4 => (tl_seq (E1 := (fun (s_21 : (Wv × Wv)) => ([some (.fz told_1), none, none, none, none, none] : Mir.Env))) (bo_kill (E1 := (fun (s_21 : Wv × Wv) => ([some (.fz told_1), some (.fz cell_2), some s_21.1, some s_21.2, none, none] : Mir.Env))) (E3 := (fun (s_21 : (Wv × Wv)) => ([some (.fz told_1), none, none, none, none, none] : Mir.Env))) (bo_for (Es := (fun (s_9 : Wv × Wv) => ([some (.fz told_1), some (.fz cell_2), some s_9.1, some s_9.2, none, none] : Mir.Env))) (left_3, lots_4) rfl rfl (so_nm (E3 := fun k_10 (s_9 : (Wv × Wv)) => ([some (.fz told_1), some (.fz cell_2), some s_9.1, some s_9.2, some (.fz k_10), none] : Mir.Env)) (fun _ => (Nat.le_of_ble_eq_true rfl)) (fun _ _ => rfl) (fun k_10 s_9 => (bo_seq1 (E1 := (fun some_11 => ([some (.fz told_1), some (.fz cell_2), some s_9.1, some s_9.2, some (.fz k_10), some some_11] : Mir.Env))) (bl_set (E1 := (fun some_11 => ([some (.fz told_1), some (.fz cell_2), some s_9.1, some s_9.2, some (.fz k_10), some some_11] : Mir.Env))) (Nat.le_of_ble_eq_true rfl) rfl (fun _ => rfl)) (fun some_11 => (bo_seq1 (E1 := (fun (s_13 : Wv) => ([some (.fz told_1), some (.fz cell_2), some s_9.1, some s_9.2, some (.fz k_10), some s_13] : Mir.Env))) (bl_kif (bl_if rfl (bl_last (E1 := fun some_14 => ([some (.fz told_1), some (.fz cell_2), some s_9.1, some s_9.2, some (.fz k_10), some some_14] : Mir.Env)) (bl_kill (E1 := (fun some_14 => ([some (.fz told_1), some (.fz cell_2), some s_9.1, some s_9.2, some (.fz k_10), some some_14] : Mir.Env))) (E3 := fun some_14 => ([some (.fz told_1), some (.fz cell_2), some s_9.1, some s_9.2, some (.fz k_10), some some_14] : Mir.Env)) (bl_set (E1 := (fun some_14 => ([some (.fz told_1), some (.fz cell_2), some s_9.1, some s_9.2, some (.fz k_10), some some_14] : Mir.Env))) (Nat.le_of_ble_eq_true rfl) rfl (fun _ => rfl)) (fun _ => rfl)) (fun _ => rfl)) (bl_kskip rfl))) (fun s_13 => (bo_seq1 (E1 := (fun (s_17 : Wv × Wv) => ([some (.fz told_1), some (.fz cell_2), some s_17.1, some s_17.2, none, none] : Mir.Env))) (bl_kif (bl_if rfl (bl_kseq (bl_seq (E1 := (fun (lots_18 : Wv) => ([some (.fz told_1), some (.fz cell_2), some s_9.1, some lots_18, none, some s_13] : Mir.Env))) (bl_kill (E1 := (fun lots_18 => ([some (.fz told_1), some (.fz cell_2), some s_9.1, some lots_18, some (.fz k_10), some s_13] : Mir.Env))) (E3 := (fun (lots_18 : Wv) => ([some (.fz told_1), some (.fz cell_2), some s_9.1, some lots_18, none, some s_13] : Mir.Env))) (bl_mut (w := s_9.2) (E1 := (fun lots_18 => ([some (.fz told_1), some (.fz cell_2), some s_9.1, some lots_18, some (.fz k_10), some s_13] : Mir.Env))) rfl rfl (fun _ => rfl)) (fun _ => rfl)) (fun lots_18 => (bl_last (E1 := fun left_19 => ([some (.fz told_1), some (.fz cell_2), some left_19, some lots_18, none, none] : Mir.Env)) (bl_kill (E1 := (fun (left_19 : Wv) => ([some (.fz told_1), some (.fz cell_2), some left_19, some lots_18, none, none] : Mir.Env))) (E3 := fun left_19 => ([some (.fz told_1), some (.fz cell_2), some left_19, some lots_18, none, none] : Mir.Env)) (bl_kill (E1 := (fun left_19 => ([some (.fz told_1), some (.fz cell_2), some left_19, some lots_18, none, some s_13] : Mir.Env))) (E3 := (fun (left_19 : Wv) => ([some (.fz told_1), some (.fz cell_2), some left_19, some lots_18, none, none] : Mir.Env))) (bl_set (E1 := (fun left_19 => ([some (.fz told_1), some (.fz cell_2), some left_19, some lots_18, none, some s_13] : Mir.Env))) (Nat.le_of_ble_eq_true rfl) rfl (fun _ => rfl)) (fun _ => rfl)) (fun _ => rfl)) (fun _ => rfl))))) (bl_kskip rfl))) (fun s_17 => (bo_last (E1 := (fun (s_20 : Unit) => ([some (.fz told_1), some (.fz cell_2), some s_17.1, some s_17.2, none, none] : Mir.Env))) (bo_kif (bo_if rfl (bo_kx xt_ret (bo_ret rfl)) (bo_kskip rfl))) (fun _ => rfl))))))))))) (fun _ => rfl)) (fun s_21 => (tl_retV (w := (Wv.fz told_1)) rfl))))))))
theorem c_with_named_k10 (told_1 : D) (cell_2 : D) (S : Store) : f_with_named_k10 [told_1, cell_2] S = g_with_named_k10 told_1 cell_2 S := fn_code rfl (t_with_named_k10 told_1 cell_2) S
noncomputable def m_check_range : CS :=
    (cKill [0, 1, 2] (cIfS (cNot (cChain opLe opLe (cBor 1) (cBor 0) (cBor 2)))
      (cRaise 2)
      cSkip))
noncomputable def f_check_range : Fn := runF 3 m_check_range
noncomputable def g_check_range (number_1 : D) (least_2 : D) (most_3 : D) : M Wv :=
 (ift (dNot (dChain opLe opLe (pur (Wv.fz least_2)) (pur (Wv.fz number_1)) (pur (Wv.fz most_3))))
 (dRaise 2)
 (pur (Wv.fz .non)))
theorem t_check_range (number_1 : D) (least_2 : D) (most_3 : D) : Tl m_check_range ([some (.fz number_1), some (.fz least_2), some (.fz most_3)] : Mir.Env) (g_check_range number_1 least_2 most_3) :=
 (tl_kill (tl_if rfl tl_raise tl_skip))
theorem c_check_range (number_1 : D) (least_2 : D) (most_3 : D) (S : Store) : f_check_range [number_1, least_2, most_3] S = g_check_range number_1 least_2 most_3 S := fn_code rfl (t_check_range number_1 least_2 most_3) S
noncomputable def m_is_ware : CS :=
    (cRet (cAndV (cBl (cChain opLe opLe (cUp (cC (.int 1))) (cBlt bLen (bCons (cBor 0) bNil)) (cUp (cC (.int 8))))) (cBlt bAll (bCons (cLc [1] (.nm 1) cYes (cFz (cBl (cBin opIn (cBor 1) (cUp (cC (.str "abcdefghijklmnopqrstuvwxyz")))))) (cItems (cVar 0))) bNil))))
noncomputable def f_is_ware : Fn := runF 2 m_is_ware
noncomputable def g_is_ware (text_1 : D) : M Wv :=
 (dAndV (dBl (dChain opLe opLe (pur (Wv.fz (D.int 1))) (bLen [(Wv.fz text_1)]) (pur (Wv.fz (D.int 8))))) (bnd (dConsB (bnd (dItems (pur text_1)) fun items => lcS (fun sign_2 => lcStep (pur true) (dFz (dBl (opIn (Wv.fz sign_2) (Wv.fz (D.str "abcdefghijklmnopqrstuvwxyz")))))) items []) (pur [])) bAll))
theorem t_is_ware (text_1 : D) : Tl m_is_ware ([some (.fz text_1), none] : Mir.Env) (g_is_ware text_1) :=
 (tl_ret (congrArg (fun h_3 => (dAndV (dBl (dChain opLe opLe (pur (Wv.fz (D.int 1))) (bLen [(Wv.fz text_1)]) (pur (Wv.fz (D.int 8))))) (bnd (dConsB h_3 (pur [])) bAll))) (show ((cLc [1] (.nm 1) cYes (cFz (cBl (cBin opIn (cBor 1) (cUp (cC (.str "abcdefghijklmnopqrstuvwxyz")))))) (cItems (cVar 0))) : CE) ([some (.fz text_1), none] : Mir.Env) = (bnd (dItems (pur text_1)) fun items => lcS (fun sign_2 => lcStep (pur true) (dFz (dBl (opIn (Wv.fz sign_2) (Wv.fz (D.str "abcdefghijklmnopqrstuvwxyz")))))) items []) from (lc_nm (E3 := fun sign_2 => ([some (.fz text_1), some (.fz sign_2)] : Mir.Env)) (Nat.le_of_ble_eq_true rfl) (fun _ => rfl) rfl (fun sign_2 => rfl) (fun sign_2 => rfl)))))
theorem c_is_ware (text_1 : D) (S : Store) : f_is_ware [text_1] S = g_is_ware text_1 S := fn_code rfl (t_is_ware text_1) S
noncomputable def m_check_ware : CS :=
    (cKill [0] (cIfS (cNot (cTst (cCall f_is_ware (cCons (cVar 0) cNil))))
      (cRaise 2)
      cSkip))
noncomputable def f_check_ware : Fn := runF 1 m_check_ware
noncomputable def g_check_ware (text_1 : D) : M Wv :=
 (ift (dNot (dTst (f_is_ware [text_1])))
 (dRaise 2)
 (pur (Wv.fz .non)))
theorem t_check_ware (text_1 : D) : Tl m_check_ware ([some (.fz text_1)] : Mir.Env) (g_check_ware text_1) :=
 (tl_kill (tl_if rfl tl_raise tl_skip))
theorem c_check_ware (text_1 : D) (S : Store) : f_check_ware [text_1] S = g_check_ware text_1 S := fn_code rfl (t_check_ware text_1) S
noncomputable def m_Entry_init : CI :=
    (iSeq (iDrop (cCall f_check_range (cCons (cVar 1) (cCons (cC (.int 0)) (cCons (cC (.int (1000000))) cNil)))))
    (iSeq (iDrop (cCall f_check_range (cCons (cVar 2) (cCons (cC (.int 0)) (cCons (cC (.int (1000000))) cNil)))))
    (iSeq (iDrop (cCall f_check_ware (cCons (cVar 3) cNil)))
    (iSeq (iSet "day" (cVar 1))
    (iSeq (iSet "number" (cVar 2))
    (iSeq (iSet "ware" (cVar 3))
    iNil))))))
noncomputable def f_Entry_init : FnI := runI 4 m_Entry_init
noncomputable def m_Buy_init : CI :=
    (iSeq (iBase f_Entry_init (cCons (cVar 1) (cCons (cVar 2) (cCons (cVar 3) cNil))))
    (iSeq (iDrop (cCall f_check_range (cCons (cVar 4) (cCons (cC (.int 1)) (cCons (cC (.int (1000000000))) cNil)))))
    (iSeq (iDrop (cCall f_check_range (cCons (cVar 5) (cCons (cC (.int 0)) (cCons (cC (.int (1000000000))) cNil)))))
    (iSeq (iDrop (cCall f_check_range (cCons (cVar 6) (cCons (cC (.int 0)) (cCons (cC (.int (1000000000))) cNil)))))
    (iSeq (iSet "pieces" (cVar 4))
    (iSeq (iSet "price" (cVar 5))
    (iSeq (iSet "fee" (cVar 6))
    (iSeq (iSet "cost" (cFz (cBin opAdd (cBin opMul (cBor 4) (cBor 5)) (cBor 6))))
    iNil))))))))
noncomputable def f_Buy_init : FnI := runI 7 m_Buy_init
noncomputable def m_Gift_init : CI :=
    (iSeq (iBase f_Entry_init (cCons (cVar 1) (cCons (cVar 2) (cCons (cVar 3) cNil))))
    (iSeq (iDrop (cCall f_check_range (cCons (cVar 4) (cCons (cC (.int 1)) (cCons (cC (.int (1000000000))) cNil)))))
    (iSeq (iDrop (cCall f_check_range (cCons (cVar 5) (cCons (cC (.int 0)) (cCons (cC (.int (1000000000000000000))) cNil)))))
    (iSeq (iDrop (cCall f_check_range (cCons (cVar 6) (cCons (cC (.int 0)) (cCons (cVar 1) cNil)))))
    (iSeq (iSet "pieces" (cVar 4))
    (iSeq (iSet "cost" (cVar 5))
    (iSeq (iSet "since" (cVar 6))
    iNil)))))))
noncomputable def f_Gift_init : FnI := runI 7 m_Gift_init
noncomputable def m_Split_init : CI :=
    (iSeq (iBase f_Entry_init (cCons (cVar 1) (cCons (cVar 2) (cCons (cVar 3) cNil))))
    (iSeq (iDrop (cCall f_check_range (cCons (cVar 4) (cCons (cC (.int 1)) (cCons (cC (.int 1000)) cNil)))))
    (iSeq (iDrop (cCall f_check_range (cCons (cVar 5) (cCons (cC (.int 1)) (cCons (cC (.int 1000)) cNil)))))
    (iSeq (iSet "many" (cVar 4))
    (iSeq (iSet "of" (cVar 5))
    iNil)))))
noncomputable def f_Split_init : FnI := runI 6 m_Split_init
noncomputable def m_Parting_init : CI :=
    (iSeq (iBase f_Entry_init (cCons (cVar 1) (cCons (cVar 2) (cCons (cVar 3) cNil))))
    (iSeq (iDrop (cCall f_check_ware (cCons (cVar 4) cNil)))
    (iSeq (iDrop (cCall f_check_range (cCons (cVar 6) (cCons (cC (.int 1)) (cCons (cFz (cBin opPow (cUp (cC (.int 10))) (cUp (cC (.int 6))))) cNil)))))
    (iSeq (iDrop (cCall f_check_range (cCons (cVar 5) (cCons (cC (.int 0)) (cCons (cVar 6) cNil)))))
    (iSeq (iIf (cBin opEq (cBor 4) (cBor 3))
      (iSeq (iRaise 2)
      iNil)
      iNil)
    (iSeq (iSet "other" (cVar 4))
    (iSeq (iSet "share" (cVar 5))
    (iSeq (iSet "whole" (cVar 6))
    iNil))))))))
noncomputable def f_Parting_init : FnI := runI 7 m_Parting_init
noncomputable def g_checked_named_l1 : D → Unit → M (Unit) := fun (d : D) (s_5 : Unit) => un2 (Wv.fz d) fun lot_6 some_7 => (bnd (bnd (f_check_range (lot_6 :: ((D.int 0) :: [(D.int (1000000))]))) fun _ => pur ()) fun u_8 =>
 (bnd (bnd (f_check_range (some_7 :: ((D.int 1) :: [(D.int (1000000000))]))) fun _ => pur ()) fun u_9 => pur ()))
noncomputable def m_fields_k10 : CS :=
    (cSeq (cKill [2] (cIfS (cBin opEq (cBin opSub2 (cBor 1) (cUp (cC (.int 0)))) (cUp (cC (.str "buy"))))
      (cSeq (cKill [1] (cSet 2 (cLst (cCons (cFz (cBin opSub2 (cBor 1) (cUp (cC (.int 4))))) (cCons (cFz (cBin opSub2 (cBor 1) (cUp (cC (.int 5))))) (cCons (cFz (cBin opSub2 (cBor 1) (cUp (cC (.int 6))))) (cCons (cFz (cBin opAdd (cBin opMul (cBin opSub2 (cBor 1) (cUp (cC (.int 4)))) (cBin opSub2 (cBor 1) (cUp (cC (.int 5))))) (cBin opSub2 (cBor 1) (cUp (cC (.int 6)))))) cNil)))))))
      (cRet (cBl (cBin opEq (cLst (cCons (cFld "pieces" [12, 13, 14, 15] (cBor 0)) (cCons (cFld "price" [12, 13] (cBor 0)) (cCons (cFld "fee" [12, 13] (cBor 0)) (cCons (cFld "cost" [12, 14] (cBor 0)) cNil))))) (cBor 2)))))
      cSkip))
    (cSeq (cKill [2] (cIfS (cBin opEq (cBin opSub2 (cBor 1) (cUp (cC (.int 0)))) (cUp (cC (.str "sell"))))
      (cSeq (cKill [1] (cSet 2 (cLst (cCons (cFz (cBin opSub2 (cBor 1) (cUp (cC (.int 4))))) (cCons (cFz (cBin opSub2 (cBor 1) (cUp (cC (.int 5))))) (cCons (cFz (cBin opSub2 (cBor 1) (cUp (cC (.int 6))))) (cCons (cFz (cBin opSub (cBin opMul (cBin opSub2 (cBor 1) (cUp (cC (.int 4)))) (cBin opSub2 (cBor 1) (cUp (cC (.int 5))))) (cBin opSub2 (cBor 1) (cUp (cC (.int 6)))))) cNil)))))))
      (cRet (cBl (cBin opEq (cLst (cCons (cFld "pieces" [12, 13, 14, 15] (cBor 0)) (cCons (cFld "price" [12, 13] (cBor 0)) (cCons (cFld "fee" [12, 13] (cBor 0)) (cCons (cFld "proceeds" [13] (cBor 0)) cNil))))) (cBor 2)))))
      cSkip))
    (cSeq (cKill [] (cIfS (cBin opEq (cBin opSub2 (cBor 1) (cUp (cC (.int 0)))) (cUp (cC (.str "gift"))))
      (cRet (cBl (cBin opEq (cLst (cCons (cFld "pieces" [12, 13, 14, 15] (cBor 0)) (cCons (cFld "cost" [12, 14] (cBor 0)) (cCons (cFld "since" [14] (cBor 0)) cNil)))) (cLst (cCons (cFz (cBin opSub2 (cBor 1) (cUp (cC (.int 4))))) (cCons (cFz (cBin opSub2 (cBor 1) (cUp (cC (.int 5))))) (cCons (cFz (cBin opSub2 (cBor 1) (cUp (cC (.int 6))))) cNil)))))))
      cSkip))
    (cSeq (cKill [] (cIfS (cBin opEq (cBin opSub2 (cBor 1) (cUp (cC (.int 0)))) (cUp (cC (.str "split"))))
      (cRet (cBl (cBin opEq (cLst (cCons (cFld "many" [16] (cBor 0)) (cCons (cFld "of" [16] (cBor 0)) cNil))) (cLst (cCons (cFz (cBin opSub2 (cBor 1) (cUp (cC (.int 4))))) (cCons (cFz (cBin opSub2 (cBor 1) (cUp (cC (.int 5))))) cNil))))))
      cSkip))
    (cSeq (cKill [] (cIfS (cBin opEq (cBin opSub2 (cBor 1) (cUp (cC (.int 0)))) (cUp (cC (.str "part"))))
      (cRet (cBl (cBin opEq (cLst (cCons (cFld "other" [17] (cBor 0)) (cCons (cFld "share" [17] (cBor 0)) (cCons (cFld "whole" [17] (cBor 0)) cNil)))) (cLst (cCons (cFz (cBin opSub2 (cBor 1) (cUp (cC (.int 4))))) (cCons (cFz (cBin opSub2 (cBor 1) (cUp (cC (.int 5))))) (cCons (cFz (cBin opSub2 (cBor 1) (cUp (cC (.int 6))))) cNil)))))))
      cSkip))
    (cRet (cBl (cBin opEq (cUp (cFld "pieces" [12, 13, 14, 15] (cBor 0))) (cBin opSub2 (cBor 1) (cUp (cC (.int 4))))))))))))
noncomputable def f_fields_k10 : Fn := runF 3 m_fields_k10
noncomputable def g_fields_k10 (entry_here_1 : D) (told_2 : D) : M Wv :=
 (ift (dBin opEq (opSub2 (Wv.fz told_2) (Wv.fz (D.int 0))) (pur (Wv.fz (D.str "buy"))))
 (bnd (dLst (dCons (dFz (opSub2 (Wv.fz told_2) (Wv.fz (D.int 4)))) (dCons (dFz (opSub2 (Wv.fz told_2) (Wv.fz (D.int 5)))) (dCons (dFz (opSub2 (Wv.fz told_2) (Wv.fz (D.int 6)))) (dCons (dFz (dBin opAdd (dBin opMul (opSub2 (Wv.fz told_2) (Wv.fz (D.int 4))) (opSub2 (Wv.fz told_2) (Wv.fz (D.int 5)))) (opSub2 (Wv.fz told_2) (Wv.fz (D.int 6))))) (pur [])))))) fun due_3 =>
 (dBl (dBin opEq (dLst (dCons (dFld "pieces" [12, 13, 14, 15] (pur (Wv.fz entry_here_1))) (dCons (dFld "price" [12, 13] (pur (Wv.fz entry_here_1))) (dCons (dFld "fee" [12, 13] (pur (Wv.fz entry_here_1))) (dCons (dFld "cost" [12, 14] (pur (Wv.fz entry_here_1))) (pur [])))))) (rd due_3))))
 (ift (dBin opEq (opSub2 (Wv.fz told_2) (Wv.fz (D.int 0))) (pur (Wv.fz (D.str "sell"))))
 (bnd (dLst (dCons (dFz (opSub2 (Wv.fz told_2) (Wv.fz (D.int 4)))) (dCons (dFz (opSub2 (Wv.fz told_2) (Wv.fz (D.int 5)))) (dCons (dFz (opSub2 (Wv.fz told_2) (Wv.fz (D.int 6)))) (dCons (dFz (dBin opSub (dBin opMul (opSub2 (Wv.fz told_2) (Wv.fz (D.int 4))) (opSub2 (Wv.fz told_2) (Wv.fz (D.int 5)))) (opSub2 (Wv.fz told_2) (Wv.fz (D.int 6))))) (pur [])))))) fun due_4 =>
 (dBl (dBin opEq (dLst (dCons (dFld "pieces" [12, 13, 14, 15] (pur (Wv.fz entry_here_1))) (dCons (dFld "price" [12, 13] (pur (Wv.fz entry_here_1))) (dCons (dFld "fee" [12, 13] (pur (Wv.fz entry_here_1))) (dCons (dFld "proceeds" [13] (pur (Wv.fz entry_here_1))) (pur [])))))) (rd due_4))))
 (ift (dBin opEq (opSub2 (Wv.fz told_2) (Wv.fz (D.int 0))) (pur (Wv.fz (D.str "gift"))))
 (dBl (dBin opEq (dLst (dCons (dFld "pieces" [12, 13, 14, 15] (pur (Wv.fz entry_here_1))) (dCons (dFld "cost" [12, 14] (pur (Wv.fz entry_here_1))) (dCons (dFld "since" [14] (pur (Wv.fz entry_here_1))) (pur []))))) (dLst (dCons (dFz (opSub2 (Wv.fz told_2) (Wv.fz (D.int 4)))) (dCons (dFz (opSub2 (Wv.fz told_2) (Wv.fz (D.int 5)))) (dCons (dFz (opSub2 (Wv.fz told_2) (Wv.fz (D.int 6)))) (pur [])))))))
 (ift (dBin opEq (opSub2 (Wv.fz told_2) (Wv.fz (D.int 0))) (pur (Wv.fz (D.str "split"))))
 (dBl (dBin opEq (dLst (dCons (dFld "many" [16] (pur (Wv.fz entry_here_1))) (dCons (dFld "of" [16] (pur (Wv.fz entry_here_1))) (pur [])))) (dLst (dCons (dFz (opSub2 (Wv.fz told_2) (Wv.fz (D.int 4)))) (dCons (dFz (opSub2 (Wv.fz told_2) (Wv.fz (D.int 5)))) (pur []))))))
 (ift (dBin opEq (opSub2 (Wv.fz told_2) (Wv.fz (D.int 0))) (pur (Wv.fz (D.str "part"))))
 (dBl (dBin opEq (dLst (dCons (dFld "other" [17] (pur (Wv.fz entry_here_1))) (dCons (dFld "share" [17] (pur (Wv.fz entry_here_1))) (dCons (dFld "whole" [17] (pur (Wv.fz entry_here_1))) (pur []))))) (dLst (dCons (dFz (opSub2 (Wv.fz told_2) (Wv.fz (D.int 4)))) (dCons (dFz (opSub2 (Wv.fz told_2) (Wv.fz (D.int 5)))) (dCons (dFz (opSub2 (Wv.fz told_2) (Wv.fz (D.int 6)))) (pur [])))))))
 (dBl (dBin opEq (dUp (dFld "pieces" [12, 13, 14, 15] (pur (Wv.fz entry_here_1)))) (opSub2 (Wv.fz told_2) (Wv.fz (D.int 4))))))))))
theorem t_fields_k10 (entry_here_1 : D) (told_2 : D) : Tl m_fields_k10 ([some (.fz entry_here_1), some (.fz told_2), none] : Mir.Env) (g_fields_k10 entry_here_1 told_2) :=
 (tl_ifx (E0 := ([some (.fz entry_here_1), some (.fz told_2), none] : Mir.Env)) (xt_seq xt_ret) rfl rfl (tl_seq1 (E1 := (fun (due_3 : Wv) => ([some (.fz entry_here_1), none, some due_3] : Mir.Env))) (bl_kill (E1 := (fun due_3 => ([some (.fz entry_here_1), some (.fz told_2), some due_3] : Mir.Env))) (E3 := (fun (due_3 : Wv) => ([some (.fz entry_here_1), none, some due_3] : Mir.Env))) (bl_set (E1 := (fun due_3 => ([some (.fz entry_here_1), some (.fz told_2), some due_3] : Mir.Env))) (Nat.le_of_ble_eq_true rfl) rfl (fun _ => rfl)) (fun _ => rfl)) (fun due_3 => (tl_ret rfl))) (tl_ifx (E0 := ([some (.fz entry_here_1), some (.fz told_2), none] : Mir.Env)) (xt_seq xt_ret) rfl rfl (tl_seq1 (E1 := (fun (due_4 : Wv) => ([some (.fz entry_here_1), none, some due_4] : Mir.Env))) (bl_kill (E1 := (fun due_4 => ([some (.fz entry_here_1), some (.fz told_2), some due_4] : Mir.Env))) (E3 := (fun (due_4 : Wv) => ([some (.fz entry_here_1), none, some due_4] : Mir.Env))) (bl_set (E1 := (fun due_4 => ([some (.fz entry_here_1), some (.fz told_2), some due_4] : Mir.Env))) (Nat.le_of_ble_eq_true rfl) rfl (fun _ => rfl)) (fun _ => rfl)) (fun due_4 => (tl_ret rfl))) (tl_ifx (E0 := ([some (.fz entry_here_1), some (.fz told_2), none] : Mir.Env)) xt_ret rfl rfl (tl_ret rfl) (tl_ifx (E0 := ([some (.fz entry_here_1), some (.fz told_2), none] : Mir.Env)) xt_ret rfl rfl (tl_ret rfl) (tl_ifx (E0 := ([some (.fz entry_here_1), some (.fz told_2), none] : Mir.Env)) xt_ret rfl rfl (tl_ret rfl) (tl_ret rfl))))))
theorem c_fields_k10 (entry_here_1 : D) (told_2 : D) (S : Store) : f_fields_k10 [entry_here_1, told_2] S = g_fields_k10 entry_here_1 told_2 S := fn_code rfl (t_fields_k10 entry_here_1 told_2) S
noncomputable def m_kinds_k10 : CS :=
    (cSeq (cSet 1 (cLst (cCons (cFz (cIsO (tab [(12, true), (13, false), (14, false), (15, false), (16, false), (17, false)]) (cBor 0))) (cCons (cFz (cIsO (tab [(12, false), (13, true), (14, false), (15, false), (16, false), (17, false)]) (cBor 0))) (cCons (cFz (cIsO (tab [(12, false), (13, false), (14, true), (15, false), (16, false), (17, false)]) (cBor 0))) cNil)))))
    (cRet (cBin opAdd (cBor 1) (cLst (cCons (cFz (cIsO (tab [(12, false), (13, false), (14, false), (15, true), (16, false), (17, false)]) (cBor 0))) (cCons (cFz (cIsO (tab [(12, false), (13, false), (14, false), (15, false), (16, true), (17, false)]) (cBor 0))) (cCons (cFz (cIsO (tab [(12, false), (13, false), (14, false), (15, false), (16, false), (17, true)]) (cBor 0))) cNil)))))))
noncomputable def f_kinds_k10 : Fn := runF 2 m_kinds_k10
noncomputable def g_kinds_k10 (entry_here_1 : D) : M Wv :=
 (bnd (dLst (dCons (dFz (dIsO (tab [(12, true), (13, false), (14, false), (15, false), (16, false), (17, false)]) (pur (Wv.fz entry_here_1)))) (dCons (dFz (dIsO (tab [(12, false), (13, true), (14, false), (15, false), (16, false), (17, false)]) (pur (Wv.fz entry_here_1)))) (dCons (dFz (dIsO (tab [(12, false), (13, false), (14, true), (15, false), (16, false), (17, false)]) (pur (Wv.fz entry_here_1)))) (pur []))))) fun kinds_here_2 =>
 (dBin opAdd (rd kinds_here_2) (dLst (dCons (dFz (dIsO (tab [(12, false), (13, false), (14, false), (15, true), (16, false), (17, false)]) (pur (Wv.fz entry_here_1)))) (dCons (dFz (dIsO (tab [(12, false), (13, false), (14, false), (15, false), (16, true), (17, false)]) (pur (Wv.fz entry_here_1)))) (dCons (dFz (dIsO (tab [(12, false), (13, false), (14, false), (15, false), (16, false), (17, true)]) (pur (Wv.fz entry_here_1)))) (pur [])))))))
theorem t_kinds_k10 (entry_here_1 : D) : Tl m_kinds_k10 ([some (.fz entry_here_1), none] : Mir.Env) (g_kinds_k10 entry_here_1) :=
 (tl_seq1 (E1 := (fun kinds_here_2 => ([some (.fz entry_here_1), some kinds_here_2] : Mir.Env))) (bl_set (E1 := (fun kinds_here_2 => ([some (.fz entry_here_1), some kinds_here_2] : Mir.Env))) (Nat.le_of_ble_eq_true rfl) rfl (fun _ => rfl)) (fun kinds_here_2 => (tl_ret rfl)))
theorem c_kinds_k10 (entry_here_1 : D) (S : Store) : f_kinds_k10 [entry_here_1] S = g_kinds_k10 entry_here_1 S := fn_code rfl (t_kinds_k10 entry_here_1) S
noncomputable def m_Entry_word : CS :=
    (cRet (cUp (cC (.str ""))))
noncomputable def f_Entry_word : Fn := runF 1 m_Entry_word
noncomputable def m_Buy_word : CS :=
    (cRet (cUp (cC (.str "buy"))))
noncomputable def f_Buy_word : Fn := runF 1 m_Buy_word
noncomputable def g_Buy_word (self_1 : D) : M Wv :=
 (pur (Wv.fz (D.str "buy")))
theorem t_Buy_word (self_1 : D) : Tl m_Buy_word ([some (.fz self_1)] : Mir.Env) (g_Buy_word self_1) :=
 (tl_ret rfl)
theorem c_Buy_word (self_1 : D) (S : Store) : f_Buy_word [self_1] S = g_Buy_word self_1 S := fn_code rfl (t_Buy_word self_1) S
noncomputable def m_Sell_word : CS :=
    (cRet (cUp (cC (.str "sell"))))
noncomputable def f_Sell_word : Fn := runF 1 m_Sell_word
noncomputable def g_Sell_word (self_1 : D) : M Wv :=
 (pur (Wv.fz (D.str "sell")))
theorem t_Sell_word (self_1 : D) : Tl m_Sell_word ([some (.fz self_1)] : Mir.Env) (g_Sell_word self_1) :=
 (tl_ret rfl)
theorem c_Sell_word (self_1 : D) (S : Store) : f_Sell_word [self_1] S = g_Sell_word self_1 S := fn_code rfl (t_Sell_word self_1) S
noncomputable def m_Gift_word : CS :=
    (cRet (cUp (cC (.str "gift"))))
noncomputable def f_Gift_word : Fn := runF 1 m_Gift_word
noncomputable def g_Gift_word (self_1 : D) : M Wv :=
 (pur (Wv.fz (D.str "gift")))
theorem t_Gift_word (self_1 : D) : Tl m_Gift_word ([some (.fz self_1)] : Mir.Env) (g_Gift_word self_1) :=
 (tl_ret rfl)
theorem c_Gift_word (self_1 : D) (S : Store) : f_Gift_word [self_1] S = g_Gift_word self_1 S := fn_code rfl (t_Gift_word self_1) S
noncomputable def m_Give_word : CS :=
    (cRet (cUp (cC (.str "give"))))
noncomputable def f_Give_word : Fn := runF 1 m_Give_word
noncomputable def g_Give_word (self_1 : D) : M Wv :=
 (pur (Wv.fz (D.str "give")))
theorem t_Give_word (self_1 : D) : Tl m_Give_word ([some (.fz self_1)] : Mir.Env) (g_Give_word self_1) :=
 (tl_ret rfl)
theorem c_Give_word (self_1 : D) (S : Store) : f_Give_word [self_1] S = g_Give_word self_1 S := fn_code rfl (t_Give_word self_1) S
noncomputable def m_Split_word : CS :=
    (cRet (cUp (cC (.str "split"))))
noncomputable def f_Split_word : Fn := runF 1 m_Split_word
noncomputable def g_Split_word (self_1 : D) : M Wv :=
 (pur (Wv.fz (D.str "split")))
theorem t_Split_word (self_1 : D) : Tl m_Split_word ([some (.fz self_1)] : Mir.Env) (g_Split_word self_1) :=
 (tl_ret rfl)
theorem c_Split_word (self_1 : D) (S : Store) : f_Split_word [self_1] S = g_Split_word self_1 S := fn_code rfl (t_Split_word self_1) S
noncomputable def m_Parting_word : CS :=
    (cRet (cUp (cC (.str "part"))))
noncomputable def f_Parting_word : Fn := runF 1 m_Parting_word
noncomputable def g_Parting_word (self_1 : D) : M Wv :=
 (pur (Wv.fz (D.str "part")))
theorem t_Parting_word (self_1 : D) : Tl m_Parting_word ([some (.fz self_1)] : Mir.Env) (g_Parting_word self_1) :=
 (tl_ret rfl)
theorem c_Parting_word (self_1 : D) (S : Store) : f_Parting_word [self_1] S = g_Parting_word self_1 S := fn_code rfl (t_Parting_word self_1) S
noncomputable def m_Entry_told : CS :=
    (cRet (cUp (cTup (cCons (cFz (cMeth "word" (tabF [(11, f_Entry_word), (12, f_Buy_word), (13, f_Sell_word), (14, f_Gift_word), (15, f_Give_word), (16, f_Split_word), (17, f_Parting_word)]) (cVar 0) cNil)) (cCons (cFld "day" [11, 12, 13, 14, 15, 16, 17] (cBor 0)) (cCons (cFld "number" [11, 12, 13, 14, 15, 16, 17] (cBor 0)) (cCons (cFld "ware" [11, 12, 13, 14, 15, 16, 17] (cBor 0)) cNil)))))))
noncomputable def f_Entry_told : Fn := runF 1 m_Entry_told
noncomputable def g_Entry_told (self_1 : D) : M Wv :=
 (dUp (dTup (dCons (dFz (dMeth "word" (tabF [(11, f_Entry_word), (12, f_Buy_word), (13, f_Sell_word), (14, f_Gift_word), (15, f_Give_word), (16, f_Split_word), (17, f_Parting_word)]) (pur self_1) (pur []))) (dCons (dFld "day" [11, 12, 13, 14, 15, 16, 17] (pur (Wv.fz self_1))) (dCons (dFld "number" [11, 12, 13, 14, 15, 16, 17] (pur (Wv.fz self_1))) (dCons (dFld "ware" [11, 12, 13, 14, 15, 16, 17] (pur (Wv.fz self_1))) (pur [])))))))
theorem t_Entry_told (self_1 : D) : Tl m_Entry_told ([some (.fz self_1)] : Mir.Env) (g_Entry_told self_1) :=
 (tl_ret rfl)
theorem c_Entry_told (self_1 : D) (S : Store) : f_Entry_told [self_1] S = g_Entry_told self_1 S := fn_code rfl (t_Entry_told self_1) S
noncomputable def m_named_told : CS :=
    (cSeq (cKill [] (cIfS (cBin opIsN (cBor 0) (cUp (cC .non)))
      (cRet (cUp (cC .non)))
      cSkip))
    (cRet (cBlt bTuple (bCons (cBor 0) bNil))))
noncomputable def f_named_told : Fn := runF 1 m_named_told
noncomputable def g_named_told (named_1 : D) : M Wv :=
 (ift (opIsN (Wv.fz named_1) (Wv.fz D.non))
 (pur (Wv.fz D.non))
 (bTuple [(Wv.fz named_1)]))
theorem t_named_told (named_1 : D) : Tl m_named_told ([some (.fz named_1)] : Mir.Env) (g_named_told named_1) :=
 (tl_ifx (E0 := ([some (.fz named_1)] : Mir.Env)) xt_ret rfl rfl (tl_ret rfl) (tl_ret rfl))
theorem c_named_told (named_1 : D) (S : Store) : f_named_told [named_1] S = g_named_told named_1 S := fn_code rfl (t_named_told named_1) S
noncomputable def m_Sell_told : CS :=
    (cRet (cBin opAdd (cCall f_Entry_told (cCons (cVar 0) cNil)) (cUp (cTup (cCons (cFld "pieces" [13] (cBor 0)) (cCons (cFld "price" [13] (cBor 0)) (cCons (cFld "fee" [13] (cBor 0)) (cCons (cFz (cCall f_named_told (cCons (cFld "named" [13] (cBor 0)) cNil))) cNil))))))))
noncomputable def f_Sell_told : Fn := runF 1 m_Sell_told
noncomputable def g_Sell_told (self_1 : D) : M Wv :=
 (dBin opAdd (f_Entry_told [self_1]) (dUp (dTup (dCons (dFld "pieces" [13] (pur (Wv.fz self_1))) (dCons (dFld "price" [13] (pur (Wv.fz self_1))) (dCons (dFld "fee" [13] (pur (Wv.fz self_1))) (dCons (dFz (dCall f_named_told (dCons (dFld "named" [13] (pur (Wv.fz self_1))) (pur [])))) (pur []))))))))
theorem t_Sell_told (self_1 : D) : Tl m_Sell_told ([some (.fz self_1)] : Mir.Env) (g_Sell_told self_1) :=
 (tl_ret rfl)
theorem c_Sell_told (self_1 : D) (S : Store) : f_Sell_told [self_1] S = g_Sell_told self_1 S := fn_code rfl (t_Sell_told self_1) S
noncomputable def m_Give_told : CS :=
    (cRet (cBin opAdd (cCall f_Entry_told (cCons (cVar 0) cNil)) (cUp (cTup (cCons (cFld "pieces" [15] (cBor 0)) (cCons (cFz (cCall f_named_told (cCons (cFld "named" [15] (cBor 0)) cNil))) cNil))))))
noncomputable def f_Give_told : Fn := runF 1 m_Give_told
noncomputable def g_Give_told (self_1 : D) : M Wv :=
 (dBin opAdd (f_Entry_told [self_1]) (dUp (dTup (dCons (dFld "pieces" [15] (pur (Wv.fz self_1))) (dCons (dFz (dCall f_named_told (dCons (dFld "named" [15] (pur (Wv.fz self_1))) (pur [])))) (pur []))))))
theorem t_Give_told (self_1 : D) : Tl m_Give_told ([some (.fz self_1)] : Mir.Env) (g_Give_told self_1) :=
 (tl_ret rfl)
theorem c_Give_told (self_1 : D) (S : Store) : f_Give_told [self_1] S = g_Give_told self_1 S := fn_code rfl (t_Give_told self_1) S
noncomputable def m_Buy_told : CS :=
    (cRet (cBin opAdd (cCall f_Entry_told (cCons (cVar 0) cNil)) (cUp (cTup (cCons (cFld "pieces" [12] (cBor 0)) (cCons (cFld "price" [12] (cBor 0)) (cCons (cFld "fee" [12] (cBor 0)) cNil)))))))
noncomputable def f_Buy_told : Fn := runF 1 m_Buy_told
noncomputable def g_Buy_told (self_1 : D) : M Wv :=
 (dBin opAdd (f_Entry_told [self_1]) (dUp (dTup (dCons (dFld "pieces" [12] (pur (Wv.fz self_1))) (dCons (dFld "price" [12] (pur (Wv.fz self_1))) (dCons (dFld "fee" [12] (pur (Wv.fz self_1))) (pur [])))))))
theorem t_Buy_told (self_1 : D) : Tl m_Buy_told ([some (.fz self_1)] : Mir.Env) (g_Buy_told self_1) :=
 (tl_ret rfl)
theorem c_Buy_told (self_1 : D) (S : Store) : f_Buy_told [self_1] S = g_Buy_told self_1 S := fn_code rfl (t_Buy_told self_1) S
noncomputable def m_Gift_told : CS :=
    (cRet (cBin opAdd (cCall f_Entry_told (cCons (cVar 0) cNil)) (cUp (cTup (cCons (cFld "pieces" [14] (cBor 0)) (cCons (cFld "cost" [14] (cBor 0)) (cCons (cFld "since" [14] (cBor 0)) cNil)))))))
noncomputable def f_Gift_told : Fn := runF 1 m_Gift_told
noncomputable def g_Gift_told (self_1 : D) : M Wv :=
 (dBin opAdd (f_Entry_told [self_1]) (dUp (dTup (dCons (dFld "pieces" [14] (pur (Wv.fz self_1))) (dCons (dFld "cost" [14] (pur (Wv.fz self_1))) (dCons (dFld "since" [14] (pur (Wv.fz self_1))) (pur [])))))))
theorem t_Gift_told (self_1 : D) : Tl m_Gift_told ([some (.fz self_1)] : Mir.Env) (g_Gift_told self_1) :=
 (tl_ret rfl)
theorem c_Gift_told (self_1 : D) (S : Store) : f_Gift_told [self_1] S = g_Gift_told self_1 S := fn_code rfl (t_Gift_told self_1) S
noncomputable def m_Split_told : CS :=
    (cRet (cBin opAdd (cCall f_Entry_told (cCons (cVar 0) cNil)) (cUp (cTup (cCons (cFld "many" [16] (cBor 0)) (cCons (cFld "of" [16] (cBor 0)) cNil))))))
noncomputable def f_Split_told : Fn := runF 1 m_Split_told
noncomputable def g_Split_told (self_1 : D) : M Wv :=
 (dBin opAdd (f_Entry_told [self_1]) (dUp (dTup (dCons (dFld "many" [16] (pur (Wv.fz self_1))) (dCons (dFld "of" [16] (pur (Wv.fz self_1))) (pur []))))))
theorem t_Split_told (self_1 : D) : Tl m_Split_told ([some (.fz self_1)] : Mir.Env) (g_Split_told self_1) :=
 (tl_ret rfl)
theorem c_Split_told (self_1 : D) (S : Store) : f_Split_told [self_1] S = g_Split_told self_1 S := fn_code rfl (t_Split_told self_1) S
noncomputable def m_Parting_told : CS :=
    (cRet (cBin opAdd (cCall f_Entry_told (cCons (cVar 0) cNil)) (cUp (cTup (cCons (cFld "other" [17] (cBor 0)) (cCons (cFld "share" [17] (cBor 0)) (cCons (cFld "whole" [17] (cBor 0)) cNil)))))))
noncomputable def f_Parting_told : Fn := runF 1 m_Parting_told
noncomputable def g_Parting_told (self_1 : D) : M Wv :=
 (dBin opAdd (f_Entry_told [self_1]) (dUp (dTup (dCons (dFld "other" [17] (pur (Wv.fz self_1))) (dCons (dFld "share" [17] (pur (Wv.fz self_1))) (dCons (dFld "whole" [17] (pur (Wv.fz self_1))) (pur [])))))))
theorem t_Parting_told (self_1 : D) : Tl m_Parting_told ([some (.fz self_1)] : Mir.Env) (g_Parting_told self_1) :=
 (tl_ret rfl)
theorem c_Parting_told (self_1 : D) (S : Store) : f_Parting_told [self_1] S = g_Parting_told self_1 S := fn_code rfl (t_Parting_told self_1) S
end G
set_option Elab.async false
set_option linter.all false
set_option maxRecDepth 100000
set_option maxHeartbeats 4000000
namespace Mir
open PySem PySem.Spec PyProof.Rows L2
section
variable {T : Tx} {Wx : WX} {X : Cx}
noncomputable def bMin3 : List Wv → M Wv := fun ws S => match ws with
  | [.fz (.int i), .fz (.int j), .fz (.int k)] => .ok (.fz (.int (minI (minI i j) k))) S
  | _ => .bad
@[simp] theorem s_bMin3 {S : Store} {i j k : Int} : bMin3 [.fz (.int i), .fz (.int j), .fz (.int k)] S = .ok (.fz (.int (minI (minI i j) k))) S := rfl
end
end Mir
set_option Elab.async false
set_option linter.all false
set_option maxRecDepth 100000
namespace Mir
open PySem PySem.Spec PyProof.Rows L2
section
variable {T : Tx} {Wx : WX} {X : Cx} {g g0 : Gh} {H H0 : Hp} {c : Chk} {S : Store} {ds : Env} {σ : SV}
noncomputable def mDClear : Mu := fun so xs => match so, xs with
  | .dct _, [] => some (.dct [], .non)
  | _, _ => none
@[simp] theorem x_mDClear {kvs : List (Key × D)} : mDClear (.dct kvs) [] = some (.dct [], .non) := rfl
end
end Mir
set_option Elab.async false
set_option linter.all false
set_option maxRecDepth 100000
set_option maxHeartbeats 2000000
namespace Mir
open PySem PySem.Spec PyProof.Rows L2
noncomputable def padK (n : Nat) (mid : List D) (m : FnI) : FnI := fun args => m (args.take n ++ (mid ++ args.drop n))
section
variable {T : Tx} {Wx : WX} {X : Cx} {e o : Expr} {g g0 : Gh} {H H0 : Hp} {c : Chk} {S : Store} {ds : Env} {σ : SV} {pos kpos : Pos} {C : Addr} {nm : Option Str}
noncomputable def JK (T : Tx) (Wx : WX) (X : Cx) (kws : List Keyword) (f : Env → M (List D)) : Prop := PK X kws (tG T Wx (RA T) f)
theorem PK.imp {e : List Keyword} {t t' : TA} (h : PK X e t) (i : ∀ σ H Q, t' σ H Q → t σ H Q) : PK X e t' := ⟨fun pos pins s σ H Q I q => h.run pos pins s σ H Q I (i σ H Q q)⟩
theorem jk_nil : JK T Wx X [] cNil := PK.imp pk_nil fun σ H Q hh_ => by
  obtain ⟨g0, H0, c, g, S, ds, fr, p⟩ := hh_
  show Q [] H
  exact PostG.now (r := RA T H) p fr.st .nil
theorem jk_cons {kws : List Keyword} {f : Env → M D} {fs : Env → M (List D)} (h : JD T Wx X e f) (hr : JK T Wx X kws fs) : JK T Wx X (⟨nm, e, kpos⟩ :: kws) (cCons f fs) :=
  PK.imp (pk_cons h hr) fun σ H Q hh_ => by
    obtain ⟨g0, H0, c, g, S, ds, fr, p⟩ := hh_
    refine tG.bind (r2 := RA T) mono_a fr p fun d S1 g1 H1 v e1 fr1 rv p1 => ?_
    refine tG.bind (r1 := RA T) (r2 := RA T) mono_a fr1 p1 fun r S2 g2 H2 vs e2 fr2 rvs p2 => ?_
    exact p2.now fr2.st (.cons (Rep.fix (e2.fix fr1.st) rv) rvs)
structure MkdK (P : Program) (w : World) (K : PySem.W.Frag) (mg : Str → Option Value) (base : Heap) (T : Tx) (j : Nat) (x : Str) (k np nn : Nat) (ks : List Str) (mid : List D) (m : FnI) : Prop where
  ex : ∃ (f : Addr) (ok : Nat → Bool) (fd : FuncData) (ps : List Str) (G : List Value → List Value → List Value) (mv : List V), mg x = some (.ref (T.cls k)) ∧ L2.Mk K (T.cls k) f ∧ ok k = true ∧ ps.length = np + 1 ∧ nn + (mid.length + ks.length) = np ∧ KBn K fd ps (nn + 1) ks G (fun vs zs => vs ++ (mv ++ zs)) ∧ dfVs mid = some mv ∧ FnOk P w K mg base (L2.CX P w) j f fd ps (spI T np ok m)
theorem MkdK.mono {P : Program} {w : World} {K : PySem.W.Frag} {mg : Str → Option Value} {base : Heap} {i j : Nat} {x : Str} {k np nn : Nat} {ks : List Str} {mid : List D} {m : FnI} (d : MkdK P w K mg base T i x k np nn ks mid m) (h : i ≤ j) : MkdK P w K mg base T j x k np nn ks mid m := by
  obtain ⟨f, ok, fd, ps, G, mv, h1, h2, h3, h4, h5, h6, h7, h8⟩ := d.ex
  exact ⟨f, ok, fd, ps, G, mv, h1, h2, h3, h4, h5, h6, h7, h8.mono h⟩
noncomputable def tMkK (C : Addr) (n m : Nat) (sp : Sp) (E : L2.St → XK) (mv : List V) (t tk : TA) : TE := fun σ H Q => t σ H fun vs H1 => tk σ H1 fun zs H2 => vs.length = n ∧ zs.length = m ∧
  ∀ x dx, H2 x = none → H2 dx = none → dx ≠ x → sp (.ref x :: vs ++ (mv ++ zs)) (upd (upd H2 dx (.own x)) x (.ins C dx [])) (fun v H3 => v = .non ∧ Q (.ref x) H3) (E σ)
theorem run_mkK {CX : CXT} {k n : Nat} {ks : List Str} {f : Addr} {fd : FuncData} {ps : List Str} {sp : Sp} {E : XK} {pins : List (Addr × Obj)} {s : Shared} {Q : VK} {us ws : List Value} {vs zs : List V} {G : List Value → List Value → List Value} {GV : List V → List V → List V} (M : L2.Mk X.K C f) (F : FnOk X.prog X.w X.K X.mg X.base CX k f fd ps sp) (hr : Room (k + 1) X.A) (hb : KBn X.K fd ps (n + 1) ks G GV)
    (hx : PassesAt CX X σ E) (I : Inv X pins σ H s) (r : Vals vs us) (rz : Vals zs ws) (l1 : vs.length = n) (l2 : zs.length = ks.length) (h : ∀ x dx, H x = none → H dx = none → dx ≠ x → sp (GV (.ref x :: vs) zs) (upd (upd H dx (.own x)) x (.ins C dx [])) (fun v H2 => v = .non ∧ Q (.ref x) H2) E) :
    wpAny (model X.prog X.w) X.A (call (.ref C) us (ks.zip ws)) (EP X pins σ Q) X.xe s := by
  obtain ⟨z, hz⟩ : ∃ z, z = s.heap.objs.size := ⟨_, rfl⟩
  have q := h (z + 1) z (I.hok.fresh (by rw [hz]; exact Nat.le_succ _)) (I.hok.fresh (by rw [hz]; exact Nat.le_refl _)) (Nat.ne_of_lt (Nat.lt_succ_self z))
  have J := Inv.made (C := C) I
  rw [← hz] at J
  have r1 : Vals (V.ref (z + 1) :: vs) (Value.ref (z + 1) :: us) := .cons rfl r
  have rr := hb.rel r1 rz
  have e1 : (Value.ref (z + 1) :: us).length = n + 1 := r1.length.symm.trans (congrArg Nat.succ l1)
  have e2 : ws.length = ks.length := rz.length.symm.trans l2
  have bd := hb.to _ (Value.ref (z + 1) :: us) ws J.kIn e1 e2
  have run := F.run _ X.stack _ _ ⟨Value.ref (z + 1) :: us, ks.zip ws⟩ (G (Value.ref (z + 1) :: us) ws) _ _ E (hr.make C us (ks.zip ws)) (J.env0.make C us (ks.zip ws)) bd rr q
  subst hz
  refine wpAny_call (make_map (f := f) I.kIn M.makes M.init (beq_iff_eq.mp M.fn) (codeAny_mono run fun r s' hq => ?_))
  cases r with
  | error e => exact hx pins _ _ e s' J hq
  | ok fl =>
    cases fl with
    | ret u =>
      obtain ⟨v, H', I3, rv, ev, q3⟩ := J.after hq
      subst ev
      exact ⟨rv, ⟨.ref (s.heap.objs.size + 1), H', I3, rfl, q3⟩⟩
    | next => exact hq.elim
    | brk => exact hq.elim
    | cont => exact hq.elim
theorem pe_mkK {x : Str} {f : Addr} {fd : FuncData} {ps ks : List Str} {sp : Sp} {j n : Nat} {E : L2.St → XK} {t tk : TA} {p : Pos} {es : List Expr} {kws : List Keyword} {mv : List V} {G : List Value → List Value → List Value} (M : L2.Mk X.K C f) (F : FnOk X.prog X.w X.K X.mg X.base (L2.CX X.prog X.w) j f fd ps sp) (hr : Room (j + 1) X.A) (hb : KBn X.K fd ps (n + 1) ks G (fun vs zs => vs ++ (mv ++ zs))) (hg : Gl X x) (hm : X.mg x = some (.ref C))
    (ha : PA X (e :: es) t) (hkw : PK X kws tk) (hx : ∀ σ, PassesAt (L2.CX X.prog X.w) X σ (E σ)) (hall : (backToKw pos (keywordEach kws X.env)).all (·.1.isSome) = true) (hks : (backToKw pos (keywordEach kws X.env)).filterMap (·.1) = ks)
    (hdb : (x == ("__debug__" : Str)) = false) (he : starEach (e :: es) X.env = (false, eval e X.env) :: starEach es X.env)
    (hpl : ((backTo pos (starEach (e :: es) X.env)).any (·.1) || (backToKw pos (keywordEach kws X.env)).any (·.1.isNone)) = false) : PE X (.Call (.Name x p) (e :: es) kws pos) (tMkK C n ks.length sp E mv t tk) := by
  refine ⟨fun pins s σ H Q I h => ?_⟩
  refine wpAny_Call_Name_kw (ld_glob I hg hm ?_ hdb)
  refine PySem.W.callWith_KW (h₀ := X.base) I.ok.mod.kin M.kp hall (thn (ha.run pos pins s σ H _ I h) fun us s1 ⟨vs, H1, I1, r, q⟩ => ?_) hpl he
  refine thn (hkw.run pos pins s1 σ H1 _ I1 q) fun ws s2 ⟨zs, H2, I2, rz, l1, l2, q2⟩ => ⟨I2.kIn, ?_⟩
  rw [hks]
  exact run_mkK M F hr hb (hx σ) I2 r rz l1 l2 q2
noncomputable def cApp (fs zs : Env → M (List D)) : Env → M (List D) := fun ds S => bindR (fs ds S) fun a S => bindR (zs ds S) fun b S => .ok (a ++ b) S
noncomputable def dApp (fs zs : M (List D)) : M (List D) := fun S => bindR (fs S) fun a S => bindR (zs S) fun b S => .ok (a ++ b) S
theorem je_mkK {P : Program} {w : World} {mg : Str → Option Value} {base : Heap} {j : Nat} {x : Str} {k np nn : Nat} {ks : List Str} {mid : List D} {m : FnI} {p : Pos} {es : List Expr} {kws : List Keyword} {fs zs : Env → M (List D)} (B : Bd T mg P w base (j + 1) Wx X) (U : MkdK P w T.K mg base T j x k np nn ks mid m) (hg : Gl X x) (ha : JA T Wx X (e :: es) fs) (hz : JK T Wx X kws zs)
    (hlen : ∀ ds S args S', fs ds S = .ok args S' → args.length = nn) (hlen2 : ∀ ds S args S', zs ds S = .ok args S' → args.length = ks.length) (hall : (backToKw pos (keywordEach kws X.env)).all (·.1.isSome) = true := by rfl) (hks : (backToKw pos (keywordEach kws X.env)).filterMap (·.1) = ks := by rfl)
    (hdb : (x == ("__debug__" : Str)) = false := by decide) (he : starEach (e :: es) X.env = (false, eval e X.env) :: starEach es X.env := by rfl)
    (hpl : ((backTo pos (starEach (e :: es) X.env)).any (·.1) || (backToKw pos (keywordEach kws X.env)).any (·.1.isNone)) = false := by rfl) : JE T Wx X (.Call (.Name x p) (e :: es) kws pos) (cMk k (padK nn mid m) (cApp fs zs)) := by
  obtain ⟨f, ok, fd, ps, G, mv, h1, h2, h3, h4, hnn, h5, h8, h6⟩ := U.ex
  have hK := B.hK
  have hF : FnOk X.prog X.w X.K X.mg X.base (L2.CX X.prog X.w) j f fd ps (spI T np ok m) := by rw [B.prog, B.wo, hK, B.mg, B.ba]; exact h6
  refine PE.imp (pe_mkK (E := fun σ => WE Wx σ) (hK.symm ▸ h2) hF B.rm (hK.symm ▸ h5) hg (by rw [B.mg]; exact h1) ha hz (fun σ => passAt B.tk σ) hall hks hdb he hpl) fun σ H Q hh_ => ?_
  obtain ⟨g0, H0, c, g, S, ds, fr, p⟩ := hh_
  refine ⟨g0, H0, c, g, S, ds, fr, ?_⟩
  unfold cMk cApp at p
  cases q : fs ds S with
  | ex x1 S1 =>
    rw [q] at p
    exact p
  | bad =>
    rw [q] at p
    exact p
  | ok args S1 =>
    rw [q] at p
    intro g1 H1 vs e1 rs rv
    have p2 : PostG T Wx (RW T H1) g1 H1 σ Q (bindR (bindR (zs ds S1) fun b S => .ok (args ++ b) S) fun ds S => mkO k (padK nn mid m ds [] S)) := PostG.from mono_w e1 p
    have fr1 := fr.on e1 rs
    refine ⟨g0, H0, c, g1, S1, ds, fr1, ?_⟩
    cases q2 : zs ds S1 with
    | ex x1 S2 =>
      rw [q2] at p2
      exact p2
    | bad =>
      rw [q2] at p2
      exact p2
    | ok args2 S2 =>
      rw [q2] at p2
      intro g2 H2 ws e2 rs2 rw2
      have l1 : args.length = nn := hlen ds S args S1 q
      have l2 : args2.length = ks.length := hlen2 ds S1 args2 S2 q2
      refine ⟨by rw [← rv.length]; exact l1, by rw [← rw2.length]; exact l2, ?_⟩
      intro a dx ha hdx ne
      have p3 : PostG T Wx (RW T H2) g2 H2 σ Q (mkO k (m (args ++ (mid ++ args2)) [] S2)) := by
        have p4 := PostG.from mono_w e2 p2
        have e5 : (args ++ args2).take nn = args := by rw [← l1, List.take_left]
        have e6 : (args ++ args2).drop nn = args2 := by rw [← l1, List.drop_left]
        have e7 : padK nn mid m (args ++ args2) [] S2 = m (args ++ (mid ++ args2)) [] S2 := by
          unfold padK
          rw [e5, e6]
        rw [← e7]
        exact p4
      obtain ⟨g3, x3, rs3, _, _⟩ := alloc_lv rs2 hdx (.own a)
      obtain ⟨g4, x4, rs4, hL, hio⟩ := alloc_lv rs3 (p := a) (by rw [upd_ne (Ne.symm ne)]; exact ha) (.ins (T.cls k) dx [])
      have x34 := x3.trans x4
      have rd : Reps T g4 (upd (upd H2 dx (.own a)) a (.ins (T.cls k) dx [])) (args ++ (mid ++ args2)) (vs ++ (mv ++ ws)) := (Reps.fix (x34.fix rs2) (Reps.fix (e2.fix rs) rv)).app ((dfVs_ok h8).app (Reps.fix (x34.fix rs2) rw2))
      have ll : (V.ref a :: vs ++ (mv ++ ws)).length = np + 1 := by
        have z := rd.length
        rw [List.length_append, List.length_append, l1, l2, hnn] at z
        rw [List.cons_append, List.length_cons, ← z]
      refine ⟨ll, g4, S2, args ++ (mid ++ args2), a, k, dx, [], [], vs ++ (mv ++ ws), rfl, rs4, rd, ⟨hL, hio, upd_same, .nil⟩, h3, ?_⟩
      have toE : ∀ {g' : Gh} {H' : Hp}, ExtB a g4 (upd (upd H2 dx (.own a)) a (.ins (T.cls k) dx [])) g' H' → Ext g2 H2 g' H' := fun {g' H'} xb => by
        have na : ∀ {b : Addr} {o : HO}, H2 b = some o → b ≠ a := fun {b o} z y => by
          rw [y, ha] at z
          cases z
        refine ⟨?_, fun b o z => ?_, fun b o z => ?_, fun b o nt z n => ?_⟩
        · obtain ⟨t, e⟩ := x34.pre
          obtain ⟨u, e'⟩ := xb.pre
          exact ⟨t ++ u, by rw [e', e, List.append_assoc]⟩
        · obtain ⟨o', z'⟩ := x34.trk b o z
          exact xb.trk b o' z'
        · obtain ⟨o', z'⟩ := x34.trk b o z
          exact (xb.liv b o' z').trans (x34.liv b o z)
        · obtain ⟨h1, n1⟩ := x34.kp b o nt z n
          exact xb.kp b o nt h1 n1 (na z)
      cases q3 : m (args ++ (mid ++ args2)) [] S2 with
      | ok fl S3 =>
        rw [q3] at p3
        exact fun g' H' fv xb rs' sl => ⟨rfl, p3 g' H' _ (toE xb) rs' ⟨a, rfl, ha, sl.liv, sl.nio, _, sl.obj, .ins sl.rep⟩⟩
      | ex x2 S3 =>
        rw [q3] at p3
        exact fun g' H' cls d xb rs' rx => p3 g' H' cls d (toE xb) rs' rx
      | bad =>
        rw [q3] at p3
        exact p3
theorem mkd_kw {P : Program} {w : World} {K : PySem.W.Frag} {mg : Str → Option Value} {base : Heap} {x qual : Str} {st : Stmt} {dvs : List V} {N ps ks : List Str} {j k np nn a b : Nat} {mid : List D} {ok : Nat → Bool} {body : CI} {T : Tx} (hT : T.K = K) (hl : ∀ a o, ¬ T.lean a o) (hm : mg x = some (.ref (T.cls k))) (F : InitFactD K (T.cls k) qual st dvs) (Sc : FnScope N ps (defScope st)) (hps : ps.length = np + 1) (hN : 0 < N.length) (hok : ok k = true) (hd : dvs ≠ [])
    (hnn : nn + (mid.length + ks.length) = np) (hdd : dfVs mid = some ((dvs.drop a).take b))
    (hbi : ∀ (T : Addr) (kV doc pm : Value) (an : Option Addr) (cdv ct : Value) (us its ws : List Value), us.length = nn + 1 → its.length = dvs.length → ws.length = ks.length →
      ∃ k, bindArgs (PySem.W.fnOf "__init__" qual (defArgs st) (defBody st) (defScope st) (.ref T) kV doc pm an cdv ct) ⟨us, ks.zip ws⟩ = seqItems? (.ref T) >>= k ∧ k (some its.toArray) = pure (ps.zip (us ++ ((its.drop a).take b ++ ws))))
    (hb : ∀ (f : Addr) (cdv : Value) (A : Around) (outer : List PySem.Env) (s : Shared) (H : Hp) (E : XK), Bd T mg P w base j (fun cls d _ H => E cls d H) (cxOf (L2.CX P w) P w K mg base N qual (defScope st) f cdv A outer s H E) →
      JNs T (fun cls d _ H => E cls d H) ok (cxOf (L2.CX P w) P w K mg base N qual (defScope st) f cdv A outer s H E) (defBody st) body) :
    MkdK P w T.K mg base T (j + 1) x k np nn ks mid (runI N.length body) := by
  obtain ⟨f, fd, mk, F⟩ := F
  rw [hT]
  obtain ⟨its, B⟩ := F.kbindsD (ps := ps) (nn + 1) ks (fun us ds ws => us ++ ((ds.drop a).take b ++ ws)) hd (fun r1 r2 r3 => r1.append (((r2.drop a).take b).append r3)) hbi
  exact ⟨f, ok, fd, ps, _, (dvs.drop a).take b, hm, mk, hok, hps, hnn, B, hdd, F.ok Sc (fun vs H Q E h => h.1.trans hps.symm) fun cdv A outer s H vs Q E hr h => init_run hT hl hN (hb f cdv A outer s H E) hr h⟩
end
end Mir
set_option Elab.async false
set_option linter.all false
set_option maxRecDepth 100000
set_option maxHeartbeats 4000000
namespace G
open PySem L2 Mir
noncomputable def m_checked_named_k10z : CS :=
    (cSeq (cKill [] (cIfS (cBin opIsN (cBor 0) (cUp (cC .non)))
      (cRet (cUp (cC .non)))
      cSkip))
    (cSeq (cKill [2, 3] (cForS (cVar 0) (.tp [2, 3]) (cSeq (cKill [2] (cDrop (cCall f_check_range (cCons (cVar 2) (cCons (cC (.int 0)) (cCons (cC (.int (1000000))) cNil))))))
      (cKill [3] (cDrop (cCall f_check_range (cCons (cVar 3) (cCons (cC (.int 1)) (cCons (cC (.int (1000000000))) cNil)))))))))
    (cSeq (cKill [1] (cIfS (cOr (cBin opLt (cUn opLenSet (cLcS [2, 3] (.tp [2, 3]) cYes (cVar 2) (cVar 0))) (cBlt bLen (bCons (cBor 0) bNil))) (cBin (notM opEq) (cBlt bSum (bCons (cLcS [2, 3] (.tp [2, 3]) cYes (cVar 3) (cVar 0)) bNil)) (cBor 1)))
      (cRaise 2)
      cSkip))
    (cRet (cBlt bList (bCons (cBor 0) bNil))))))
noncomputable def f_checked_named_k10z : Fn := runF 4 m_checked_named_k10z
noncomputable def g_checked_named_k10z_l1 : D → Unit → M (Unit) := fun (d : D) (s_5 : Unit) => un2 (Wv.fz d) fun lot_6 some_7 => (bnd (bnd (f_check_range (lot_6 :: ((D.int 0) :: [(D.int (1000000))]))) fun _ => pur ()) fun u_8 =>
 (bnd (bnd (f_check_range (some_7 :: ((D.int 1) :: [(D.int (1000000000))]))) fun _ => pur ()) fun u_9 => pur ()))
noncomputable def g_checked_named_k10z (named_1 : D) (pieces_2 : D) : M Wv :=
 (ift (opIsN (Wv.fz named_1) (Wv.fz D.non))
 (pur (Wv.fz D.non))
 (bnd (dForS (pur named_1) fun ck items => forD (fun d s => gdB ck (g_checked_named_k10z_l1 d s)) items ()) fun s_10 =>
 (ift (dOr (dBin opLt (dUn opLenSet (dLcS (pur named_1) (fun d => un2 (.fz d) fun lot_11 some_12 => lcStep (pur true) (pur lot_11)))) (bLen [(Wv.fz named_1)])) (dBin (notM opEq) (bnd (dConsB (dLcS (pur named_1) (fun d => un2 (.fz d) fun lot_14 some_15 => lcStep (pur true) (pur some_15))) (pur [])) bSum) (pur (Wv.fz pieces_2))))
 (dRaise 2)
 (bList [(Wv.fz named_1)]))))
theorem t_checked_named_k10z (named_1 : D) (pieces_2 : D) : Tl m_checked_named_k10z ([some (.fz named_1), some (.fz pieces_2), none, none] : Mir.Env) (g_checked_named_k10z named_1 pieces_2) :=
 (tl_ifx (E0 := ([some (.fz named_1), some (.fz pieces_2), none, none] : Mir.Env)) xt_ret rfl rfl (tl_ret rfl) (tl_seq1 (E1 := (fun (s_10 : (Unit)) => ([some (.fz named_1), some (.fz pieces_2), none, none] : Mir.Env))) (bl_kill (E1 := (fun (s_10 : Unit) => ([some (.fz named_1), some (.fz pieces_2), none, none] : Mir.Env))) (E3 := (fun (s_10 : (Unit)) => ([some (.fz named_1), some (.fz pieces_2), none, none] : Mir.Env))) (bl_forS (Es := (fun (s_5 : Unit) => ([some (.fz named_1), some (.fz pieces_2), none, none] : Mir.Env))) () rfl rfl (sb_tp2 (E3 := fun lot_6 some_7 (s_5 : (Unit)) => ([some (.fz named_1), some (.fz pieces_2), some (.fz lot_6), some (.fz some_7)] : Mir.Env)) (bd := fun lot_6 some_7 (s_5 : (Unit)) => (bnd (bnd (f_check_range (lot_6 :: ((D.int 0) :: [(D.int (1000000))]))) fun _ => pur ()) fun u_8 =>
 (bnd (bnd (f_check_range (some_7 :: ((D.int 1) :: [(D.int (1000000000))]))) fun _ => pur ()) fun u_9 => pur ()))) (fun _ => ⟨(Nat.le_of_ble_eq_true rfl), (Nat.le_of_ble_eq_true rfl)⟩) (fun _ _ _ => rfl) (fun lot_6 some_7 s_5 => (bl_seq (E1 := (fun (u_8 : Unit) => ([some (.fz named_1), some (.fz pieces_2), none, some (.fz some_7)] : Mir.Env))) (bl_kill (E1 := (fun u_8 => ([some (.fz named_1), some (.fz pieces_2), some (.fz lot_6), some (.fz some_7)] : Mir.Env))) (E3 := (fun (u_8 : Unit) => ([some (.fz named_1), some (.fz pieces_2), none, some (.fz some_7)] : Mir.Env))) (bl_drop rfl) (fun _ => rfl)) (fun u_8 => (bl_last (E1 := (fun (u_9 : Unit) => ([some (.fz named_1), some (.fz pieces_2), none, none] : Mir.Env))) (bl_kill (E1 := (fun u_9 => ([some (.fz named_1), some (.fz pieces_2), none, some (.fz some_7)] : Mir.Env))) (E3 := (fun (u_9 : Unit) => ([some (.fz named_1), some (.fz pieces_2), none, none] : Mir.Env))) (bl_drop rfl) (fun _ => rfl)) (fun _ => rfl))))))) (fun _ => rfl)) (fun s_10 => (tl_ifx (E0 := ([some (.fz named_1), none, none, none] : Mir.Env)) xt_raise rfl (congr (congrArg (fun h_13 => (fun h_16 => (dOr (dBin opLt (dUn opLenSet h_13) (bLen [(Wv.fz named_1)])) (dBin (notM opEq) (bnd (dConsB h_16 (pur [])) bSum) (pur (Wv.fz pieces_2)))))) (show ((cLcS [2, 3] (.tp [2, 3]) cYes (cVar 2) (cVar 0)) : CE) ([some (.fz named_1), some (.fz pieces_2), none, none] : Mir.Env) = (dLcS (pur named_1) (fun d => un2 (.fz d) fun lot_11 some_12 => lcStep (pur true) (pur lot_11))) from (lcS_eq rfl (stp_tp2 (E3 := fun lot_11 some_12 => ([some (.fz named_1), some (.fz pieces_2), some (.fz lot_11), some (.fz some_12)] : Mir.Env)) (tD := fun lot_11 some_12 => (pur true)) (eD := fun lot_11 some_12 => (pur lot_11)) (Nat.le_of_ble_eq_true rfl) (Nat.le_of_ble_eq_true rfl) (fun _ _ => rfl) (fun lot_11 some_12 => rfl) (fun lot_11 some_12 => rfl))))) (show ((cLcS [2, 3] (.tp [2, 3]) cYes (cVar 3) (cVar 0)) : CE) ([some (.fz named_1), some (.fz pieces_2), none, none] : Mir.Env) = (dLcS (pur named_1) (fun d => un2 (.fz d) fun lot_14 some_15 => lcStep (pur true) (pur some_15))) from (lcS_eq rfl (stp_tp2 (E3 := fun lot_14 some_15 => ([some (.fz named_1), some (.fz pieces_2), some (.fz lot_14), some (.fz some_15)] : Mir.Env)) (tD := fun lot_14 some_15 => (pur true)) (eD := fun lot_14 some_15 => (pur some_15)) (Nat.le_of_ble_eq_true rfl) (Nat.le_of_ble_eq_true rfl) (fun _ _ => rfl) (fun lot_14 some_15 => rfl) (fun lot_14 some_15 => rfl))))) tl_raise (tl_ret rfl)))))
theorem c_checked_named_k10z (named_1 : D) (pieces_2 : D) (S : Store) : f_checked_named_k10z [named_1, pieces_2] S = g_checked_named_k10z named_1 pieces_2 S := fn_code rfl (t_checked_named_k10z named_1 pieces_2) S
noncomputable def m_Sell_init_k10z : CI :=
    (iSeq (iBase f_Entry_init (cCons (cVar 1) (cCons (cVar 2) (cCons (cVar 3) cNil))))
    (iSeq (iDrop (cCall f_check_range (cCons (cVar 4) (cCons (cC (.int 1)) (cCons (cC (.int (1000000000))) cNil)))))
    (iSeq (iDrop (cCall f_check_range (cCons (cVar 5) (cCons (cC (.int 0)) (cCons (cC (.int (1000000000))) cNil)))))
    (iSeq (iDrop (cCall f_check_range (cCons (cVar 6) (cCons (cC (.int 0)) (cCons (cC (.int (1000000000))) cNil)))))
    (iSeq (iSet "pieces" (cVar 4))
    (iSeq (iSet "price" (cVar 5))
    (iSeq (iSet "fee" (cVar 6))
    (iSeq (iSet "named" (cFz (cCall f_checked_named_k10z (cCons (cVar 7) (cCons (cVar 4) cNil)))))
    (iSeq (iSet "proceeds" (cFz (cBin opSub (cBin opMul (cBor 4) (cBor 5)) (cBor 6))))
    iNil)))))))))
noncomputable def f_Sell_init_k10z : FnI := runI 8 m_Sell_init_k10z
noncomputable def m_Give_init_k10z : CI :=
    (iSeq (iBase f_Entry_init (cCons (cVar 1) (cCons (cVar 2) (cCons (cVar 3) cNil))))
    (iSeq (iDrop (cCall f_check_range (cCons (cVar 4) (cCons (cC (.int 1)) (cCons (cC (.int (1000000000))) cNil)))))
    (iSeq (iSet "pieces" (cVar 4))
    (iSeq (iSet "named" (cFz (cCall f_checked_named_k10z (cCons (cVar 5) (cCons (cVar 4) cNil)))))
    iNil))))
noncomputable def f_Give_init_k10z : FnI := runI 6 m_Give_init_k10z
noncomputable def m_made_k10z : CS :=
    (cSeq (cSet 1 (cSl (cBor 0) (cPart (cUp (cC (.int 1)))) cNoP))
    (cSeq (cKill [] (cIfS (cBin opEq (cBin opSub2 (cBor 0) (cUp (cC (.int 0)))) (cUp (cC (.str "buy"))))
      (cRet (cMk 12 f_Buy_init (cCons (cFz (cBin opSub2 (cBor 1) (cUp (cC (.int 0))))) (cCons (cFz (cBin opSub2 (cBor 1) (cUp (cC (.int 1))))) (cCons (cFz (cBin opSub2 (cBor 1) (cUp (cC (.int 2))))) (cCons (cFz (cBin opSub2 (cBor 1) (cUp (cC (.int 3))))) (cCons (cFz (cBin opSub2 (cBor 1) (cUp (cC (.int 4))))) (cCons (cFz (cBin opSub2 (cBor 1) (cUp (cC (.int 5))))) cNil))))))))
      cSkip))
    (cSeq (cKill [] (cIfS (cBin opEq (cBin opSub2 (cBor 0) (cUp (cC (.int 0)))) (cUp (cC (.str "gift"))))
      (cRet (cMk 14 f_Gift_init (cCons (cFz (cBin opSub2 (cBor 1) (cUp (cC (.int 0))))) (cCons (cFz (cBin opSub2 (cBor 1) (cUp (cC (.int 1))))) (cCons (cFz (cBin opSub2 (cBor 1) (cUp (cC (.int 2))))) (cCons (cFz (cBin opSub2 (cBor 1) (cUp (cC (.int 3))))) (cCons (cFz (cBin opSub2 (cBor 1) (cUp (cC (.int 4))))) (cCons (cFz (cBin opSub2 (cBor 1) (cUp (cC (.int 5))))) cNil))))))))
      cSkip))
    (cSeq (cKill [] (cIfS (cBin opEq (cBin opSub2 (cBor 0) (cUp (cC (.int 0)))) (cUp (cC (.str "split"))))
      (cRet (cMk 16 f_Split_init (cCons (cFz (cBin opSub2 (cBor 1) (cUp (cC (.int 0))))) (cCons (cFz (cBin opSub2 (cBor 1) (cUp (cC (.int 1))))) (cCons (cFz (cBin opSub2 (cBor 1) (cUp (cC (.int 2))))) (cCons (cFz (cBin opSub2 (cBor 1) (cUp (cC (.int 3))))) (cCons (cFz (cBin opSub2 (cBor 1) (cUp (cC (.int 4))))) cNil)))))))
      cSkip))
    (cSeq (cKill [] (cIfS (cBin opEq (cBin opSub2 (cBor 0) (cUp (cC (.int 0)))) (cUp (cC (.str "part"))))
      (cRet (cMk 17 f_Parting_init (cCons (cFz (cBin opSub2 (cBor 1) (cUp (cC (.int 0))))) (cCons (cFz (cBin opSub2 (cBor 1) (cUp (cC (.int 1))))) (cCons (cFz (cBin opSub2 (cBor 1) (cUp (cC (.int 2))))) (cCons (cFz (cBin opSub2 (cBor 1) (cUp (cC (.int 3))))) (cCons (cFz (cBin opSub2 (cBor 1) (cUp (cC (.int 4))))) (cCons (cFz (cBin opSub2 (cBor 1) (cUp (cC (.int 5))))) cNil))))))))
      cSkip))
    (cSeq (cSet 2 (cUn opShr (cBin opSub2 (cBor 1) (cUn opNeg (cUp (cC (.int 1)))))))
    (cSeq (cKill [] (cIfS (cBin (notM opIsN) (cBor 2) (cUp (cC .non)))
      (cSet 2 (cUn opShr (cBlt bList (bCons (cBor 2) bNil))))
      cSkip))
    (cSeq (cKill [0] (cIfS (cBin opEq (cBin opSub2 (cBor 0) (cUp (cC (.int 0)))) (cUp (cC (.str "sell"))))
      (cRet (cMk 13 f_Sell_init_k10z (cCons (cFz (cBin opSub2 (cBor 1) (cUp (cC (.int 0))))) (cCons (cFz (cBin opSub2 (cBor 1) (cUp (cC (.int 1))))) (cCons (cFz (cBin opSub2 (cBor 1) (cUp (cC (.int 2))))) (cCons (cFz (cBin opSub2 (cBor 1) (cUp (cC (.int 3))))) (cCons (cFz (cBin opSub2 (cBor 1) (cUp (cC (.int 4))))) (cCons (cFz (cBin opSub2 (cBor 1) (cUp (cC (.int 5))))) (cCons (cVar 2) cNil)))))))))
      cSkip))
    (cRet (cMk 15 f_Give_init_k10z (cCons (cFz (cBin opSub2 (cBor 1) (cUp (cC (.int 0))))) (cCons (cFz (cBin opSub2 (cBor 1) (cUp (cC (.int 1))))) (cCons (cFz (cBin opSub2 (cBor 1) (cUp (cC (.int 2))))) (cCons (cFz (cBin opSub2 (cBor 1) (cUp (cC (.int 3))))) (cCons (cVar 2) cNil)))))))))))))))
noncomputable def f_made_k10z : Fn := runF 3 m_made_k10z
noncomputable def g_made_k10z (told_1 : D) : M Wv :=
 (bnd (dSl (pur (Wv.fz told_1)) (dPart (pur (Wv.fz (D.int 1)))) (pur none)) fun rest_2 =>
 (ift (dBin opEq (opSub2 (Wv.fz told_1) (Wv.fz (D.int 0))) (pur (Wv.fz (D.str "buy"))))
 (dMk 12 f_Buy_init (dCons (dFz (dBin opSub2 (rd rest_2) (pur (Wv.fz (D.int 0))))) (dCons (dFz (dBin opSub2 (rd rest_2) (pur (Wv.fz (D.int 1))))) (dCons (dFz (dBin opSub2 (rd rest_2) (pur (Wv.fz (D.int 2))))) (dCons (dFz (dBin opSub2 (rd rest_2) (pur (Wv.fz (D.int 3))))) (dCons (dFz (dBin opSub2 (rd rest_2) (pur (Wv.fz (D.int 4))))) (dCons (dFz (dBin opSub2 (rd rest_2) (pur (Wv.fz (D.int 5))))) (pur []))))))))
 (ift (dBin opEq (opSub2 (Wv.fz told_1) (Wv.fz (D.int 0))) (pur (Wv.fz (D.str "gift"))))
 (dMk 14 f_Gift_init (dCons (dFz (dBin opSub2 (rd rest_2) (pur (Wv.fz (D.int 0))))) (dCons (dFz (dBin opSub2 (rd rest_2) (pur (Wv.fz (D.int 1))))) (dCons (dFz (dBin opSub2 (rd rest_2) (pur (Wv.fz (D.int 2))))) (dCons (dFz (dBin opSub2 (rd rest_2) (pur (Wv.fz (D.int 3))))) (dCons (dFz (dBin opSub2 (rd rest_2) (pur (Wv.fz (D.int 4))))) (dCons (dFz (dBin opSub2 (rd rest_2) (pur (Wv.fz (D.int 5))))) (pur []))))))))
 (ift (dBin opEq (opSub2 (Wv.fz told_1) (Wv.fz (D.int 0))) (pur (Wv.fz (D.str "split"))))
 (dMk 16 f_Split_init (dCons (dFz (dBin opSub2 (rd rest_2) (pur (Wv.fz (D.int 0))))) (dCons (dFz (dBin opSub2 (rd rest_2) (pur (Wv.fz (D.int 1))))) (dCons (dFz (dBin opSub2 (rd rest_2) (pur (Wv.fz (D.int 2))))) (dCons (dFz (dBin opSub2 (rd rest_2) (pur (Wv.fz (D.int 3))))) (dCons (dFz (dBin opSub2 (rd rest_2) (pur (Wv.fz (D.int 4))))) (pur [])))))))
 (ift (dBin opEq (opSub2 (Wv.fz told_1) (Wv.fz (D.int 0))) (pur (Wv.fz (D.str "part"))))
 (dMk 17 f_Parting_init (dCons (dFz (dBin opSub2 (rd rest_2) (pur (Wv.fz (D.int 0))))) (dCons (dFz (dBin opSub2 (rd rest_2) (pur (Wv.fz (D.int 1))))) (dCons (dFz (dBin opSub2 (rd rest_2) (pur (Wv.fz (D.int 2))))) (dCons (dFz (dBin opSub2 (rd rest_2) (pur (Wv.fz (D.int 3))))) (dCons (dFz (dBin opSub2 (rd rest_2) (pur (Wv.fz (D.int 4))))) (dCons (dFz (dBin opSub2 (rd rest_2) (pur (Wv.fz (D.int 5))))) (pur []))))))))
 (bnd (dUn opShr (dBin opSub2 (rd rest_2) (opNeg (Wv.fz (D.int 1))))) fun lots_3 =>
 (bnd (ift (dBin (notM opIsN) (rd lots_3) (pur (Wv.fz D.non)))
 (bnd (dUn opShr (bnd (dConsB (rd lots_3) (pur [])) bList)) fun lots_6 => pur lots_6)
 (pur lots_3)) fun s_5 =>
 (ift (dBin opEq (opSub2 (Wv.fz told_1) (Wv.fz (D.int 0))) (pur (Wv.fz (D.str "sell"))))
 (dMk 13 f_Sell_init_k10z (dCons (dFz (dBin opSub2 (rd rest_2) (pur (Wv.fz (D.int 0))))) (dCons (dFz (dBin opSub2 (rd rest_2) (pur (Wv.fz (D.int 1))))) (dCons (dFz (dBin opSub2 (rd rest_2) (pur (Wv.fz (D.int 2))))) (dCons (dFz (dBin opSub2 (rd rest_2) (pur (Wv.fz (D.int 3))))) (dCons (dFz (dBin opSub2 (rd rest_2) (pur (Wv.fz (D.int 4))))) (dCons (dFz (dBin opSub2 (rd rest_2) (pur (Wv.fz (D.int 5))))) (dCons (rdD s_5) (pur [])))))))))
 (dMk 15 f_Give_init_k10z (dCons (dFz (dBin opSub2 (rd rest_2) (pur (Wv.fz (D.int 0))))) (dCons (dFz (dBin opSub2 (rd rest_2) (pur (Wv.fz (D.int 1))))) (dCons (dFz (dBin opSub2 (rd rest_2) (pur (Wv.fz (D.int 2))))) (dCons (dFz (dBin opSub2 (rd rest_2) (pur (Wv.fz (D.int 3))))) (dCons (rdD s_5) (pur [])))))))))))))))
theorem t_made_k10z (told_1 : D) : Tl m_made_k10z ([some (.fz told_1), none, none] : Mir.Env) (g_made_k10z told_1) :=
 (tl_seq1 (E1 := (fun rest_2 => ([some (.fz told_1), some rest_2, none] : Mir.Env))) (bl_set (E1 := (fun rest_2 => ([some (.fz told_1), some rest_2, none] : Mir.Env))) (Nat.le_of_ble_eq_true rfl) rfl (fun _ => rfl)) (fun rest_2 => (tl_ifx (E0 := ([some (.fz told_1), some rest_2, none] : Mir.Env)) xt_ret rfl rfl (tl_ret rfl) (tl_ifx (E0 := ([some (.fz told_1), some rest_2, none] : Mir.Env)) xt_ret rfl rfl (tl_ret rfl) (tl_ifx (E0 := ([some (.fz told_1), some rest_2, none] : Mir.Env)) xt_ret rfl rfl (tl_ret rfl) (tl_ifx (E0 := ([some (.fz told_1), some rest_2, none] : Mir.Env)) xt_ret rfl rfl (tl_ret rfl) (tl_seq1 (E1 := (fun lots_3 => ([some (.fz told_1), some rest_2, some lots_3] : Mir.Env))) (bl_set (E1 := (fun lots_3 => ([some (.fz told_1), some rest_2, some lots_3] : Mir.Env))) (Nat.le_of_ble_eq_true rfl) rfl (fun _ => rfl)) (fun lots_3 => (tl_seq1 (E1 := (fun (s_5 : Wv) => ([some (.fz told_1), some rest_2, some s_5] : Mir.Env))) (bl_kif (bl_if rfl (bl_last (E1 := fun lots_6 => ([some (.fz told_1), some rest_2, some lots_6] : Mir.Env)) (bl_kill (E1 := (fun lots_6 => ([some (.fz told_1), some rest_2, some lots_6] : Mir.Env))) (E3 := fun lots_6 => ([some (.fz told_1), some rest_2, some lots_6] : Mir.Env)) (bl_set (E1 := (fun lots_6 => ([some (.fz told_1), some rest_2, some lots_6] : Mir.Env))) (Nat.le_of_ble_eq_true rfl) rfl (fun _ => rfl)) (fun _ => rfl)) (fun _ => rfl)) (bl_kskip rfl))) (fun s_5 => (tl_ifx (E0 := ([none, some rest_2, some s_5] : Mir.Env)) xt_ret rfl rfl (tl_ret rfl) (tl_ret rfl))))))))))))
theorem c_made_k10z (told_1 : D) (S : Store) : f_made_k10z [told_1] S = g_made_k10z told_1 S := fn_code rfl (t_made_k10z told_1) S
noncomputable def m_right_k10z : CS :=
    (cSeq (cSet 1 (cCall f_made_k10z (cCons (cVar 0) cNil)))
    (cSeq (cFrz 1 (cKill [] (cIfS (cOr (cBin (notM opEq) (cLst (cCons (cFld "day" [12, 13, 14, 15, 16, 17] (cBor 1)) (cCons (cFld "number" [12, 13, 14, 15, 16, 17] (cBor 1)) (cCons (cFld "ware" [12, 13, 14, 15, 16, 17] (cBor 1)) cNil)))) (cBlt bList (bCons (cSl (cBor 0) (cPart (cUp (cC (.int 1)))) (cPart (cUp (cC (.int 4))))) bNil))) (cNot (cTst (cCall f_fields_k10 (cCons (cVar 1) (cCons (cVar 0) cNil))))))
      (cRet (cUp (cC (.bl false))))
      cSkip)))
    (cSeq (cSet 2 (cLst (cCons (cC (.str "buy")) (cCons (cC (.str "sell")) (cCons (cC (.str "gift")) (cCons (cC (.str "give")) (cCons (cC (.str "split")) (cCons (cC (.str "part")) cNil))))))))
    (cSeq (cFrz 2 (cKill [2] (cIfS (cOr (cNot (cTst (cIsO (tab [(12, true), (13, true), (14, true), (15, true), (16, true), (17, true)]) (cBor 1)))) (cBin (notM opEq) (cCall f_kinds_k10 (cCons (cVar 1) cNil)) (cLc [5] (.nm 5) cYes (cFz (cBl (cBin opEq (cBor 5) (cBin opSub2 (cBor 0) (cUp (cC (.int 0))))))) (cItems (cVar 2)))))
      (cRet (cUp (cC (.bl false))))
      cSkip)))
    (cSeq (cKill [] (cIfS (cOr (cBin (notM opEq) (cMeth "word" (tabF [(12, f_Buy_word), (13, f_Sell_word), (14, f_Gift_word), (15, f_Give_word), (16, f_Split_word), (17, f_Parting_word)]) (cVar 1) cNil) (cBin opSub2 (cBor 0) (cUp (cC (.int 0))))) (cOr (cNot (cTst (cUn (opIsTy "tuple") (cMeth "told" (tabF [(12, f_Buy_told), (13, f_Sell_told), (14, f_Gift_told), (15, f_Give_told), (16, f_Split_told), (17, f_Parting_told)]) (cVar 1) cNil)))) (cBin (notM opEq) (cMeth "told" (tabF [(12, f_Buy_told), (13, f_Sell_told), (14, f_Gift_told), (15, f_Give_told), (16, f_Split_told), (17, f_Parting_told)]) (cVar 1) cNil) (cBor 0))))
      (cRet (cUp (cC (.bl false))))
      cSkip))
    (cSeq (cKill [3, 4] (cIfS (cAnd (cBin opIn (cBin opSub2 (cBor 0) (cUp (cC (.int 0)))) (cUp (cTup (cCons (cC (.str "sell")) (cCons (cC (.str "give")) cNil))))) (cBin (notM opIsN) (cBin opSub2 (cBor 0) (cUn opNeg (cUp (cC (.int 1))))) (cUp (cC .non))))
      (cSeq (cKill [1] (cIfS (cOr (cNot (cTst (cUn (opIsTy "list") (cUp (cFld "named" [13, 15] (cBor 1)))))) (cBin (notM opEq) (cUp (cFld "named" [13, 15] (cBor 1))) (cBlt bList (bCons (cBin opSub2 (cBor 0) (cUn opNeg (cUp (cC (.int 1))))) bNil))))
        (cRet (cUp (cC (.bl false))))
        cSkip))
      (cSeq (cSet 3 (cUn opShr (cBlt bList (bCons (cBin opSub2 (cBor 0) (cUn opNeg (cUp (cC (.int 1))))) bNil))))
      (cSeq (cSet 4 (cMk 15 (padK 4 [] f_Give_init_k10z) (cApp (cCons (cFz (cBin opSub2 (cBor 0) (cUp (cC (.int 1))))) (cCons (cFz (cBin opSub2 (cBor 0) (cUp (cC (.int 2))))) (cCons (cFz (cBin opSub2 (cBor 0) (cUp (cC (.int 3))))) (cCons (cFz (cBin opSub2 (cBor 0) (cUp (cC (.int 4))))) cNil)))) (cCons (cVar 3) cNil))))
      (cSeq (cKill [] (cIfS (cBin opEq (cBin opSub2 (cBor 0) (cUp (cC (.int 0)))) (cUp (cC (.str "sell"))))
        (cSet 4 (cMk 13 (padK 5 [] f_Sell_init_k10z) (cApp (cCons (cFz (cBin opSub2 (cBor 0) (cUp (cC (.int 1))))) (cCons (cFz (cBin opSub2 (cBor 0) (cUp (cC (.int 2))))) (cCons (cFz (cBin opSub2 (cBor 0) (cUp (cC (.int 3))))) (cCons (cFz (cBin opSub2 (cBor 0) (cUp (cC (.int 4))))) (cCons (cFz (cBin opSub2 (cBor 0) (cUp (cC (.int 5))))) cNil))))) (cCons (cFz (cBin opSub2 (cBor 0) (cUp (cC (.int 6))))) (cCons (cVar 3) cNil)))))
        cSkip))
      (cSeq (cMut 3 "list" mAppend (cCons (cTup (cCons (cC (.int 0)) (cCons (cC (.int 1)) cNil))) cNil))
      (cSeq (cFrz 4 (cKill [] (cIfS (cOr (cBin (notM opEq) (cUp (cFld "named" [13, 15] (cBor 4))) (cBlt bList (bCons (cBin opSub2 (cBor 0) (cUn opNeg (cUp (cC (.int 1))))) bNil))) (cBin (notM opEq) (cMeth "told" (tabF [(13, f_Sell_told), (15, f_Give_told)]) (cVar 4) cNil) (cBor 0)))
        (cRet (cUp (cC (.bl false))))
        cSkip)))
      (cSeq (cKill [3] (cMut 3 "list" mClear cNil))
      (cRet (cAndV (cBl (cBin opEq (cUp (cFld "named" [13, 15] (cBor 4))) (cBlt bList (bCons (cBin opSub2 (cBor 0) (cUn opNeg (cUp (cC (.int 1))))) bNil)))) (cBl (cBin opEq (cMeth "told" (tabF [(13, f_Sell_told), (15, f_Give_told)]) (cVar 4) cNil) (cBor 0))))))))))))
      cSkip))
    (cRet (cOrV (cBl (cBin (notM opIn) (cBin opSub2 (cBor 0) (cUp (cC (.int 0)))) (cUp (cTup (cCons (cC (.str "sell")) (cCons (cC (.str "give")) cNil)))))) (cBl (cBin opIsN (cUp (cFld "named" [13, 15] (cBor 1))) (cUp (cC .non))))))))))))
noncomputable def f_right_k10z : Fn := runF 6 m_right_k10z
noncomputable def g_right_k10z (told_1 : D) : M Wv :=
 (bnd (f_made_k10z [told_1]) fun entry_here_2 =>
 (ift (dOr (dBin (notM opEq) (dLst (dCons (dFld "day" [12, 13, 14, 15, 16, 17] (rd entry_here_2.fzn)) (dCons (dFld "number" [12, 13, 14, 15, 16, 17] (rd entry_here_2.fzn)) (dCons (dFld "ware" [12, 13, 14, 15, 16, 17] (rd entry_here_2.fzn)) (pur []))))) (bnd (dConsB (dSl (pur (Wv.fz told_1)) (dPart (pur (Wv.fz (D.int 1)))) (dPart (pur (Wv.fz (D.int 4))))) (pur [])) bList)) (dNot (dTst (dCall f_fields_k10 (dCons (rdD entry_here_2.fzn) (pur [told_1]))))))
 (pur (Wv.fz (D.bl false)))
 (bnd (dLst (pur ((D.str "buy") :: ((D.str "sell") :: ((D.str "gift") :: ((D.str "give") :: ((D.str "split") :: [(D.str "part")]))))))) fun words_3 =>
 (ift (dOr (dNot (dTst (dIsO (tab [(12, true), (13, true), (14, true), (15, true), (16, true), (17, true)]) (rd entry_here_2.fzn)))) (dBin (notM opEq) (dCall f_kinds_k10 (dCons (rdD entry_here_2.fzn) (pur []))) (bnd (dItems (rdD words_3.fzn)) fun items => lcS (fun word_4 => lcStep (pur true) (dFz (dBl (dBin opEq (pur (Wv.fz word_4)) (opSub2 (Wv.fz told_1) (Wv.fz (D.int 0))))))) items [])))
 (pur (Wv.fz (D.bl false)))
 (ift (dOr (dBin (notM opEq) (dMeth "word" (tabF [(12, f_Buy_word), (13, f_Sell_word), (14, f_Gift_word), (15, f_Give_word), (16, f_Split_word), (17, f_Parting_word)]) (rdD entry_here_2.fzn) (pur [])) (opSub2 (Wv.fz told_1) (Wv.fz (D.int 0)))) (dOr (dNot (dTst (dUn (opIsTy "tuple") (dMeth "told" (tabF [(12, f_Buy_told), (13, f_Sell_told), (14, f_Gift_told), (15, f_Give_told), (16, f_Split_told), (17, f_Parting_told)]) (rdD entry_here_2.fzn) (pur []))))) (dBin (notM opEq) (dMeth "told" (tabF [(12, f_Buy_told), (13, f_Sell_told), (14, f_Gift_told), (15, f_Give_told), (16, f_Split_told), (17, f_Parting_told)]) (rdD entry_here_2.fzn) (pur [])) (pur (Wv.fz told_1)))))
 (pur (Wv.fz (D.bl false)))
 (ift (dAnd (dBin opIn (opSub2 (Wv.fz told_1) (Wv.fz (D.int 0))) (dUp (dTup (pur ((D.str "sell") :: [(D.str "give")]))))) (dBin (notM opIsN) (dBin opSub2 (pur (Wv.fz told_1)) (opNeg (Wv.fz (D.int 1)))) (pur (Wv.fz D.non))))
 (ift (dOr (dNot (dTst (dUn (opIsTy "list") (dUp (dFld "named" [13, 15] (rd entry_here_2.fzn)))))) (dBin (notM opEq) (dUp (dFld "named" [13, 15] (rd entry_here_2.fzn))) (bnd (dConsB (dBin opSub2 (pur (Wv.fz told_1)) (opNeg (Wv.fz (D.int 1)))) (pur [])) bList)))
 (pur (Wv.fz (D.bl false)))
 (bnd (dUn opShr (bnd (dConsB (dBin opSub2 (pur (Wv.fz told_1)) (opNeg (Wv.fz (D.int 1)))) (pur [])) bList)) fun handed_6 =>
 (bnd (dMk 15 (padK 4 [] f_Give_init_k10z) (dApp (dCons (dFz (opSub2 (Wv.fz told_1) (Wv.fz (D.int 1)))) (dCons (dFz (opSub2 (Wv.fz told_1) (Wv.fz (D.int 2)))) (dCons (dFz (opSub2 (Wv.fz told_1) (Wv.fz (D.int 3)))) (dCons (dFz (opSub2 (Wv.fz told_1) (Wv.fz (D.int 4)))) (pur []))))) (dCons (rdD handed_6) (pur [])))) fun other_7 =>
 (bnd (ift (dBin opEq (opSub2 (Wv.fz told_1) (Wv.fz (D.int 0))) (pur (Wv.fz (D.str "sell"))))
 (bnd (dMk 13 (padK 5 [] f_Sell_init_k10z) (dApp (dCons (dFz (opSub2 (Wv.fz told_1) (Wv.fz (D.int 1)))) (dCons (dFz (opSub2 (Wv.fz told_1) (Wv.fz (D.int 2)))) (dCons (dFz (opSub2 (Wv.fz told_1) (Wv.fz (D.int 3)))) (dCons (dFz (opSub2 (Wv.fz told_1) (Wv.fz (D.int 4)))) (dCons (dFz (opSub2 (Wv.fz told_1) (Wv.fz (D.int 5)))) (pur [])))))) (dCons (dFz (opSub2 (Wv.fz told_1) (Wv.fz (D.int 6)))) (dCons (rdD handed_6) (pur []))))) fun other_10 => pur other_10)
 (pur other_7)) fun s_9 =>
 (bnd (dMut "list" mAppend handed_6 (dCons (dTup (pur ((D.int 0) :: [(D.int 1)]))) (pur []))) fun handed_11 =>
 (ift (dOr (dBin (notM opEq) (dUp (dFld "named" [13, 15] (rd s_9.fzn))) (bnd (dConsB (dBin opSub2 (pur (Wv.fz told_1)) (opNeg (Wv.fz (D.int 1)))) (pur [])) bList)) (dBin (notM opEq) (dMeth "told" (tabF [(13, f_Sell_told), (15, f_Give_told)]) (rdD s_9.fzn) (pur [])) (pur (Wv.fz told_1))))
 (pur (Wv.fz (D.bl false)))
 (bnd (dMut "list" mClear handed_11 (pur [])) fun handed_12 =>
 (dAndV (dBl (dBin opEq (dUp (dFld "named" [13, 15] (rd s_9.fzn))) (bnd (dConsB (dBin opSub2 (pur (Wv.fz told_1)) (opNeg (Wv.fz (D.int 1)))) (pur [])) bList))) (dBl (dBin opEq (dMeth "told" (tabF [(13, f_Sell_told), (15, f_Give_told)]) (rdD s_9.fzn) (pur [])) (pur (Wv.fz told_1))))))))))))
 (dOrV (dBl (dBin (notM opIn) (opSub2 (Wv.fz told_1) (Wv.fz (D.int 0))) (dUp (dTup (pur ((D.str "sell") :: [(D.str "give")])))))) (dBl (dBin opIsN (dUp (dFld "named" [13, 15] (rd entry_here_2.fzn))) (pur (Wv.fz D.non)))))))))))
theorem t_right_k10z (told_1 : D) : Tl m_right_k10z ([some (.fz told_1), none, none, none, none, none] : Mir.Env) (g_right_k10z told_1) :=
 (tl_seq1 (E1 := (fun entry_here_2 => ([some (.fz told_1), some entry_here_2, none, none, none, none] : Mir.Env))) (bl_set (E1 := (fun entry_here_2 => ([some (.fz told_1), some entry_here_2, none, none, none, none] : Mir.Env))) (Nat.le_of_ble_eq_true rfl) rfl (fun _ => rfl)) (fun entry_here_2 => (tl_sfrz (E0 := ([some (.fz told_1), some entry_here_2.fzn, none, none, none, none] : Mir.Env)) entry_here_2 rfl rfl (tl_ifx (E0 := ([some (.fz told_1), some entry_here_2.fzn, none, none, none, none] : Mir.Env)) xt_ret rfl rfl (tl_ret rfl) (tl_seq1 (E1 := (fun words_3 => ([some (.fz told_1), some entry_here_2.fzn, some words_3, none, none, none] : Mir.Env))) (bl_set (E1 := (fun words_3 => ([some (.fz told_1), some entry_here_2.fzn, some words_3, none, none, none] : Mir.Env))) (Nat.le_of_ble_eq_true rfl) rfl (fun _ => rfl)) (fun words_3 => (tl_sfrz (E0 := ([some (.fz told_1), some entry_here_2.fzn, some words_3.fzn, none, none, none] : Mir.Env)) words_3 rfl rfl (tl_ifx (E0 := ([some (.fz told_1), some entry_here_2.fzn, none, none, none, none] : Mir.Env)) xt_ret rfl (congrArg (fun h_5 => (dOr (dNot (dTst (dIsO (tab [(12, true), (13, true), (14, true), (15, true), (16, true), (17, true)]) (rd entry_here_2.fzn)))) (dBin (notM opEq) (dCall f_kinds_k10 (dCons (rdD entry_here_2.fzn) (pur []))) h_5))) (show ((cLc [5] (.nm 5) cYes (cFz (cBl (cBin opEq (cBor 5) (cBin opSub2 (cBor 0) (cUp (cC (.int 0))))))) (cItems (cVar 2))) : CE) ([some (.fz told_1), some entry_here_2.fzn, some words_3.fzn, none, none, none] : Mir.Env) = (bnd (dItems (rdD words_3.fzn)) fun items => lcS (fun word_4 => lcStep (pur true) (dFz (dBl (dBin opEq (pur (Wv.fz word_4)) (opSub2 (Wv.fz told_1) (Wv.fz (D.int 0))))))) items []) from (lc_nm (E3 := fun word_4 => ([some (.fz told_1), some entry_here_2.fzn, some words_3.fzn, none, none, some (.fz word_4)] : Mir.Env)) (Nat.le_of_ble_eq_true rfl) (fun _ => rfl) rfl (fun word_4 => rfl) (fun word_4 => rfl)))) (tl_ret rfl) (tl_ifx (E0 := ([some (.fz told_1), some entry_here_2.fzn, none, none, none, none] : Mir.Env)) xt_ret rfl rfl (tl_ret rfl) (tl_ifx (E0 := ([some (.fz told_1), some entry_here_2.fzn, none, none, none, none] : Mir.Env)) (xt_seq (xt_seq (xt_seq (xt_seq (xt_seq (xt_seq (xt_seq xt_ret))))))) rfl rfl (tl_ifx (E0 := ([some (.fz told_1), none, none, none, none, none] : Mir.Env)) xt_ret rfl rfl (tl_ret rfl) (tl_seq1 (E1 := (fun handed_6 => ([some (.fz told_1), none, none, some handed_6, none, none] : Mir.Env))) (bl_set (E1 := (fun handed_6 => ([some (.fz told_1), none, none, some handed_6, none, none] : Mir.Env))) (Nat.le_of_ble_eq_true rfl) rfl (fun _ => rfl)) (fun handed_6 => (tl_seq1 (E1 := (fun other_7 => ([some (.fz told_1), none, none, some handed_6, some other_7, none] : Mir.Env))) (bl_set (E1 := (fun other_7 => ([some (.fz told_1), none, none, some handed_6, some other_7, none] : Mir.Env))) (Nat.le_of_ble_eq_true rfl) rfl (fun _ => rfl)) (fun other_7 => (tl_seq1 (E1 := (fun (s_9 : Wv) => ([some (.fz told_1), none, none, some handed_6, some s_9, none] : Mir.Env))) (bl_kif (bl_if rfl (bl_last (E1 := fun other_10 => ([some (.fz told_1), none, none, some handed_6, some other_10, none] : Mir.Env)) (bl_kill (E1 := (fun other_10 => ([some (.fz told_1), none, none, some handed_6, some other_10, none] : Mir.Env))) (E3 := fun other_10 => ([some (.fz told_1), none, none, some handed_6, some other_10, none] : Mir.Env)) (bl_set (E1 := (fun other_10 => ([some (.fz told_1), none, none, some handed_6, some other_10, none] : Mir.Env))) (Nat.le_of_ble_eq_true rfl) rfl (fun _ => rfl)) (fun _ => rfl)) (fun _ => rfl)) (bl_kskip rfl))) (fun s_9 => (tl_seq1 (E1 := (fun handed_11 => ([some (.fz told_1), none, none, some handed_11, some s_9, none] : Mir.Env))) (bl_mut (w := handed_6) (E1 := (fun handed_11 => ([some (.fz told_1), none, none, some handed_11, some s_9, none] : Mir.Env))) rfl rfl (fun _ => rfl)) (fun handed_11 => (tl_sfrz (E0 := ([some (.fz told_1), none, none, some handed_11, some s_9.fzn, none] : Mir.Env)) s_9 rfl rfl (tl_ifx (E0 := ([some (.fz told_1), none, none, some handed_11, some s_9.fzn, none] : Mir.Env)) xt_ret rfl rfl (tl_ret rfl) (tl_seq1 (E1 := (fun (handed_12 : Wv) => ([some (.fz told_1), none, none, none, some s_9.fzn, none] : Mir.Env))) (bl_kill (E1 := (fun handed_12 => ([some (.fz told_1), none, none, some handed_12, some s_9.fzn, none] : Mir.Env))) (E3 := (fun (handed_12 : Wv) => ([some (.fz told_1), none, none, none, some s_9.fzn, none] : Mir.Env))) (bl_mut (w := handed_11) (E1 := (fun handed_12 => ([some (.fz told_1), none, none, some handed_12, some s_9.fzn, none] : Mir.Env))) rfl rfl (fun _ => rfl)) (fun _ => rfl)) (fun handed_12 => (tl_ret rfl)))))))))))))) (tl_ret rfl)))))))))))
theorem c_right_k10z (told_1 : D) (S : Store) : f_right_k10z [told_1] S = g_right_k10z told_1 S := fn_code rfl (t_right_k10z told_1) S
noncomputable def m_law_k10z : CS :=
    (cSeq (cSet 1 (cCall f_wares_k10 (cCons (cVar 0) cNil)))
    (cSeq (cSet 2 (cBin opMod (cCall f_cell_at_k02 (cCons (cVar 0) (cCons (cC (.int 2)) cNil))) (cUp (cC (.int 1000)))))
    (cSeq (cFrz 1 (cKill [0, 2, 3, 4, 7, 8, 9, 10, 11] (cFor (cEnum (cCons (cFz (cSl (cCall f_cells_k01 (cCons (cVar 0) cNil)) cNoP (cPart (cUp (cC (.int 60)))))) cNil)) (.tp [3, 4]) (cSeq (cAsg (.tp [7, 8]) (cCall f_digits_k01 (cCons (cVar 4) (cCons (cFz (cLst (cCons (cFz (cBin opAdd (cBin opPow (cUp (cC (.int 10))) (cUp (cC (.int 6)))) (cUp (cC (.int 1))))) (cCons (cC (.int 7)) cNil)))) cNil))))
      (cSeq (cSet 9 cDct0)
      (cSeq (cKill [] (cIfS (cBin opGt (cBor 8) (cUp (cC (.int 2))))
        (cSet 9 (cDispG [((cFz (cBin opSub2 (cBor 1) (cUp (cC (.int 0))))), (cFz (cBin opPow (cUp (cC (.int 10))) (cUp (cC (.int 9)))))), ((cFz (cBin opSub2 (cBor 1) (cUp (cC (.int 1))))), (cC (.int 50))), ((cFz (cBin opSub2 (cBor 1) (cUp (cC (.int 2))))), (cFz (cBin opAdd (cUp (cC (.int 1))) (cBor 7))))]))
        cSkip))
      (cSeq (cKill [8] (cSet 10 (cBin opDiv (cBor 4) (cBin opSub2 (cLst (cCons (cC (.int 7)) (cCons (cC (.int 70)) (cCons (cC (.int 700)) (cCons (cC (.int 7000)) (cCons (cFz (cBin opMul (cUp (cC (.int 7))) (cBin opPow (cUp (cC (.int 10))) (cUp (cC (.int 4)))))) (cCons (cFz (cBin opMul (cUp (cC (.int 7))) (cBin opPow (cUp (cC (.int 10))) (cUp (cC (.int 5)))))) (cCons (cFz (cBin opMul (cUp (cC (.int 7))) (cBin opPow (cUp (cC (.int 10))) (cUp (cC (.int 6)))))) cNil)))))))) (cBor 8)))))
      (cSeq (cFrz 9 (cKill [3, 7, 9, 10] (cSet 11 (cCall f_entry_k10 (cCons (cVar 10) (cCons (cVar 7) (cCons (cFz (cBin opAdd (cBor 2) (cBor 3))) (cCons (cVar 1) (cCons (cVar 9) cNil)))))))))
      (cKill [4, 11] (cIfS (cNot (cTst (cCall f_right_k10z (cCons (cFz (cCall f_with_named_k10 (cCons (cVar 11) (cCons (cFz (cBin opDiv (cBor 4) (cUp (cC (.int 13))))) cNil)))) cNil))))
        (cRet (cUp (cC (.bl false))))
        cSkip))))))))))
    (cSeq (cSet 5 (cMk 12 (padI f_Buy_init [.int 0]) (cCons (cC (.int 3)) (cCons (cC (.int 4)) (cCons (cFz (cBin opSub2 (cBor 1) (cUp (cC (.int 0))))) (cCons (cC (.int 5)) (cCons (cC (.int 6)) cNil)))))))
    (cSeq (cSet 6 (cMk 13 (padK 5 [.int 0] f_Sell_init_k10z) (cApp (cCons (cC (.int 3)) (cCons (cC (.int 4)) (cCons (cFz (cBin opSub2 (cBor 1) (cUp (cC (.int 0))))) (cCons (cC (.int 5)) (cCons (cC (.int 6)) cNil))))) (cCons (cFz (cUn opShr (cLst (cCons (cTup (cCons (cC (.int 1)) (cCons (cC (.int 2)) cNil))) (cCons (cTup (cCons (cC (.int 0)) (cCons (cC (.int 3)) cNil))) cNil))))) cNil))))
    (cSeq (cFrz 6 (cKill [6] (cIfS (cBin (notM opEq) (cMeth "told" (tabF [(13, f_Sell_told)]) (cVar 6) cNil) (cUp (cTup (cCons (cC (.str "sell")) (cCons (cC (.int 3)) (cCons (cC (.int 4)) (cCons (cFz (cBin opSub2 (cBor 1) (cUp (cC (.int 0))))) (cCons (cC (.int 5)) (cCons (cC (.int 6)) (cCons (cC (.int 0)) (cCons (cTup (cCons (cTup (cCons (cC (.int 1)) (cCons (cC (.int 2)) cNil))) (cCons (cTup (cCons (cC (.int 0)) (cCons (cC (.int 3)) cNil))) cNil))) cNil)))))))))))
      (cRet (cUp (cC (.bl false))))
      cSkip)))
    (cSeq (cSet 6 (cMk 13 (padI f_Sell_init_k10z [.int 0, .non]) (cCons (cC (.int 3)) (cCons (cC (.int 4)) (cCons (cFz (cBin opSub2 (cBor 1) (cUp (cC (.int 0))))) (cCons (cC (.int 5)) (cCons (cC (.int 6)) cNil)))))))
    (cFrz 6 (cFrz 5 (cRet (cAndV (cBl (cBin opEq (cMeth "told" (tabF [(12, f_Buy_told)]) (cVar 5) cNil) (cUp (cTup (cCons (cC (.str "buy")) (cCons (cC (.int 3)) (cCons (cC (.int 4)) (cCons (cFz (cBin opSub2 (cBor 1) (cUp (cC (.int 0))))) (cCons (cC (.int 5)) (cCons (cC (.int 6)) (cCons (cC (.int 0)) cNil))))))))))) (cBl (cBin opEq (cMeth "told" (tabF [(13, f_Sell_told)]) (cVar 6) cNil) (cUp (cTup (cCons (cC (.str "sell")) (cCons (cC (.int 3)) (cCons (cC (.int 4)) (cCons (cFz (cBin opSub2 (cBor 1) (cUp (cC (.int 0))))) (cCons (cC (.int 5)) (cCons (cC (.int 6)) (cCons (cC (.int 0)) (cCons (cC .non) cNil)))))))))))))))))))))))
noncomputable def f_law_k10z : Fn := runF 12 m_law_k10z
noncomputable def g_law_k10z_l1 (wares_here_2 : Wv) (low_3 : Wv) : D → Unit → M (Out (Unit)) := fun (d : D) (s_6 : Unit) => un2 (Wv.fz d) fun k_7 cell_8 => (bnd (bnd (dCall f_digits_k01 (dCons (pur cell_8) (dCons (dFz (dLst (dCons (dFz (dBin opAdd (opPow (Wv.fz (D.int 10)) (Wv.fz (D.int 6))) (pur (Wv.fz (D.int 1))))) (pur [(D.int 7)])))) (pur [])))) fun w => un2 w fun day_10 more_11 => pur (day_10, more_11)) fun s_9 =>
 (bnd (pur (Wv.ow (.dct []))) fun held_12 =>
 (bnd (ift (opGt (Wv.fz s_9.2) (Wv.fz (D.int 2)))
 (bnd (dDispG [((dFz (dBin opSub2 (rd wares_here_2.fzn) (pur (Wv.fz (D.int 0))))), (dFz (opPow (Wv.fz (D.int 10)) (Wv.fz (D.int 9))))), ((dFz (dBin opSub2 (rd wares_here_2.fzn) (pur (Wv.fz (D.int 1))))), (pur (D.int 50))), ((dFz (dBin opSub2 (rd wares_here_2.fzn) (pur (Wv.fz (D.int 2))))), (dFz (opAdd (Wv.fz (D.int 1)) (Wv.fz s_9.1))))]) fun held_15 => pur held_15)
 (pur held_12)) fun s_14 =>
 (bnd (dBin opDiv (pur (Wv.fz cell_8)) (dBin opSub2 (dLst (dCons (pur (D.int 7)) (dCons (pur (D.int 70)) (dCons (pur (D.int 700)) (dCons (pur (D.int 7000)) (dCons (dFz (dBin opMul (pur (Wv.fz (D.int 7))) (opPow (Wv.fz (D.int 10)) (Wv.fz (D.int 4))))) (dCons (dFz (dBin opMul (pur (Wv.fz (D.int 7))) (opPow (Wv.fz (D.int 10)) (Wv.fz (D.int 5))))) (dCons (dFz (dBin opMul (pur (Wv.fz (D.int 7))) (opPow (Wv.fz (D.int 10)) (Wv.fz (D.int 6))))) (pur []))))))))) (pur (Wv.fz s_9.2)))) fun rest_16 =>
 (bnd (dCall f_entry_k10 (dCons (rdD rest_16) (dCons (pur s_9.1) (dCons (dFz (dBin opAdd (rd low_3) (pur (Wv.fz k_7)))) (dCons (rdD wares_here_2.fzn) (dCons (rdD s_14.fzn) (pur []))))))) fun told_17 =>
 (bnO (ift (dNot (dTst (dCall f_right_k10z (dCons (dFz (dCall f_with_named_k10 (dCons (rdD told_17) (dCons (dFz (opDiv (Wv.fz cell_8) (Wv.fz (D.int 13)))) (pur []))))) (pur [])))))
 (bnd (pur (Wv.fz (D.bl false))) fun w => pur (.rt w))
 (pur (.nx ()))) fun s_18 => pur (.nx ())))))))
noncomputable def g_law_k10z (script_1 : D) : M Wv :=
 (bnd (f_wares_k10 [script_1]) fun wares_here_2 =>
 (bnd (dBin opMod (f_cell_at_k02 (script_1 :: [(D.int 2)])) (pur (Wv.fz (D.int 1000)))) fun low_3 =>
 (bnT (bnd (bnd (dCons (dFz (dSl (f_cells_k01 [script_1]) (pur none) (dPart (pur (Wv.fz (D.int 60)))))) (pur [])) enumO) fun items => forO (g_law_k10z_l1 wares_here_2 low_3) items ()) fun s_19 =>
 (bnd (dMk 12 (padI f_Buy_init [.int 0]) (dCons (pur (D.int 3)) (dCons (pur (D.int 4)) (dCons (dFz (dBin opSub2 (rd wares_here_2.fzn) (pur (Wv.fz (D.int 0))))) (pur ((D.int 5) :: [(D.int 6)])))))) fun one_20 =>
 (bnd (dMk 13 (padK 5 [.int 0] f_Sell_init_k10z) (dApp (dCons (pur (D.int 3)) (dCons (pur (D.int 4)) (dCons (dFz (dBin opSub2 (rd wares_here_2.fzn) (pur (Wv.fz (D.int 0))))) (pur ((D.int 5) :: [(D.int 6)]))))) (dCons (dFz (dUn opShr (dLst (dCons (dTup (pur ((D.int 1) :: [(D.int 2)]))) (dCons (dTup (pur ((D.int 0) :: [(D.int 3)]))) (pur [])))))) (pur [])))) fun other_21 =>
 (ift (dBin (notM opEq) (dMeth "told" (tabF [(13, f_Sell_told)]) (rdD other_21.fzn) (pur [])) (dUp (dTup (dCons (pur (D.str "sell")) (dCons (pur (D.int 3)) (dCons (pur (D.int 4)) (dCons (dFz (dBin opSub2 (rd wares_here_2.fzn) (pur (Wv.fz (D.int 0))))) (dCons (pur (D.int 5)) (dCons (pur (D.int 6)) (dCons (pur (D.int 0)) (dCons (dTup (dCons (dTup (pur ((D.int 1) :: [(D.int 2)]))) (dCons (dTup (pur ((D.int 0) :: [(D.int 3)]))) (pur [])))) (pur []))))))))))))
 (pur (Wv.fz (D.bl false)))
 (bnd (dMk 13 (padI f_Sell_init_k10z [.int 0, .non]) (dCons (pur (D.int 3)) (dCons (pur (D.int 4)) (dCons (dFz (dBin opSub2 (rd wares_here_2.fzn) (pur (Wv.fz (D.int 0))))) (pur ((D.int 5) :: [(D.int 6)])))))) fun other_22 =>
 (dAndV (dBl (dBin opEq (dMeth "told" (tabF [(12, f_Buy_told)]) (rdD one_20.fzn) (pur [])) (dUp (dTup (dCons (pur (D.str "buy")) (dCons (pur (D.int 3)) (dCons (pur (D.int 4)) (dCons (dFz (dBin opSub2 (rd wares_here_2.fzn) (pur (Wv.fz (D.int 0))))) (pur ((D.int 5) :: ((D.int 6) :: [(D.int 0)]))))))))))) (dBl (dBin opEq (dMeth "told" (tabF [(13, f_Sell_told)]) (rdD other_22.fzn) (pur [])) (dUp (dTup (dCons (pur (D.str "sell")) (dCons (pur (D.int 3)) (dCons (pur (D.int 4)) (dCons (dFz (dBin opSub2 (rd wares_here_2.fzn) (pur (Wv.fz (D.int 0))))) (pur ((D.int 5) :: ((D.int 6) :: ((D.int 0) :: [D.non]))))))))))))))))))))
theorem t_law_k10z (script_1 : D) : Tl m_law_k10z ([some (.fz script_1), none, none, none, none, none, none, none, none, none, none, none] : Mir.Env) (g_law_k10z script_1) :=
 (tl_seq1 (E1 := (fun wares_here_2 => ([some (.fz script_1), some wares_here_2, none, none, none, none, none, none, none, none, none, none] : Mir.Env))) (bl_set (E1 := (fun wares_here_2 => ([some (.fz script_1), some wares_here_2, none, none, none, none, none, none, none, none, none, none] : Mir.Env))) (Nat.le_of_ble_eq_true rfl) rfl (fun _ => rfl)) (fun wares_here_2 => (tl_seq1 (E1 := (fun low_3 => ([some (.fz script_1), some wares_here_2, some low_3, none, none, none, none, none, none, none, none, none] : Mir.Env))) (bl_set (E1 := (fun low_3 => ([some (.fz script_1), some wares_here_2, some low_3, none, none, none, none, none, none, none, none, none] : Mir.Env))) (Nat.le_of_ble_eq_true rfl) rfl (fun _ => rfl)) (fun low_3 => (tl_sfrz (E0 := ([some (.fz script_1), some wares_here_2.fzn, some low_3, none, none, none, none, none, none, none, none, none] : Mir.Env)) wares_here_2 rfl rfl (tl_seq (E1 := (fun (s_19 : (Unit)) => ([none, some wares_here_2.fzn, none, none, none, none, none, none, none, none, none, none] : Mir.Env))) (bo_kill (E1 := (fun (s_19 : Unit) => ([some (.fz script_1), some wares_here_2.fzn, some low_3, none, none, none, none, none, none, none, none, none] : Mir.Env))) (E3 := (fun (s_19 : (Unit)) => ([none, some wares_here_2.fzn, none, none, none, none, none, none, none, none, none, none] : Mir.Env))) (bo_for (Es := (fun (s_6 : Unit) => ([some (.fz script_1), some wares_here_2.fzn, some low_3, none, none, none, none, none, none, none, none, none] : Mir.Env))) () rfl rfl (so_tp2 (E3 := fun k_7 cell_8 (s_6 : (Unit)) => ([some (.fz script_1), some wares_here_2.fzn, some low_3, some (.fz k_7), some (.fz cell_8), none, none, none, none, none, none, none] : Mir.Env)) (bd := fun k_7 cell_8 (s_6 : (Unit)) => (bnd (bnd (dCall f_digits_k01 (dCons (pur cell_8) (dCons (dFz (dLst (dCons (dFz (dBin opAdd (opPow (Wv.fz (D.int 10)) (Wv.fz (D.int 6))) (pur (Wv.fz (D.int 1))))) (pur [(D.int 7)])))) (pur [])))) fun w => un2 w fun day_10 more_11 => pur (day_10, more_11)) fun s_9 =>
 (bnd (pur (Wv.ow (.dct []))) fun held_12 =>
 (bnd (ift (opGt (Wv.fz s_9.2) (Wv.fz (D.int 2)))
 (bnd (dDispG [((dFz (dBin opSub2 (rd wares_here_2.fzn) (pur (Wv.fz (D.int 0))))), (dFz (opPow (Wv.fz (D.int 10)) (Wv.fz (D.int 9))))), ((dFz (dBin opSub2 (rd wares_here_2.fzn) (pur (Wv.fz (D.int 1))))), (pur (D.int 50))), ((dFz (dBin opSub2 (rd wares_here_2.fzn) (pur (Wv.fz (D.int 2))))), (dFz (opAdd (Wv.fz (D.int 1)) (Wv.fz s_9.1))))]) fun held_15 => pur held_15)
 (pur held_12)) fun s_14 =>
 (bnd (dBin opDiv (pur (Wv.fz cell_8)) (dBin opSub2 (dLst (dCons (pur (D.int 7)) (dCons (pur (D.int 70)) (dCons (pur (D.int 700)) (dCons (pur (D.int 7000)) (dCons (dFz (dBin opMul (pur (Wv.fz (D.int 7))) (opPow (Wv.fz (D.int 10)) (Wv.fz (D.int 4))))) (dCons (dFz (dBin opMul (pur (Wv.fz (D.int 7))) (opPow (Wv.fz (D.int 10)) (Wv.fz (D.int 5))))) (dCons (dFz (dBin opMul (pur (Wv.fz (D.int 7))) (opPow (Wv.fz (D.int 10)) (Wv.fz (D.int 6))))) (pur []))))))))) (pur (Wv.fz s_9.2)))) fun rest_16 =>
 (bnd (dCall f_entry_k10 (dCons (rdD rest_16) (dCons (pur s_9.1) (dCons (dFz (dBin opAdd (rd low_3) (pur (Wv.fz k_7)))) (dCons (rdD wares_here_2.fzn) (dCons (rdD s_14.fzn) (pur []))))))) fun told_17 =>
 (bnO (ift (dNot (dTst (dCall f_right_k10z (dCons (dFz (dCall f_with_named_k10 (dCons (rdD told_17) (dCons (dFz (opDiv (Wv.fz cell_8) (Wv.fz (D.int 13)))) (pur []))))) (pur [])))))
 (bnd (pur (Wv.fz (D.bl false))) fun w => pur (.rt w))
 (pur (.nx ()))) fun s_18 => pur (.nx ())))))))) (fun _ => ⟨(Nat.le_of_ble_eq_true rfl), (Nat.le_of_ble_eq_true rfl)⟩) (fun _ _ _ => rfl) (fun k_7 cell_8 s_6 => (bo_seq1 (E1 := (fun (s_9 : D × D) => ([some (.fz script_1), some wares_here_2.fzn, some low_3, some (.fz k_7), some (.fz cell_8), none, none, some (.fz s_9.1), some (.fz s_9.2), none, none, none] : Mir.Env))) (bl_asg2 (E3 := (fun (s_9 : D × D) => ([some (.fz script_1), some wares_here_2.fzn, some low_3, some (.fz k_7), some (.fz cell_8), none, none, some (.fz s_9.1), some (.fz s_9.2), none, none, none] : Mir.Env))) (Nat.le_of_ble_eq_true rfl) (Nat.le_of_ble_eq_true rfl) rfl (fun _ _ => rfl)) (fun s_9 => (bo_seq1 (E1 := (fun held_12 => ([some (.fz script_1), some wares_here_2.fzn, some low_3, some (.fz k_7), some (.fz cell_8), none, none, some (.fz s_9.1), some (.fz s_9.2), some held_12, none, none] : Mir.Env))) (bl_set (E1 := (fun held_12 => ([some (.fz script_1), some wares_here_2.fzn, some low_3, some (.fz k_7), some (.fz cell_8), none, none, some (.fz s_9.1), some (.fz s_9.2), some held_12, none, none] : Mir.Env))) (Nat.le_of_ble_eq_true rfl) rfl (fun _ => rfl)) (fun held_12 => (bo_seq1 (E1 := (fun (s_14 : Wv) => ([some (.fz script_1), some wares_here_2.fzn, some low_3, some (.fz k_7), some (.fz cell_8), none, none, some (.fz s_9.1), some (.fz s_9.2), some s_14, none, none] : Mir.Env))) (bl_kif (bl_if rfl (bl_last (E1 := fun held_15 => ([some (.fz script_1), some wares_here_2.fzn, some low_3, some (.fz k_7), some (.fz cell_8), none, none, some (.fz s_9.1), some (.fz s_9.2), some held_15, none, none] : Mir.Env)) (bl_kill (E1 := (fun held_15 => ([some (.fz script_1), some wares_here_2.fzn, some low_3, some (.fz k_7), some (.fz cell_8), none, none, some (.fz s_9.1), some (.fz s_9.2), some held_15, none, none] : Mir.Env))) (E3 := fun held_15 => ([some (.fz script_1), some wares_here_2.fzn, some low_3, some (.fz k_7), some (.fz cell_8), none, none, some (.fz s_9.1), some (.fz s_9.2), some held_15, none, none] : Mir.Env)) (bl_set (E1 := (fun held_15 => ([some (.fz script_1), some wares_here_2.fzn, some low_3, some (.fz k_7), some (.fz cell_8), none, none, some (.fz s_9.1), some (.fz s_9.2), some held_15, none, none] : Mir.Env))) (Nat.le_of_ble_eq_true rfl) rfl (fun _ => rfl)) (fun _ => rfl)) (fun _ => rfl)) (bl_kskip rfl))) (fun s_14 => (bo_seq1 (E1 := (fun (rest_16 : Wv) => ([some (.fz script_1), some wares_here_2.fzn, some low_3, some (.fz k_7), some (.fz cell_8), none, none, some (.fz s_9.1), none, some s_14, some rest_16, none] : Mir.Env))) (bl_kill (E1 := (fun rest_16 => ([some (.fz script_1), some wares_here_2.fzn, some low_3, some (.fz k_7), some (.fz cell_8), none, none, some (.fz s_9.1), some (.fz s_9.2), some s_14, some rest_16, none] : Mir.Env))) (E3 := (fun (rest_16 : Wv) => ([some (.fz script_1), some wares_here_2.fzn, some low_3, some (.fz k_7), some (.fz cell_8), none, none, some (.fz s_9.1), none, some s_14, some rest_16, none] : Mir.Env))) (bl_set (E1 := (fun rest_16 => ([some (.fz script_1), some wares_here_2.fzn, some low_3, some (.fz k_7), some (.fz cell_8), none, none, some (.fz s_9.1), some (.fz s_9.2), some s_14, some rest_16, none] : Mir.Env))) (Nat.le_of_ble_eq_true rfl) rfl (fun _ => rfl)) (fun _ => rfl)) (fun rest_16 => (bo_sfrz (E0 := ([some (.fz script_1), some wares_here_2.fzn, some low_3, some (.fz k_7), some (.fz cell_8), none, none, some (.fz s_9.1), none, some s_14.fzn, some rest_16, none] : Mir.Env)) s_14 rfl rfl (bo_seq1 (E1 := (fun (told_17 : Wv) => ([some (.fz script_1), some wares_here_2.fzn, some low_3, none, some (.fz cell_8), none, none, none, none, none, none, some told_17] : Mir.Env))) (bl_kill (E1 := (fun told_17 => ([some (.fz script_1), some wares_here_2.fzn, some low_3, some (.fz k_7), some (.fz cell_8), none, none, some (.fz s_9.1), none, some s_14.fzn, some rest_16, some told_17] : Mir.Env))) (E3 := (fun (told_17 : Wv) => ([some (.fz script_1), some wares_here_2.fzn, some low_3, none, some (.fz cell_8), none, none, none, none, none, none, some told_17] : Mir.Env))) (bl_set (E1 := (fun told_17 => ([some (.fz script_1), some wares_here_2.fzn, some low_3, some (.fz k_7), some (.fz cell_8), none, none, some (.fz s_9.1), none, some s_14.fzn, some rest_16, some told_17] : Mir.Env))) (Nat.le_of_ble_eq_true rfl) rfl (fun _ => rfl)) (fun _ => rfl)) (fun told_17 => (bo_last (E1 := (fun (s_18 : Unit) => ([some (.fz script_1), some wares_here_2.fzn, some low_3, none, none, none, none, none, none, none, none, none] : Mir.Env))) (bo_kif (bo_if rfl (bo_kx xt_ret (bo_ret rfl)) (bo_kskip rfl))) (fun _ => rfl)))))))))))))))) (fun _ => rfl)) (fun s_19 => (tl_seq1 (E1 := (fun one_20 => ([none, some wares_here_2.fzn, none, none, none, some one_20, none, none, none, none, none, none] : Mir.Env))) (bl_set (E1 := (fun one_20 => ([none, some wares_here_2.fzn, none, none, none, some one_20, none, none, none, none, none, none] : Mir.Env))) (Nat.le_of_ble_eq_true rfl) rfl (fun _ => rfl)) (fun one_20 => (tl_seq1 (E1 := (fun other_21 => ([none, some wares_here_2.fzn, none, none, none, some one_20, some other_21, none, none, none, none, none] : Mir.Env))) (bl_set (E1 := (fun other_21 => ([none, some wares_here_2.fzn, none, none, none, some one_20, some other_21, none, none, none, none, none] : Mir.Env))) (Nat.le_of_ble_eq_true rfl) rfl (fun _ => rfl)) (fun other_21 => (tl_sfrz (E0 := ([none, some wares_here_2.fzn, none, none, none, some one_20, some other_21.fzn, none, none, none, none, none] : Mir.Env)) other_21 rfl rfl (tl_ifx (E0 := ([none, some wares_here_2.fzn, none, none, none, some one_20, none, none, none, none, none, none] : Mir.Env)) xt_ret rfl rfl (tl_ret rfl) (tl_seq1 (E1 := (fun other_22 => ([none, some wares_here_2.fzn, none, none, none, some one_20, some other_22, none, none, none, none, none] : Mir.Env))) (bl_set (E1 := (fun other_22 => ([none, some wares_here_2.fzn, none, none, none, some one_20, some other_22, none, none, none, none, none] : Mir.Env))) (Nat.le_of_ble_eq_true rfl) rfl (fun _ => rfl)) (fun other_22 => (tl_frz (E0 := ([none, some wares_here_2.fzn, none, none, none, some one_20, some other_22.fzn, none, none, none, none, none] : Mir.Env)) other_22 rfl rfl (tl_frz (E0 := ([none, some wares_here_2.fzn, none, none, none, some one_20.fzn, some other_22.fzn, none, none, none, none, none] : Mir.Env)) one_20 rfl rfl (tl_ret rfl))))))))))))))))))
theorem c_law_k10z (script_1 : D) (S : Store) : f_law_k10z [script_1] S = g_law_k10z script_1 S := fn_code rfl (t_law_k10z script_1) S
end G
set_option Elab.async false
set_option linter.all false
set_option maxRecDepth 100000
set_option maxHeartbeats 4000000
namespace L_k10_entries_made
open PySem PySem.Spec PyProof.Rows L2 Mir G
noncomputable def topS (i : Nat) : Stmt := PySem.Challenge.pw_lotledger_k10_entries_made.main.body.getD i (.Pass ⟨0, 0, 0, 0⟩)
noncomputable abbrev s__law_cell_at : Stmt := topS 23
noncomputable abbrev N__law_cell_at : List Str := ["_law_script", "_law_k"]
theorem sc__law_cell_at : FnScope N__law_cell_at ["_law_script", "_law_k"] (defScope s__law_cell_at) := ⟨rfl, rfl, rfl, by decide +kernel, rfl, by decide +kernel, by decide +kernel⟩
noncomputable abbrev s__law_mixed : Stmt := topS 25
noncomputable abbrev N__law_mixed : List Str := ["_law_cell", "_law_k", "_law_number", "_law_other"]
theorem sc__law_mixed : FnScope N__law_mixed ["_law_cell", "_law_k"] (defScope s__law_mixed) := ⟨rfl, rfl, rfl, by decide +kernel, rfl, by decide +kernel, by decide +kernel⟩
noncomputable abbrev s__law_cells : Stmt := topS 26
noncomputable abbrev N__law_cells : List Str := ["_law_script", "_law_many", "_law_cell", "_law_k"]
theorem sc__law_cells : FnScope N__law_cells ["_law_script"] (defScope s__law_cells) := ⟨rfl, rfl, rfl, by decide +kernel, rfl, by decide +kernel, by decide +kernel⟩
noncomputable abbrev s__law_digits : Stmt := topS 24
noncomputable abbrev N__law_digits : List Str := ["_law_cell", "_law_bases", "_law_row", "_law_base"]
theorem sc__law_digits : FnScope N__law_digits ["_law_cell", "_law_bases"] (defScope s__law_digits) := ⟨rfl, rfl, rfl, by decide +kernel, rfl, by decide +kernel, by decide +kernel⟩
noncomputable abbrev s__law_entry : Stmt := topS 28
noncomputable abbrev N__law_entry : List Str := ["_law_cell", "_law_day", "_law_number", "_law_wares_here", "_law_held", "_law_kind", "_law_at", "_law_size", "_law_pieces", "_law_price", "_law_extra", "_law_many", "_law_ware", "_law_there", "_law_whole", "_law_other"]
theorem sc__law_entry : FnScope N__law_entry ["_law_cell", "_law_day", "_law_number", "_law_wares_here", "_law_held"] (defScope s__law_entry) := ⟨rfl, rfl, rfl, by decide +kernel, rfl, by decide +kernel, by decide +kernel⟩
noncomputable abbrev s__law_fields : Stmt := topS 34
noncomputable abbrev N__law_fields : List Str := ["_law_entry_here", "_law_told", "_law_due"]
theorem sc__law_fields : FnScope N__law_fields ["_law_entry_here", "_law_told"] (defScope s__law_fields) := ⟨rfl, rfl, rfl, by decide +kernel, rfl, by decide +kernel, by decide +kernel⟩
noncomputable abbrev s__law_kinds : Stmt := topS 33
noncomputable abbrev N__law_kinds : List Str := ["_law_entry_here", "_law_kinds_here"]
theorem sc__law_kinds : FnScope N__law_kinds ["_law_entry_here"] (defScope s__law_kinds) := ⟨rfl, rfl, rfl, by decide +kernel, rfl, by decide +kernel, by decide +kernel⟩
noncomputable abbrev s_check_range : Stmt := topS 11
noncomputable abbrev N_check_range : List Str := ["number", "least", "most"]
theorem sc_check_range : FnScope N_check_range ["number", "least", "most"] (defScope s_check_range) := ⟨rfl, rfl, rfl, by decide +kernel, rfl, by decide +kernel, by decide +kernel⟩
noncomputable abbrev s_is_ware : Stmt := topS 10
noncomputable abbrev N_is_ware : List Str := ["text", "sign"]
theorem sc_is_ware : FnScope N_is_ware ["text"] (defScope s_is_ware) := ⟨rfl, rfl, rfl, by decide +kernel, rfl, by decide +kernel, by decide +kernel⟩
noncomputable abbrev s_check_ware : Stmt := topS 12
noncomputable abbrev N_check_ware : List Str := ["text"]
theorem sc_check_ware : FnScope N_check_ware ["text"] (defScope s_check_ware) := ⟨rfl, rfl, rfl, by decide +kernel, rfl, by decide +kernel, by decide +kernel⟩
noncomputable abbrev s_Entry_init : Stmt := clsStmt (topS 15) 0
noncomputable abbrev N_Entry_init : List Str := ["self", "day", "number", "ware"]
theorem sc_Entry_init : FnScope N_Entry_init ["self", "day", "number", "ware"] (defScope s_Entry_init) := ⟨rfl, rfl, rfl, by decide +kernel, rfl, by decide +kernel, by decide +kernel⟩
noncomputable abbrev s_Buy_init : Stmt := clsStmt (topS 16) 0
noncomputable abbrev N_Buy_init : List Str := ["self", "day", "number", "ware", "pieces", "price", "fee"]
theorem sc_Buy_init : FnScope N_Buy_init ["self", "day", "number", "ware", "pieces", "price", "fee"] (defScope s_Buy_init) := ⟨rfl, rfl, rfl, by decide +kernel, rfl, by decide +kernel, by decide +kernel⟩
noncomputable abbrev s_Gift_init : Stmt := clsStmt (topS 18) 0
noncomputable abbrev N_Gift_init : List Str := ["self", "day", "number", "ware", "pieces", "cost", "since"]
theorem sc_Gift_init : FnScope N_Gift_init ["self", "day", "number", "ware", "pieces", "cost", "since"] (defScope s_Gift_init) := ⟨rfl, rfl, rfl, by decide +kernel, rfl, by decide +kernel, by decide +kernel⟩
noncomputable abbrev s_Split_init : Stmt := clsStmt (topS 20) 0
noncomputable abbrev N_Split_init : List Str := ["self", "day", "number", "ware", "many", "of"]
theorem sc_Split_init : FnScope N_Split_init ["self", "day", "number", "ware", "many", "of"] (defScope s_Split_init) := ⟨rfl, rfl, rfl, by decide +kernel, rfl, by decide +kernel, by decide +kernel⟩
noncomputable abbrev s_Parting_init : Stmt := clsStmt (topS 21) 0
noncomputable abbrev N_Parting_init : List Str := ["self", "day", "number", "ware", "other", "share", "whole"]
theorem sc_Parting_init : FnScope N_Parting_init ["self", "day", "number", "ware", "other", "share", "whole"] (defScope s_Parting_init) := ⟨rfl, rfl, rfl, by decide +kernel, rfl, by decide +kernel, by decide +kernel⟩
noncomputable abbrev s_checked_named : Stmt := topS 13
noncomputable abbrev N_checked_named : List Str := ["named", "pieces", "lot", "some"]
theorem sc_checked_named : FnScope N_checked_named ["named", "pieces"] (defScope s_checked_named) := ⟨rfl, rfl, rfl, by decide +kernel, rfl, by decide +kernel, by decide +kernel⟩
noncomputable abbrev s_Sell_init : Stmt := clsStmt (topS 17) 0
noncomputable abbrev N_Sell_init : List Str := ["self", "day", "number", "ware", "pieces", "price", "fee", "named"]
theorem sc_Sell_init : FnScope N_Sell_init ["self", "day", "number", "ware", "pieces", "price", "fee", "named"] (defScope s_Sell_init) := ⟨rfl, rfl, rfl, by decide +kernel, rfl, by decide +kernel, by decide +kernel⟩
noncomputable abbrev s_Give_init : Stmt := clsStmt (topS 19) 0
noncomputable abbrev N_Give_init : List Str := ["self", "day", "number", "ware", "pieces", "named"]
theorem sc_Give_init : FnScope N_Give_init ["self", "day", "number", "ware", "pieces", "named"] (defScope s_Give_init) := ⟨rfl, rfl, rfl, by decide +kernel, rfl, by decide +kernel, by decide +kernel⟩
noncomputable abbrev s__law_made : Stmt := topS 31
noncomputable abbrev N__law_made : List Str := ["_law_told", "_law_rest", "_law_lots"]
theorem sc__law_made : FnScope N__law_made ["_law_told"] (defScope s__law_made) := ⟨rfl, rfl, rfl, by decide +kernel, rfl, by decide +kernel, by decide +kernel⟩
noncomputable abbrev s_Entry_word : Stmt := clsStmt (topS 15) 1
noncomputable abbrev N_Entry_word : List Str := ["self"]
theorem sc_Entry_word : FnScope N_Entry_word ["self"] (defScope s_Entry_word) := ⟨rfl, rfl, rfl, by decide +kernel, rfl, by decide +kernel, by decide +kernel⟩
noncomputable abbrev s_Buy_word : Stmt := clsStmt (topS 16) 1
noncomputable abbrev N_Buy_word : List Str := ["self"]
theorem sc_Buy_word : FnScope N_Buy_word ["self"] (defScope s_Buy_word) := ⟨rfl, rfl, rfl, by decide +kernel, rfl, by decide +kernel, by decide +kernel⟩
noncomputable abbrev s_Sell_word : Stmt := clsStmt (topS 17) 1
noncomputable abbrev N_Sell_word : List Str := ["self"]
theorem sc_Sell_word : FnScope N_Sell_word ["self"] (defScope s_Sell_word) := ⟨rfl, rfl, rfl, by decide +kernel, rfl, by decide +kernel, by decide +kernel⟩
noncomputable abbrev s_Gift_word : Stmt := clsStmt (topS 18) 1
noncomputable abbrev N_Gift_word : List Str := ["self"]
theorem sc_Gift_word : FnScope N_Gift_word ["self"] (defScope s_Gift_word) := ⟨rfl, rfl, rfl, by decide +kernel, rfl, by decide +kernel, by decide +kernel⟩
noncomputable abbrev s_Give_word : Stmt := clsStmt (topS 19) 1
noncomputable abbrev N_Give_word : List Str := ["self"]
theorem sc_Give_word : FnScope N_Give_word ["self"] (defScope s_Give_word) := ⟨rfl, rfl, rfl, by decide +kernel, rfl, by decide +kernel, by decide +kernel⟩
noncomputable abbrev s_Split_word : Stmt := clsStmt (topS 20) 1
noncomputable abbrev N_Split_word : List Str := ["self"]
theorem sc_Split_word : FnScope N_Split_word ["self"] (defScope s_Split_word) := ⟨rfl, rfl, rfl, by decide +kernel, rfl, by decide +kernel, by decide +kernel⟩
noncomputable abbrev s_Parting_word : Stmt := clsStmt (topS 21) 1
noncomputable abbrev N_Parting_word : List Str := ["self"]
theorem sc_Parting_word : FnScope N_Parting_word ["self"] (defScope s_Parting_word) := ⟨rfl, rfl, rfl, by decide +kernel, rfl, by decide +kernel, by decide +kernel⟩
noncomputable abbrev s_Entry_told : Stmt := clsStmt (topS 15) 2
noncomputable abbrev N_Entry_told : List Str := ["self"]
theorem sc_Entry_told : FnScope N_Entry_told ["self"] (defScope s_Entry_told) := ⟨rfl, rfl, rfl, by decide +kernel, rfl, by decide +kernel, by decide +kernel⟩
noncomputable abbrev s_Buy_told : Stmt := clsStmt (topS 16) 2
noncomputable abbrev N_Buy_told : List Str := ["self"]
theorem sc_Buy_told : FnScope N_Buy_told ["self"] (defScope s_Buy_told) := ⟨rfl, rfl, rfl, by decide +kernel, rfl, by decide +kernel, by decide +kernel⟩
noncomputable abbrev s_named_told : Stmt := topS 14
noncomputable abbrev N_named_told : List Str := ["named"]
theorem sc_named_told : FnScope N_named_told ["named"] (defScope s_named_told) := ⟨rfl, rfl, rfl, by decide +kernel, rfl, by decide +kernel, by decide +kernel⟩
noncomputable abbrev s_Sell_told : Stmt := clsStmt (topS 17) 2
noncomputable abbrev N_Sell_told : List Str := ["self"]
theorem sc_Sell_told : FnScope N_Sell_told ["self"] (defScope s_Sell_told) := ⟨rfl, rfl, rfl, by decide +kernel, rfl, by decide +kernel, by decide +kernel⟩
noncomputable abbrev s_Gift_told : Stmt := clsStmt (topS 18) 2
noncomputable abbrev N_Gift_told : List Str := ["self"]
theorem sc_Gift_told : FnScope N_Gift_told ["self"] (defScope s_Gift_told) := ⟨rfl, rfl, rfl, by decide +kernel, rfl, by decide +kernel, by decide +kernel⟩
noncomputable abbrev s_Give_told : Stmt := clsStmt (topS 19) 2
noncomputable abbrev N_Give_told : List Str := ["self"]
theorem sc_Give_told : FnScope N_Give_told ["self"] (defScope s_Give_told) := ⟨rfl, rfl, rfl, by decide +kernel, rfl, by decide +kernel, by decide +kernel⟩
noncomputable abbrev s_Split_told : Stmt := clsStmt (topS 20) 2
noncomputable abbrev N_Split_told : List Str := ["self"]
theorem sc_Split_told : FnScope N_Split_told ["self"] (defScope s_Split_told) := ⟨rfl, rfl, rfl, by decide +kernel, rfl, by decide +kernel, by decide +kernel⟩
noncomputable abbrev s_Parting_told : Stmt := clsStmt (topS 21) 2
noncomputable abbrev N_Parting_told : List Str := ["self"]
theorem sc_Parting_told : FnScope N_Parting_told ["self"] (defScope s_Parting_told) := ⟨rfl, rfl, rfl, by decide +kernel, rfl, by decide +kernel, by decide +kernel⟩
noncomputable abbrev s__law_right : Stmt := topS 35
noncomputable abbrev N__law_right : List Str := ["_law_told", "_law_entry_here", "_law_words", "_law_handed", "_law_other", "_law_word"]
theorem sc__law_right : FnScope N__law_right ["_law_told"] (defScope s__law_right) := ⟨rfl, rfl, rfl, by decide +kernel, rfl, by decide +kernel, by decide +kernel⟩
noncomputable abbrev s__law_wares : Stmt := topS 27
noncomputable abbrev N__law_wares : List Str := ["_law_script", "_law_word", "_law_cell", "_law_many", "_law_name"]
theorem sc__law_wares : FnScope N__law_wares ["_law_script"] (defScope s__law_wares) := ⟨rfl, rfl, rfl, by decide +kernel, rfl, by decide +kernel, by decide +kernel⟩
noncomputable abbrev s__law_with_named : Stmt := topS 32
noncomputable abbrev N__law_with_named : List Str := ["_law_told", "_law_cell", "_law_left", "_law_lots", "_law_k", "_law_some"]
theorem sc__law_with_named : FnScope N__law_with_named ["_law_told", "_law_cell"] (defScope s__law_with_named) := ⟨rfl, rfl, rfl, by decide +kernel, rfl, by decide +kernel, by decide +kernel⟩
noncomputable abbrev s_law : Stmt := topS 36
noncomputable abbrev N_law : List Str := ["_law_script", "_law_wares_here", "_law_low", "_law_k", "_law_cell", "_law_one", "_law_other", "_law_day", "_law_more", "_law_held", "_law_rest", "_law_told"]
theorem sc_law : FnScope N_law ["_law_script"] (defScope s_law) := ⟨rfl, rfl, rfl, by decide +kernel, rfl, by decide +kernel, by decide +kernel⟩
theorem b__law_cell_at {P : Program} {w : World} {K : PySem.W.Frag} {mg : Str → Option Value} {base : Heap} {T : Tx} (z_len : mg "len" = none) (f : Addr) (cdv : Value) (A : Around) (outer : List PySem.Env) (s : Shared) (H : Hp) (E : XK)
    (B : Bd T mg P w base 0 (fun cls d _ H => E cls d H) (cxOf (L2.CX P w) P w K mg base N__law_cell_at "_law_cell_at" (defScope s__law_cell_at) f cdv A outer s H E)) :
    JSs T (fun cls d _ H => E cls d H) (cxOf (L2.CX P w) P w K mg base N__law_cell_at "_law_cell_at" (defScope s__law_cell_at) f cdv A outer s H E) (defBody s__law_cell_at) m_cell_at_k02 :=
  have nd := sc__law_cell_at.nd;
    (jss_cons (js_kill [0, 1] (js_if (jt_cm cm_lt (jb_var 1) (jb_e (je_len B.toLv (by rfl) (B.no z_len) (jab_cons (jb_var 0) jab_nil))))
      (jss_one (js_ret (je_sub2 B.toLv (jb_var 0) (jb_var 1))))
      jss_nil))
    (jss_one (js_ret (je_d jd_int))))
theorem b__law_mixed {P : Program} {w : World} {K : PySem.W.Frag} {mg : Str → Option Value} {base : Heap} {T : Tx} (f : Addr) (cdv : Value) (A : Around) (outer : List PySem.Env) (s : Shared) (H : Hp) (E : XK)
    (B : Bd T mg P w base 0 (fun cls d _ H => E cls d H) (cxOf (L2.CX P w) P w K mg base N__law_mixed "_law_mixed" (defScope s__law_mixed) f cdv A outer s H E)) :
    JSs T (fun cls d _ H => E cls d H) (cxOf (L2.CX P w) P w K mg base N__law_mixed "_law_mixed" (defScope s__law_mixed) f cdv A outer s H E) (defBody s__law_mixed) m_mixed_k01 :=
  have nd := sc__law_mixed.nd;
    (jss_cons (js_kill [0, 1] (js_set (i := 2) nd rfl (by first | exact .inl rfl | exact .inr rfl) (je_mod (jb_e (je_mul (jb_e (je_add B.toLv (jb_e (je_add B.toLv (jb_var 0) (jb_e (je_mul (jb_e (je_mul (jb_d jd_int) (jb_var 1))) (jb_var 1))))) (jb_var 1))) (jb_d jd_int))) (jb_d jd_int))))
    (jss_cons (js_set (i := 3) nd rfl (by first | exact .inl rfl | exact .inr rfl) (je_mod (jb_e (je_mul (jb_var 2) (jb_d jd_int))) (jb_d jd_int)))
    (jss_one (js_ret (je_mul (jb_e (je_mul (jb_var 2) (jb_var 3))) (jb_e (je_add B.toLv (jb_e (je_add B.toLv (jb_e (je_div (jb_var 2) (jb_d jd_int))) (jb_e (je_div (jb_var 3) (jb_d jd_int))))) (jb_d jd_int))))))))
theorem b__law_cells {P : Program} {w : World} {K : PySem.W.Frag} {mg : Str → Option Value} {base : Heap} {T : Tx} (z_len : mg "len" = none) (z_max : mg "max" = none) (z_min : mg "min" = none) (z_range : mg "range" = none) (d__law_mixed : Def P w T.K mg base T 1 "_law_mixed" 2 f_mixed_k01) (f : Addr) (cdv : Value) (A : Around) (outer : List PySem.Env) (s : Shared) (H : Hp) (E : XK)
    (B : Bd T mg P w base 1 (fun cls d _ H => E cls d H) (cxOf (L2.CX P w) P w K mg base N__law_cells "_law_cells" (defScope s__law_cells) f cdv A outer s H E)) :
    JSs T (fun cls d _ H => E cls d H) (cxOf (L2.CX P w) P w K mg base N__law_cells "_law_cells" (defScope s__law_cells) f cdv A outer s H E) (defBody s__law_cells) m_cells_k01 :=
  have nd := sc__law_cells.nd;
    (jss_cons (js_kill [1] (js_if (jt_w (jw_and (jt_cm cm_gt (jb_e (je_len B.toLv (by rfl) (B.no z_len) (jab_cons (jb_var 0) jab_nil))) (jb_d jd_int)) (jw_and1 (jt_cm (cm_eq B.toLv) (jb_e (je_mod (jb_e (je_sub2 B.toLv (jb_var 0) (jb_d jd_int))) (jb_d jd_int))) (jb_d jd_int)))))
      (jss_cons (js_set (i := 1) nd rfl (by first | exact .inl rfl | exact .inr rfl) (je_callB (call_max2 B.calm) v_int2c (by rfl) (B.no z_max) (by decide +kernel) (jab_cons (jb_e (je_callB (call_min2 B.calm) v_int2c (by rfl) (B.no z_min) (by decide +kernel) (jab_cons (jb_e (je_len B.toLv (by rfl) (B.no z_len) (jab_cons (jb_var 0) jab_nil))) (jab_cons (jb_d jd_int) jab_nil)))) (jab_cons (jb_e (je_add B.toLv (jb_d jd_int) (jb_e (je_mod (jb_e (je_div (jb_e (je_sub2 B.toLv (jb_var 0) (jb_d jd_int))) (jb_d jd_int))) (jb_d jd_int))))) jab_nil))))
      (jss_one (js_ret (je_lc (own := [("_law_k", 3)]) B.toLv B.calm nd (ji_rng1 (by rfl) (B.no z_range) (ja_cons (jd_var 1) ja_nil)) (blkOk_by (N := N__law_cells) (sc := defScope s__law_cells) (by decide +kernel)) (fun _ _ _ _ _ => (jgc_name (i := 3) nd rfl (by first | exact .inl rfl | exact .inr rfl))) (fun _ _ _ _ _ => jts_nil) (fun _ _ _ _ _ => (jd_fz (je_call B.blk d__law_mixed (by rfl) (ja_cons (jd_fz (je_sub2 B.blk.toLv (jb_var 0) (jb_e (je_mod (jb_var 3) (jb_e (je_len B.blk.toLv (by rfl) (B.blk.no z_len) (jab_cons (jb_var 0) jab_nil))))))) (ja_cons (jd_var 3) ja_nil)) (hlen := (cCons_len (cCons_len len0))))))))))
      jss_nil))
    (jss_one (js_ret (je_lc (own := [("_law_cell", 2)]) B.toLv B.calm nd (ji_seq B.toLv (jd_fz (je_sl B.toLv (jb_var 0) jo_none (jo_some (jb_d jd_int))))) (blkOk_by (N := N__law_cells) (sc := defScope s__law_cells) (by decide +kernel)) (fun _ _ _ _ _ => (jgc_name (i := 2) nd rfl (by first | exact .inl rfl | exact .inr rfl))) (fun _ _ _ _ _ => jts_nil) (fun _ _ _ _ _ => (jd_fz (je_mod (jb_var 2) (jb_e (je_pow (jb_d jd_int) (jb_d jd_int))))))))))
theorem b__law_digits {P : Program} {w : World} {K : PySem.W.Frag} {mg : Str → Option Value} {base : Heap} {T : Tx} (f : Addr) (cdv : Value) (A : Around) (outer : List PySem.Env) (s : Shared) (H : Hp) (E : XK)
    (B : Bd T mg P w base 0 (fun cls d _ H => E cls d H) (cxOf (L2.CX P w) P w K mg base N__law_digits "_law_digits" (defScope s__law_digits) f cdv A outer s H E)) :
    JSs T (fun cls d _ H => E cls d H) (cxOf (L2.CX P w) P w K mg base N__law_digits "_law_digits" (defScope s__law_digits) f cdv A outer s H E) (defBody s__law_digits) m_digits_k01 :=
  have nd := sc__law_digits.nd;
    (jss_cons (js_set (i := 2) nd rfl (by first | exact .inl rfl | exact .inr rfl) (je_lst ja_nil))
    (jss_cons (js_kill [0, 1, 3] (js_for B.toLv B.calm B.po (ji_seq B.toLv (jd_var 1)) (jg_name (i := 3) nd rfl (by first | exact .inl rfl | exact .inr rfl))
      (jss_cons (js_mut (i := 2) B.toLv PySem.F.plainAttrs_list PySem.F.slot_list_append PySem.F.type_list_append mt_append v_append ty_append rfl (by first | exact .inl rfl | exact .inr (.inl rfl)) (ja_cons (jd_fz (je_mod (jb_var 0) (jb_var 3))) ja_nil))
      (jss_one (js_kill [3] (js_set (i := 0) nd rfl (by first | exact .inl rfl | exact .inr rfl) (je_div (jb_var 0) (jb_var 3))))))))
    (jss_one (js_retv 2))))
theorem b__law_entry {P : Program} {w : World} {K : PySem.W.Frag} {mg : Str → Option Value} {base : Heap} {T : Tx} (z_len : mg "len" = none) (z_min : mg "min" = none) (d__law_digits : Def P w T.K mg base T 1 "_law_digits" 2 f_digits_k01) (f : Addr) (cdv : Value) (A : Around) (outer : List PySem.Env) (s : Shared) (H : Hp) (E : XK)
    (B : Bd T mg P w base 1 (fun cls d _ H => E cls d H) (cxOf (L2.CX P w) P w K mg base N__law_entry "_law_entry" (defScope s__law_entry) f cdv A outer s H E)) :
    JSs T (fun cls d _ H => E cls d H) (cxOf (L2.CX P w) P w K mg base N__law_entry "_law_entry" (defScope s__law_entry) f cdv A outer s H E) (defBody s__law_entry) m_entry_k10 :=
  have nd := sc__law_entry.nd;
    (jss_cons (js_kill [0] (js_asg (je_call B d__law_digits (by rfl) (ja_cons (jd_var 0) (ja_cons (jd_fz (je_lst (ja_cons jd_int (ja_cons jd_int (ja_cons jd_int (ja_cons (jd_fz (je_pow (jb_d jd_int) (jb_d jd_int))) (ja_cons (jd_fz (je_add B.toLv (jb_e (je_pow (jb_d jd_int) (jb_d jd_int))) (jb_d jd_int))) (ja_cons (jd_fz (je_add B.toLv (jb_e (je_pow (jb_d jd_int) (jb_d jd_int))) (jb_d jd_int))) ja_nil)))))))) ja_nil)) (hlen := (cCons_len (cCons_len len0)))) (jg_tup (is := [5, 6, 7, 8, 9, 10]) B.toLv B.calm (pgs_cons (pg_name (i := 5) nd rfl (by first | exact .inl rfl | exact .inr rfl)) (pgs_cons (pg_name (i := 6) nd rfl (by first | exact .inl rfl | exact .inr rfl)) (pgs_cons (pg_name (i := 7) nd rfl (by first | exact .inl rfl | exact .inr rfl)) (pgs_cons (pg_name (i := 8) nd rfl (by first | exact .inl rfl | exact .inr rfl)) (pgs_cons (pg_name (i := 9) nd rfl (by first | exact .inl rfl | exact .inr rfl)) (pgs_cons (pg_name (i := 10) nd rfl (by first | exact .inl rfl | exact .inr rfl)) pgs_nil)))))))))
    (jss_cons (js_set (i := 11) nd rfl (by first | exact .inl rfl | exact .inr rfl) (je_len B.toLv (by rfl) (B.no z_len) (jab_cons (jb_var 3) jab_nil)))
    (jss_cons (js_set (i := 12) nd rfl (by first | exact .inl rfl | exact .inr rfl) (je_sub2 B.toLv (jb_var 3) (jb_e (je_mod (jb_var 6) (jb_var 11)))))
    (jss_cons (js_kill [4] (js_set (i := 13) nd rfl (by first | exact .inl rfl | exact .inr rfl) (je_get2 B.toLv ⟨rfl, rfl, rfl, rfl⟩ (jb_var 4) (jb_var 12) jd_int)))
    (jss_cons (js_set (i := 8) nd rfl (by first | exact .inl rfl | exact .inr rfl) (je_add B.toLv (jb_e (je_sub2 B.toLv (jb_e (je_lst (ja_cons (jd_fz (je_mod (jb_var 8) (jb_d jd_int))) (ja_cons (jd_fz (je_mod (jb_var 8) (jb_d jd_int))) (ja_cons (jd_fz (je_mod (jb_var 8) (jb_d jd_int))) (ja_cons (jd_var 8) ja_nil)))))) (jb_var 7))) (jb_d jd_int)))
    (jss_cons (js_set (i := 9) nd rfl (by first | exact .inl rfl | exact .inr rfl) (je_sub2 B.toLv (jb_e (je_lst (ja_cons (jd_fz (je_mod (jb_var 9) (jb_d jd_int))) (ja_cons (jd_fz (je_mod (jb_var 9) (jb_d jd_int))) (ja_cons (jd_var 9) ja_nil))))) (jb_e (je_mod (jb_var 8) (jb_d jd_int)))))
    (jss_cons (js_set (i := 10) nd rfl (by first | exact .inl rfl | exact .inr rfl) (je_sub2 B.toLv (jb_e (je_lst (ja_cons jd_int (ja_cons (jd_fz (je_mod (jb_var 10) (jb_d jd_int))) (ja_cons (jd_var 10) ja_nil))))) (jb_e (je_mod (jb_e (je_div (jb_var 8) (jb_d jd_int))) (jb_d jd_int)))))
    (jss_cons (js_kill [] (js_if (jt_w (jw_and (jt_cm cm_gt (jb_var 5) (jb_d jd_int)) (jw_and (jt_cm cm_lt (jb_var 5) (jb_d jd_int)) (jw_and1 (jt_cm cm_gt (jb_var 13) (jb_d jd_int))))))
      (jss_one (js_set (i := 8) nd rfl (by first | exact .inl rfl | exact .inr rfl) (je_add B.toLv (jb_d jd_int) (jb_e (je_mod (jb_var 8) (jb_e (je_callB (call_min2 B.calm) v_int2c (by rfl) (B.no z_min) (by decide +kernel) (jab_cons (jb_var 13) (jab_cons (jb_e (je_pow (jb_d jd_int) (jb_d jd_int))) jab_nil)))))))))
      jss_nil))
    (jss_cons (js_kill [3, 6, 11, 14, 15] (js_if (jt_cm (cm_eq B.toLv) (jb_var 5) (jb_d jd_int))
      (jss_cons (js_kill [5, 8, 10, 13] (js_set (i := 14) nd rfl (by first | exact .inl rfl | exact .inr rfl) (je_add B.toLv (jb_e (je_mod (jb_var 10) (jb_e (je_pow (jb_d jd_int) (jb_d jd_int))))) (jb_d jd_int))))
      (jss_cons (js_kill [3, 6, 7, 11] (js_set (i := 15) nd rfl (by first | exact .inl rfl | exact .inr rfl) (je_sub2 B.toLv (jb_var 3) (jb_e (je_mod (jb_e (je_add B.toLv (jb_e (je_add B.toLv (jb_e (je_mod (jb_var 6) (jb_var 11))) (jb_d jd_int))) (jb_e (je_mod (jb_var 7) (jb_e (je_sub (jb_var 11) (jb_d jd_int))))))) (jb_var 11))))))
      (jss_one (js_ret (je_d (jd_tup (ja_cons jd_str (ja_cons (jd_var 1) (ja_cons (jd_var 2) (ja_cons (jd_var 12) (ja_cons (jd_var 15) (ja_cons (jd_fz (je_mod (jb_var 9) (jb_e (je_add B.toLv (jb_var 14) (jb_d jd_int))))) (ja_cons (jd_var 14) ja_nil)))))))))))))
      jss_nil))
    (jss_cons (js_kill [7] (js_if (jt_cm cm_gt (jb_var 5) (jb_d jd_int))
      (jss_one (js_ret (je_d (jd_tup (ja_cons jd_str (ja_cons (jd_var 1) (ja_cons (jd_var 2) (ja_cons (jd_var 12) (ja_cons (jd_fz (je_add B.toLv (jb_d jd_int) (jb_e (je_mod (jb_var 9) (jb_e (je_sub2 B.toLv (jb_e (je_lst (ja_cons jd_int (ja_cons jd_int (ja_cons jd_int (ja_cons jd_int ja_nil)))))) (jb_var 7))))))) (ja_cons (jd_fz (je_add B.toLv (jb_d jd_int) (jb_e (je_mod (jb_var 10) (jb_e (je_sub2 B.toLv (jb_e (je_lst (ja_cons jd_int (ja_cons jd_int (ja_cons jd_int (ja_cons jd_int ja_nil)))))) (jb_var 7))))))) ja_nil))))))))))
      jss_nil))
    (jss_cons (js_kill [] (js_if (jt_cm (cm_eq B.toLv) (jb_var 5) (jb_d jd_int))
      (jss_one (js_ret (je_d (jd_tup (ja_cons jd_str (ja_cons (jd_var 1) (ja_cons (jd_var 2) (ja_cons (jd_var 12) (ja_cons (jd_var 8) (ja_cons (jd_fz (je_mul (jb_var 9) (jb_var 10))) (ja_cons (jd_fz (je_sub (jb_var 1) (jb_e (je_mod (jb_var 10) (jb_e (je_add B.toLv (jb_var 1) (jb_d jd_int))))))) ja_nil)))))))))))
      jss_nil))
    (jss_cons (js_kill [13] (js_if (jt_w (jw_or (jt_cm cm_lt (jb_var 5) (jb_d jd_int)) (jw_or1 (jt_cm (cm_eq B.toLv) (jb_var 13) (jb_d jd_int)))))
      (jss_one (js_ret (je_d (jd_tup (ja_cons jd_str (ja_cons (jd_var 1) (ja_cons (jd_var 2) (ja_cons (jd_var 12) (ja_cons (jd_var 8) (ja_cons (jd_var 9) (ja_cons (jd_var 10) ja_nil)))))))))))
      jss_nil))
    (jss_cons (js_kill [5, 9, 10] (js_if (jt_cm cm_lt (jb_var 5) (jb_d jd_int))
      (jss_one (js_ret (je_d (jd_tup (ja_cons jd_str (ja_cons (jd_var 1) (ja_cons (jd_var 2) (ja_cons (jd_var 12) (ja_cons (jd_var 8) (ja_cons (jd_var 9) (ja_cons (jd_var 10) (ja_cons jd_non ja_nil))))))))))))
      jss_nil))
    (jss_one (js_ret (je_d (jd_tup (ja_cons jd_str (ja_cons (jd_var 1) (ja_cons (jd_var 2) (ja_cons (jd_var 12) (ja_cons (jd_var 8) (ja_cons jd_non ja_nil)))))))))))))))))))))))
theorem b__law_fields {P : Program} {w : World} {K : PySem.W.Frag} {mg : Str → Option Value} {base : Heap} {T : Tx} (cl_Buy : Cls T.K (T.cls 12)) (na_Buy_cost : NoAttr T.K (T.cls 12) "cost") (cl_Gift : Cls T.K (T.cls 14)) (na_Gift_cost : NoAttr T.K (T.cls 14) "cost") (na_Buy_fee : NoAttr T.K (T.cls 12) "fee") (cl_Sell : Cls T.K (T.cls 13)) (na_Sell_fee : NoAttr T.K (T.cls 13) "fee") (na_Buy_price : NoAttr T.K (T.cls 12) "price") (na_Sell_price : NoAttr T.K (T.cls 13) "price") (na_Buy_pieces : NoAttr T.K (T.cls 12) "pieces") (na_Sell_pieces : NoAttr T.K (T.cls 13) "pieces") (na_Gift_pieces : NoAttr T.K (T.cls 14) "pieces") (cl_Give : Cls T.K (T.cls 15)) (na_Give_pieces : NoAttr T.K (T.cls 15) "pieces") (na_Sell_proceeds : NoAttr T.K (T.cls 13) "proceeds") (na_Gift_since : NoAttr T.K (T.cls 14) "since") (cl_Split : Cls T.K (T.cls 16)) (na_Split_of : NoAttr T.K (T.cls 16) "of") (na_Split_many : NoAttr T.K (T.cls 16) "many") (cl_Parting : Cls T.K (T.cls 17)) (na_Parting_whole : NoAttr T.K (T.cls 17) "whole") (na_Parting_share : NoAttr T.K (T.cls 17) "share") (na_Parting_other : NoAttr T.K (T.cls 17) "other") (f : Addr) (cdv : Value) (A : Around) (outer : List PySem.Env) (s : Shared) (H : Hp) (E : XK)
    (B : Bd T mg P w base 0 (fun cls d _ H => E cls d H) (cxOf (L2.CX P w) P w K mg base N__law_fields "_law_fields" (defScope s__law_fields) f cdv A outer s H E)) :
    JSs T (fun cls d _ H => E cls d H) (cxOf (L2.CX P w) P w K mg base N__law_fields "_law_fields" (defScope s__law_fields) f cdv A outer s H E) (defBody s__law_fields) m_fields_k10 :=
  have nd := sc__law_fields.nd;
    (jss_cons (js_kill [2] (js_if (jt_cm (cm_eq B.toLv) (jb_e (je_sub2 B.toLv (jb_var 1) (jb_d jd_int))) (jb_d jd_str))
      (jss_cons (js_kill [1] (js_set (i := 2) nd rfl (by first | exact .inl rfl | exact .inr rfl) (je_lst (ja_cons (jd_fz (je_sub2 B.toLv (jb_var 1) (jb_d jd_int))) (ja_cons (jd_fz (je_sub2 B.toLv (jb_var 1) (jb_d jd_int))) (ja_cons (jd_fz (je_sub2 B.toLv (jb_var 1) (jb_d jd_int))) (ja_cons (jd_fz (je_add B.toLv (jb_e (je_mul (jb_e (je_sub2 B.toLv (jb_var 1) (jb_d jd_int))) (jb_e (je_sub2 B.toLv (jb_var 1) (jb_d jd_int))))) (jb_e (je_sub2 B.toLv (jb_var 1) (jb_d jd_int))))) ja_nil)))))))
      (jss_one (js_ret (je_cm (cm_eq B.toLv) (jb_e (je_lst (ja_cons (jd_fld B.toLv (fld_cons ⟨cl_Buy, na_Buy_pieces⟩ (fld_cons ⟨cl_Sell, na_Sell_pieces⟩ (fld_cons ⟨cl_Gift, na_Gift_pieces⟩ (fld_cons ⟨cl_Give, na_Give_pieces⟩ fld_nil)))) (jb_var 0)) (ja_cons (jd_fld B.toLv (fld_cons ⟨cl_Buy, na_Buy_price⟩ (fld_cons ⟨cl_Sell, na_Sell_price⟩ fld_nil)) (jb_var 0)) (ja_cons (jd_fld B.toLv (fld_cons ⟨cl_Buy, na_Buy_fee⟩ (fld_cons ⟨cl_Sell, na_Sell_fee⟩ fld_nil)) (jb_var 0)) (ja_cons (jd_fld B.toLv (fld_cons ⟨cl_Buy, na_Buy_cost⟩ (fld_cons ⟨cl_Gift, na_Gift_cost⟩ fld_nil)) (jb_var 0)) ja_nil)))))) (jb_var 2)))))
      jss_nil))
    (jss_cons (js_kill [2] (js_if (jt_cm (cm_eq B.toLv) (jb_e (je_sub2 B.toLv (jb_var 1) (jb_d jd_int))) (jb_d jd_str))
      (jss_cons (js_kill [1] (js_set (i := 2) nd rfl (by first | exact .inl rfl | exact .inr rfl) (je_lst (ja_cons (jd_fz (je_sub2 B.toLv (jb_var 1) (jb_d jd_int))) (ja_cons (jd_fz (je_sub2 B.toLv (jb_var 1) (jb_d jd_int))) (ja_cons (jd_fz (je_sub2 B.toLv (jb_var 1) (jb_d jd_int))) (ja_cons (jd_fz (je_sub (jb_e (je_mul (jb_e (je_sub2 B.toLv (jb_var 1) (jb_d jd_int))) (jb_e (je_sub2 B.toLv (jb_var 1) (jb_d jd_int))))) (jb_e (je_sub2 B.toLv (jb_var 1) (jb_d jd_int))))) ja_nil)))))))
      (jss_one (js_ret (je_cm (cm_eq B.toLv) (jb_e (je_lst (ja_cons (jd_fld B.toLv (fld_cons ⟨cl_Buy, na_Buy_pieces⟩ (fld_cons ⟨cl_Sell, na_Sell_pieces⟩ (fld_cons ⟨cl_Gift, na_Gift_pieces⟩ (fld_cons ⟨cl_Give, na_Give_pieces⟩ fld_nil)))) (jb_var 0)) (ja_cons (jd_fld B.toLv (fld_cons ⟨cl_Buy, na_Buy_price⟩ (fld_cons ⟨cl_Sell, na_Sell_price⟩ fld_nil)) (jb_var 0)) (ja_cons (jd_fld B.toLv (fld_cons ⟨cl_Buy, na_Buy_fee⟩ (fld_cons ⟨cl_Sell, na_Sell_fee⟩ fld_nil)) (jb_var 0)) (ja_cons (jd_fld B.toLv (fld_cons ⟨cl_Sell, na_Sell_proceeds⟩ fld_nil) (jb_var 0)) ja_nil)))))) (jb_var 2)))))
      jss_nil))
    (jss_cons (js_kill [] (js_if (jt_cm (cm_eq B.toLv) (jb_e (je_sub2 B.toLv (jb_var 1) (jb_d jd_int))) (jb_d jd_str))
      (jss_one (js_ret (je_cm (cm_eq B.toLv) (jb_e (je_lst (ja_cons (jd_fld B.toLv (fld_cons ⟨cl_Buy, na_Buy_pieces⟩ (fld_cons ⟨cl_Sell, na_Sell_pieces⟩ (fld_cons ⟨cl_Gift, na_Gift_pieces⟩ (fld_cons ⟨cl_Give, na_Give_pieces⟩ fld_nil)))) (jb_var 0)) (ja_cons (jd_fld B.toLv (fld_cons ⟨cl_Buy, na_Buy_cost⟩ (fld_cons ⟨cl_Gift, na_Gift_cost⟩ fld_nil)) (jb_var 0)) (ja_cons (jd_fld B.toLv (fld_cons ⟨cl_Gift, na_Gift_since⟩ fld_nil) (jb_var 0)) ja_nil))))) (jb_e (je_lst (ja_cons (jd_fz (je_sub2 B.toLv (jb_var 1) (jb_d jd_int))) (ja_cons (jd_fz (je_sub2 B.toLv (jb_var 1) (jb_d jd_int))) (ja_cons (jd_fz (je_sub2 B.toLv (jb_var 1) (jb_d jd_int))) ja_nil))))))))
      jss_nil))
    (jss_cons (js_kill [] (js_if (jt_cm (cm_eq B.toLv) (jb_e (je_sub2 B.toLv (jb_var 1) (jb_d jd_int))) (jb_d jd_str))
      (jss_one (js_ret (je_cm (cm_eq B.toLv) (jb_e (je_lst (ja_cons (jd_fld B.toLv (fld_cons ⟨cl_Split, na_Split_many⟩ fld_nil) (jb_var 0)) (ja_cons (jd_fld B.toLv (fld_cons ⟨cl_Split, na_Split_of⟩ fld_nil) (jb_var 0)) ja_nil)))) (jb_e (je_lst (ja_cons (jd_fz (je_sub2 B.toLv (jb_var 1) (jb_d jd_int))) (ja_cons (jd_fz (je_sub2 B.toLv (jb_var 1) (jb_d jd_int))) ja_nil)))))))
      jss_nil))
    (jss_cons (js_kill [] (js_if (jt_cm (cm_eq B.toLv) (jb_e (je_sub2 B.toLv (jb_var 1) (jb_d jd_int))) (jb_d jd_str))
      (jss_one (js_ret (je_cm (cm_eq B.toLv) (jb_e (je_lst (ja_cons (jd_fld B.toLv (fld_cons ⟨cl_Parting, na_Parting_other⟩ fld_nil) (jb_var 0)) (ja_cons (jd_fld B.toLv (fld_cons ⟨cl_Parting, na_Parting_share⟩ fld_nil) (jb_var 0)) (ja_cons (jd_fld B.toLv (fld_cons ⟨cl_Parting, na_Parting_whole⟩ fld_nil) (jb_var 0)) ja_nil))))) (jb_e (je_lst (ja_cons (jd_fz (je_sub2 B.toLv (jb_var 1) (jb_d jd_int))) (ja_cons (jd_fz (je_sub2 B.toLv (jb_var 1) (jb_d jd_int))) (ja_cons (jd_fz (je_sub2 B.toLv (jb_var 1) (jb_d jd_int))) ja_nil))))))))
      jss_nil))
    (jss_one (js_ret (je_cm (cm_eq B.toLv) (jb_d (jd_fld B.toLv (fld_cons ⟨cl_Buy, na_Buy_pieces⟩ (fld_cons ⟨cl_Sell, na_Sell_pieces⟩ (fld_cons ⟨cl_Gift, na_Gift_pieces⟩ (fld_cons ⟨cl_Give, na_Give_pieces⟩ fld_nil)))) (jb_var 0))) (jb_e (je_sub2 B.toLv (jb_var 1) (jb_d jd_int)))))))))))
theorem b__law_kinds {P : Program} {w : World} {K : PySem.W.Frag} {mg : Str → Option Value} {base : Heap} {T : Tx} (z_isinstance : mg "isinstance" = none) (if_Buy : InsF T.K (T.cls 12)) (k_Buy_Gift : PySem.W.kitOne T.K (.ref (T.cls 12)) (.ref (T.cls 14)) = some false) (if_Sell : InsF T.K (T.cls 13)) (k_Sell_Gift : PySem.W.kitOne T.K (.ref (T.cls 13)) (.ref (T.cls 14)) = some false) (if_Gift : InsF T.K (T.cls 14)) (k_Gift_Gift : PySem.W.kitOne T.K (.ref (T.cls 14)) (.ref (T.cls 14)) = some true) (if_Give : InsF T.K (T.cls 15)) (k_Give_Gift : PySem.W.kitOne T.K (.ref (T.cls 15)) (.ref (T.cls 14)) = some false) (if_Split : InsF T.K (T.cls 16)) (k_Split_Gift : PySem.W.kitOne T.K (.ref (T.cls 16)) (.ref (T.cls 14)) = some false) (if_Parting : InsF T.K (T.cls 17)) (k_Parting_Gift : PySem.W.kitOne T.K (.ref (T.cls 17)) (.ref (T.cls 14)) = some false) (g_Gift : mg "Gift" = some (.ref (T.cls 14))) (k_Buy_Sell : PySem.W.kitOne T.K (.ref (T.cls 12)) (.ref (T.cls 13)) = some false) (k_Sell_Sell : PySem.W.kitOne T.K (.ref (T.cls 13)) (.ref (T.cls 13)) = some true) (k_Gift_Sell : PySem.W.kitOne T.K (.ref (T.cls 14)) (.ref (T.cls 13)) = some false) (k_Give_Sell : PySem.W.kitOne T.K (.ref (T.cls 15)) (.ref (T.cls 13)) = some false) (k_Split_Sell : PySem.W.kitOne T.K (.ref (T.cls 16)) (.ref (T.cls 13)) = some false) (k_Parting_Sell : PySem.W.kitOne T.K (.ref (T.cls 17)) (.ref (T.cls 13)) = some false) (g_Sell : mg "Sell" = some (.ref (T.cls 13))) (k_Buy_Buy : PySem.W.kitOne T.K (.ref (T.cls 12)) (.ref (T.cls 12)) = some true) (k_Sell_Buy : PySem.W.kitOne T.K (.ref (T.cls 13)) (.ref (T.cls 12)) = some false) (k_Gift_Buy : PySem.W.kitOne T.K (.ref (T.cls 14)) (.ref (T.cls 12)) = some false) (k_Give_Buy : PySem.W.kitOne T.K (.ref (T.cls 15)) (.ref (T.cls 12)) = some false) (k_Split_Buy : PySem.W.kitOne T.K (.ref (T.cls 16)) (.ref (T.cls 12)) = some false) (k_Parting_Buy : PySem.W.kitOne T.K (.ref (T.cls 17)) (.ref (T.cls 12)) = some false) (g_Buy : mg "Buy" = some (.ref (T.cls 12))) (k_Buy_Parting : PySem.W.kitOne T.K (.ref (T.cls 12)) (.ref (T.cls 17)) = some false) (k_Sell_Parting : PySem.W.kitOne T.K (.ref (T.cls 13)) (.ref (T.cls 17)) = some false) (k_Gift_Parting : PySem.W.kitOne T.K (.ref (T.cls 14)) (.ref (T.cls 17)) = some false) (k_Give_Parting : PySem.W.kitOne T.K (.ref (T.cls 15)) (.ref (T.cls 17)) = some false) (k_Split_Parting : PySem.W.kitOne T.K (.ref (T.cls 16)) (.ref (T.cls 17)) = some false) (k_Parting_Parting : PySem.W.kitOne T.K (.ref (T.cls 17)) (.ref (T.cls 17)) = some true) (g_Parting : mg "Parting" = some (.ref (T.cls 17))) (k_Buy_Split : PySem.W.kitOne T.K (.ref (T.cls 12)) (.ref (T.cls 16)) = some false) (k_Sell_Split : PySem.W.kitOne T.K (.ref (T.cls 13)) (.ref (T.cls 16)) = some false) (k_Gift_Split : PySem.W.kitOne T.K (.ref (T.cls 14)) (.ref (T.cls 16)) = some false) (k_Give_Split : PySem.W.kitOne T.K (.ref (T.cls 15)) (.ref (T.cls 16)) = some false) (k_Split_Split : PySem.W.kitOne T.K (.ref (T.cls 16)) (.ref (T.cls 16)) = some true) (k_Parting_Split : PySem.W.kitOne T.K (.ref (T.cls 17)) (.ref (T.cls 16)) = some false) (g_Split : mg "Split" = some (.ref (T.cls 16))) (k_Buy_Give : PySem.W.kitOne T.K (.ref (T.cls 12)) (.ref (T.cls 15)) = some false) (k_Sell_Give : PySem.W.kitOne T.K (.ref (T.cls 13)) (.ref (T.cls 15)) = some false) (k_Gift_Give : PySem.W.kitOne T.K (.ref (T.cls 14)) (.ref (T.cls 15)) = some false) (k_Give_Give : PySem.W.kitOne T.K (.ref (T.cls 15)) (.ref (T.cls 15)) = some true) (k_Split_Give : PySem.W.kitOne T.K (.ref (T.cls 16)) (.ref (T.cls 15)) = some false) (k_Parting_Give : PySem.W.kitOne T.K (.ref (T.cls 17)) (.ref (T.cls 15)) = some false) (g_Give : mg "Give" = some (.ref (T.cls 15))) (f : Addr) (cdv : Value) (A : Around) (outer : List PySem.Env) (s : Shared) (H : Hp) (E : XK)
    (B : Bd T mg P w base 0 (fun cls d _ H => E cls d H) (cxOf (L2.CX P w) P w K mg base N__law_kinds "_law_kinds" (defScope s__law_kinds) f cdv A outer s H E)) :
    JSs T (fun cls d _ H => E cls d H) (cxOf (L2.CX P w) P w K mg base N__law_kinds "_law_kinds" (defScope s__law_kinds) f cdv A outer s H E) (defBody s__law_kinds) m_kinds_k10 :=
  have nd := sc__law_kinds.nd;
    (jss_cons (js_set (i := 1) nd rfl (by first | exact .inl rfl | exact .inr rfl) (je_lst (ja_cons (jd_fz (je_isO (D := 12) (tst := (tab [(12, true), (13, false), (14, false), (15, false), (16, false), (17, false)])) B.toLv (tab_all ⟨⟨if_Buy, k_Buy_Buy⟩, ⟨⟨if_Sell, k_Sell_Buy⟩, ⟨⟨if_Gift, k_Gift_Buy⟩, ⟨⟨if_Give, k_Give_Buy⟩, ⟨⟨if_Split, k_Split_Buy⟩, ⟨⟨if_Parting, k_Parting_Buy⟩, trivial⟩⟩⟩⟩⟩⟩) (by rfl) (B.no z_isinstance) (jb_var 0) (by rfl) (B.yes g_Buy))) (ja_cons (jd_fz (je_isO (D := 13) (tst := (tab [(12, false), (13, true), (14, false), (15, false), (16, false), (17, false)])) B.toLv (tab_all ⟨⟨if_Buy, k_Buy_Sell⟩, ⟨⟨if_Sell, k_Sell_Sell⟩, ⟨⟨if_Gift, k_Gift_Sell⟩, ⟨⟨if_Give, k_Give_Sell⟩, ⟨⟨if_Split, k_Split_Sell⟩, ⟨⟨if_Parting, k_Parting_Sell⟩, trivial⟩⟩⟩⟩⟩⟩) (by rfl) (B.no z_isinstance) (jb_var 0) (by rfl) (B.yes g_Sell))) (ja_cons (jd_fz (je_isO (D := 14) (tst := (tab [(12, false), (13, false), (14, true), (15, false), (16, false), (17, false)])) B.toLv (tab_all ⟨⟨if_Buy, k_Buy_Gift⟩, ⟨⟨if_Sell, k_Sell_Gift⟩, ⟨⟨if_Gift, k_Gift_Gift⟩, ⟨⟨if_Give, k_Give_Gift⟩, ⟨⟨if_Split, k_Split_Gift⟩, ⟨⟨if_Parting, k_Parting_Gift⟩, trivial⟩⟩⟩⟩⟩⟩) (by rfl) (B.no z_isinstance) (jb_var 0) (by rfl) (B.yes g_Gift))) ja_nil)))))
    (jss_one (js_ret (je_add B.toLv (jb_var 1) (jb_e (je_lst (ja_cons (jd_fz (je_isO (D := 15) (tst := (tab [(12, false), (13, false), (14, false), (15, true), (16, false), (17, false)])) B.toLv (tab_all ⟨⟨if_Buy, k_Buy_Give⟩, ⟨⟨if_Sell, k_Sell_Give⟩, ⟨⟨if_Gift, k_Gift_Give⟩, ⟨⟨if_Give, k_Give_Give⟩, ⟨⟨if_Split, k_Split_Give⟩, ⟨⟨if_Parting, k_Parting_Give⟩, trivial⟩⟩⟩⟩⟩⟩) (by rfl) (B.no z_isinstance) (jb_var 0) (by rfl) (B.yes g_Give))) (ja_cons (jd_fz (je_isO (D := 16) (tst := (tab [(12, false), (13, false), (14, false), (15, false), (16, true), (17, false)])) B.toLv (tab_all ⟨⟨if_Buy, k_Buy_Split⟩, ⟨⟨if_Sell, k_Sell_Split⟩, ⟨⟨if_Gift, k_Gift_Split⟩, ⟨⟨if_Give, k_Give_Split⟩, ⟨⟨if_Split, k_Split_Split⟩, ⟨⟨if_Parting, k_Parting_Split⟩, trivial⟩⟩⟩⟩⟩⟩) (by rfl) (B.no z_isinstance) (jb_var 0) (by rfl) (B.yes g_Split))) (ja_cons (jd_fz (je_isO (D := 17) (tst := (tab [(12, false), (13, false), (14, false), (15, false), (16, false), (17, true)])) B.toLv (tab_all ⟨⟨if_Buy, k_Buy_Parting⟩, ⟨⟨if_Sell, k_Sell_Parting⟩, ⟨⟨if_Gift, k_Gift_Parting⟩, ⟨⟨if_Give, k_Give_Parting⟩, ⟨⟨if_Split, k_Split_Parting⟩, ⟨⟨if_Parting, k_Parting_Parting⟩, trivial⟩⟩⟩⟩⟩⟩) (by rfl) (B.no z_isinstance) (jb_var 0) (by rfl) (B.yes g_Parting))) ja_nil)))))))))
theorem b_check_range {P : Program} {w : World} {K : PySem.W.Frag} {mg : Str → Option Value} {base : Heap} {T : Tx} (x_NoEntry : ExcF T.K mg "NoEntry" (T.cls 2)) (f : Addr) (cdv : Value) (A : Around) (outer : List PySem.Env) (s : Shared) (H : Hp) (E : XK)
    (B : Bd T mg P w base 0 (fun cls d _ H => E cls d H) (cxOf (L2.CX P w) P w K mg base N_check_range "check_range" (defScope s_check_range) f cdv A outer s H E)) :
    JSs T (fun cls d _ H => E cls d H) (cxOf (L2.CX P w) P w K mg base N_check_range "check_range" (defScope s_check_range) f cdv A outer s H E) (defBody s_check_range) m_check_range :=
  have nd := sc_check_range.nd;
    (jss_one (js_kill [0, 1, 2] (js_if (jt_not (jt_cm2 cm_le cm_le (jb_var 1) (jb_var 0) (jb_var 2)))
      (jss_one (js_raise (k := 2) B.toLv B.calm (B.exF x_NoEntry) (by rfl)))
      jss_nil)))
theorem b_is_ware {P : Program} {w : World} {K : PySem.W.Frag} {mg : Str → Option Value} {base : Heap} {T : Tx} (z_all : mg "all" = none) (z_len : mg "len" = none) {t_LETTERS : Tok} (k_LETTERS : mg "LETTERS" = some (.str ("abcdefghijklmnopqrstuvwxyz") t_LETTERS)) (f : Addr) (cdv : Value) (A : Around) (outer : List PySem.Env) (s : Shared) (H : Hp) (E : XK)
    (B : Bd T mg P w base 0 (fun cls d _ H => E cls d H) (cxOf (L2.CX P w) P w K mg base N_is_ware "is_ware" (defScope s_is_ware) f cdv A outer s H E)) :
    JSs T (fun cls d _ H => E cls d H) (cxOf (L2.CX P w) P w K mg base N_is_ware "is_ware" (defScope s_is_ware) f cdv A outer s H E) (defBody s_is_ware) m_is_ware :=
  have nd := sc_is_ware.nd;
    (jss_one (js_ret (je_and (jb_e (je_cm2 cm_le cm_le (jb_d jd_int) (jb_e (je_len B.toLv (by rfl) (B.no z_len) (jab_cons (jb_var 0) jab_nil))) (jb_d jd_int))) (je_one (je_callB (B.crK cr_all) v_all (by rfl) (B.no z_all) (by decide +kernel) (jab_cons (jb_e (je_lc (own := [("sign", 1)]) B.toLv B.calm nd (ji_seq B.toLv (jd_var 0)) (blkOk_by (N := N_is_ware) (sc := defScope s_is_ware) (by decide +kernel)) (fun _ _ _ _ _ => (jgc_name (i := 1) nd rfl (by first | exact .inl rfl | exact .inr rfl))) (fun _ _ _ _ _ => jts_nil) (fun _ _ _ _ _ => (jd_fz (je_cm (cm_in B.blk.toLv) (jb_var 1) (jb_d (jd_gS (by rfl) (B.blk.yes k_LETTERS)))))))) jab_nil))))))
theorem b_check_ware {P : Program} {w : World} {K : PySem.W.Frag} {mg : Str → Option Value} {base : Heap} {T : Tx} (x_NoEntry : ExcF T.K mg "NoEntry" (T.cls 2)) (d_is_ware : Def P w T.K mg base T 1 "is_ware" 1 f_is_ware) (f : Addr) (cdv : Value) (A : Around) (outer : List PySem.Env) (s : Shared) (H : Hp) (E : XK)
    (B : Bd T mg P w base 1 (fun cls d _ H => E cls d H) (cxOf (L2.CX P w) P w K mg base N_check_ware "check_ware" (defScope s_check_ware) f cdv A outer s H E)) :
    JSs T (fun cls d _ H => E cls d H) (cxOf (L2.CX P w) P w K mg base N_check_ware "check_ware" (defScope s_check_ware) f cdv A outer s H E) (defBody s_check_ware) m_check_ware :=
  have nd := sc_check_ware.nd;
    (jss_one (js_kill [0] (js_if (jt_not (jt_e (jb_e (je_call B d_is_ware (by rfl) (ja_cons (jd_var 0) ja_nil) (hlen := (cCons_len len0))))))
      (jss_one (js_raise (k := 2) B.toLv B.calm (B.exF x_NoEntry) (by rfl)))
      jss_nil)))
theorem b_Entry_init {P : Program} {w : World} {K : PySem.W.Frag} {mg : Str → Option Value} {base : Heap} {T : Tx} {t_MOST_DAY : Tok} (k_MOST_DAY : mg "MOST_DAY" = some (.int (1000000) t_MOST_DAY)) (cl_Parting : Cls T.K (T.cls 17)) (na_Parting_day : NoAttr T.K (T.cls 17) "day") (cl_Split : Cls T.K (T.cls 16)) (na_Split_day : NoAttr T.K (T.cls 16) "day") (cl_Give : Cls T.K (T.cls 15)) (na_Give_day : NoAttr T.K (T.cls 15) "day") (cl_Gift : Cls T.K (T.cls 14)) (na_Gift_day : NoAttr T.K (T.cls 14) "day") (cl_Sell : Cls T.K (T.cls 13)) (na_Sell_day : NoAttr T.K (T.cls 13) "day") (cl_Buy : Cls T.K (T.cls 12)) (na_Buy_day : NoAttr T.K (T.cls 12) "day") (cl_Entry : Cls T.K (T.cls 11)) (na_Entry_day : NoAttr T.K (T.cls 11) "day") (na_Parting_number : NoAttr T.K (T.cls 17) "number") (na_Split_number : NoAttr T.K (T.cls 16) "number") (na_Give_number : NoAttr T.K (T.cls 15) "number") (na_Gift_number : NoAttr T.K (T.cls 14) "number") (na_Sell_number : NoAttr T.K (T.cls 13) "number") (na_Buy_number : NoAttr T.K (T.cls 12) "number") (na_Entry_number : NoAttr T.K (T.cls 11) "number") (na_Parting_ware : NoAttr T.K (T.cls 17) "ware") (na_Split_ware : NoAttr T.K (T.cls 16) "ware") (na_Give_ware : NoAttr T.K (T.cls 15) "ware") (na_Gift_ware : NoAttr T.K (T.cls 14) "ware") (na_Sell_ware : NoAttr T.K (T.cls 13) "ware") (na_Buy_ware : NoAttr T.K (T.cls 12) "ware") (na_Entry_ware : NoAttr T.K (T.cls 11) "ware") (d_check_range : Def P w T.K mg base T 2 "check_range" 3 f_check_range) (d_check_ware : Def P w T.K mg base T 2 "check_ware" 1 f_check_ware) (f : Addr) (cdv : Value) (A : Around) (outer : List PySem.Env) (s : Shared) (H : Hp) (E : XK)
    (B : Bd T mg P w base 2 (fun cls d _ H => E cls d H) (cxOf (L2.CX P w) P w K mg base N_Entry_init "Entry.__init__" (defScope s_Entry_init) f cdv A outer s H E)) :
    JNs T (fun cls d _ H => E cls d H) (fun k => [11, 12, 13, 14, 15, 16, 17].contains k) (cxOf (L2.CX P w) P w K mg base N_Entry_init "Entry.__init__" (defScope s_Entry_init) f cdv A outer s H E) (defBody s_Entry_init) m_Entry_init :=
  have nd := sc_Entry_init.nd;
    (jns_cons (jn_drop (je_call B d_check_range (by rfl) (ja_cons (jd_var 1) (ja_cons jd_int (ja_cons (jd_gI (by rfl) (B.yes k_MOST_DAY)) ja_nil))) (hlen := (cCons_len (cCons_len (cCons_len len0))))))
    (jns_cons (jn_drop (je_call B d_check_range (by rfl) (ja_cons (jd_var 2) (ja_cons jd_int (ja_cons (jd_gI (by rfl) (B.yes k_MOST_DAY)) ja_nil))) (hlen := (cCons_len (cCons_len (cCons_len len0))))))
    (jns_cons (jn_drop (je_call B d_check_ware (by rfl) (ja_cons (jd_var 3) ja_nil) (hlen := (cCons_len len0))))
    (jns_cons (jn_set B.toLv (okc_cons ⟨cl_Entry, na_Entry_day⟩ (okc_cons ⟨cl_Buy, na_Buy_day⟩ (okc_cons ⟨cl_Sell, na_Sell_day⟩ (okc_cons ⟨cl_Gift, na_Gift_day⟩ (okc_cons ⟨cl_Give, na_Give_day⟩ (okc_cons ⟨cl_Split, na_Split_day⟩ (okc_cons ⟨cl_Parting, na_Parting_day⟩ okc_nil))))))) rfl (by first | exact Or.inl rfl | exact Or.inr (Or.inl rfl) | exact Or.inr (Or.inr rfl)) (jd_var 1))
    (jns_cons (jn_set B.toLv (okc_cons ⟨cl_Entry, na_Entry_number⟩ (okc_cons ⟨cl_Buy, na_Buy_number⟩ (okc_cons ⟨cl_Sell, na_Sell_number⟩ (okc_cons ⟨cl_Gift, na_Gift_number⟩ (okc_cons ⟨cl_Give, na_Give_number⟩ (okc_cons ⟨cl_Split, na_Split_number⟩ (okc_cons ⟨cl_Parting, na_Parting_number⟩ okc_nil))))))) rfl (by first | exact Or.inl rfl | exact Or.inr (Or.inl rfl) | exact Or.inr (Or.inr rfl)) (jd_var 2))
    (jns_cons (jn_set B.toLv (okc_cons ⟨cl_Entry, na_Entry_ware⟩ (okc_cons ⟨cl_Buy, na_Buy_ware⟩ (okc_cons ⟨cl_Sell, na_Sell_ware⟩ (okc_cons ⟨cl_Gift, na_Gift_ware⟩ (okc_cons ⟨cl_Give, na_Give_ware⟩ (okc_cons ⟨cl_Split, na_Split_ware⟩ (okc_cons ⟨cl_Parting, na_Parting_ware⟩ okc_nil))))))) rfl (by first | exact Or.inl rfl | exact Or.inr (Or.inl rfl) | exact Or.inr (Or.inr rfl)) (jd_var 3))
    jns_nil))))))
theorem b_Buy_init {P : Program} {w : World} {K : PySem.W.Frag} {mg : Str → Option Value} {base : Heap} {T : Tx} {t_MOST_PIECES : Tok} (k_MOST_PIECES : mg "MOST_PIECES" = some (.int (1000000000) t_MOST_PIECES)) {t_MOST_PRICE : Tok} (k_MOST_PRICE : mg "MOST_PRICE" = some (.int (1000000000) t_MOST_PRICE)) (cl_Buy : Cls T.K (T.cls 12)) (na_Buy_pieces : NoAttr T.K (T.cls 12) "pieces") (na_Buy_price : NoAttr T.K (T.cls 12) "price") (na_Buy_fee : NoAttr T.K (T.cls 12) "fee") (na_Buy_cost : NoAttr T.K (T.cls 12) "cost") (d_check_range : Def P w T.K mg base T 3 "check_range" 3 f_check_range) (sup_Entry : Sup P w T.K mg base T 3 "Entry" 3 (fun k => [11, 12, 13, 14, 15, 16, 17].contains k) f_Entry_init) (f : Addr) (cdv : Value) (A : Around) (outer : List PySem.Env) (s : Shared) (H : Hp) (E : XK)
    (B : Bd T mg P w base 3 (fun cls d _ H => E cls d H) (cxOf (L2.CX P w) P w K mg base N_Buy_init "Buy.__init__" (defScope s_Buy_init) f cdv A outer s H E)) :
    JNs T (fun cls d _ H => E cls d H) (fun k => [12].contains k) (cxOf (L2.CX P w) P w K mg base N_Buy_init "Buy.__init__" (defScope s_Buy_init) f cdv A outer s H E) (defBody s_Buy_init) m_Buy_init :=
  have nd := sc_Buy_init.nd;
    (jns_cons (jn_base B sup_Entry (okc_sub (by decide)) (by rfl) rfl (by first | exact Or.inl rfl | exact Or.inr (Or.inl rfl) | exact Or.inr (Or.inr rfl)) (ja_cons (jd_var 1) (ja_cons (jd_var 2) (ja_cons (jd_var 3) ja_nil))) (cCons_len (cCons_len (cCons_len len0))))
    (jns_cons (jn_drop (je_call B d_check_range (by rfl) (ja_cons (jd_var 4) (ja_cons jd_int (ja_cons (jd_gI (by rfl) (B.yes k_MOST_PIECES)) ja_nil))) (hlen := (cCons_len (cCons_len (cCons_len len0))))))
    (jns_cons (jn_drop (je_call B d_check_range (by rfl) (ja_cons (jd_var 5) (ja_cons jd_int (ja_cons (jd_gI (by rfl) (B.yes k_MOST_PRICE)) ja_nil))) (hlen := (cCons_len (cCons_len (cCons_len len0))))))
    (jns_cons (jn_drop (je_call B d_check_range (by rfl) (ja_cons (jd_var 6) (ja_cons jd_int (ja_cons (jd_gI (by rfl) (B.yes k_MOST_PRICE)) ja_nil))) (hlen := (cCons_len (cCons_len (cCons_len len0))))))
    (jns_cons (jn_set B.toLv (okc_cons ⟨cl_Buy, na_Buy_pieces⟩ okc_nil) rfl (by first | exact Or.inl rfl | exact Or.inr (Or.inl rfl) | exact Or.inr (Or.inr rfl)) (jd_var 4))
    (jns_cons (jn_set B.toLv (okc_cons ⟨cl_Buy, na_Buy_price⟩ okc_nil) rfl (by first | exact Or.inl rfl | exact Or.inr (Or.inl rfl) | exact Or.inr (Or.inr rfl)) (jd_var 5))
    (jns_cons (jn_set B.toLv (okc_cons ⟨cl_Buy, na_Buy_fee⟩ okc_nil) rfl (by first | exact Or.inl rfl | exact Or.inr (Or.inl rfl) | exact Or.inr (Or.inr rfl)) (jd_var 6))
    (jns_cons (jn_set B.toLv (okc_cons ⟨cl_Buy, na_Buy_cost⟩ okc_nil) rfl (by first | exact Or.inl rfl | exact Or.inr (Or.inl rfl) | exact Or.inr (Or.inr rfl)) (jd_fz (je_add B.toLv (jb_e (je_mul (jb_var 4) (jb_var 5))) (jb_var 6))))
    jns_nil))))))))
theorem b_Gift_init {P : Program} {w : World} {K : PySem.W.Frag} {mg : Str → Option Value} {base : Heap} {T : Tx} {t_MOST_COST : Tok} (k_MOST_COST : mg "MOST_COST" = some (.int (1000000000000000000) t_MOST_COST)) {t_MOST_PIECES : Tok} (k_MOST_PIECES : mg "MOST_PIECES" = some (.int (1000000000) t_MOST_PIECES)) (cl_Gift : Cls T.K (T.cls 14)) (na_Gift_pieces : NoAttr T.K (T.cls 14) "pieces") (na_Gift_cost : NoAttr T.K (T.cls 14) "cost") (na_Gift_since : NoAttr T.K (T.cls 14) "since") (d_check_range : Def P w T.K mg base T 3 "check_range" 3 f_check_range) (sup_Entry : Sup P w T.K mg base T 3 "Entry" 3 (fun k => [11, 12, 13, 14, 15, 16, 17].contains k) f_Entry_init) (f : Addr) (cdv : Value) (A : Around) (outer : List PySem.Env) (s : Shared) (H : Hp) (E : XK)
    (B : Bd T mg P w base 3 (fun cls d _ H => E cls d H) (cxOf (L2.CX P w) P w K mg base N_Gift_init "Gift.__init__" (defScope s_Gift_init) f cdv A outer s H E)) :
    JNs T (fun cls d _ H => E cls d H) (fun k => [14].contains k) (cxOf (L2.CX P w) P w K mg base N_Gift_init "Gift.__init__" (defScope s_Gift_init) f cdv A outer s H E) (defBody s_Gift_init) m_Gift_init :=
  have nd := sc_Gift_init.nd;
    (jns_cons (jn_base B sup_Entry (okc_sub (by decide)) (by rfl) rfl (by first | exact Or.inl rfl | exact Or.inr (Or.inl rfl) | exact Or.inr (Or.inr rfl)) (ja_cons (jd_var 1) (ja_cons (jd_var 2) (ja_cons (jd_var 3) ja_nil))) (cCons_len (cCons_len (cCons_len len0))))
    (jns_cons (jn_drop (je_call B d_check_range (by rfl) (ja_cons (jd_var 4) (ja_cons jd_int (ja_cons (jd_gI (by rfl) (B.yes k_MOST_PIECES)) ja_nil))) (hlen := (cCons_len (cCons_len (cCons_len len0))))))
    (jns_cons (jn_drop (je_call B d_check_range (by rfl) (ja_cons (jd_var 5) (ja_cons jd_int (ja_cons (jd_gI (by rfl) (B.yes k_MOST_COST)) ja_nil))) (hlen := (cCons_len (cCons_len (cCons_len len0))))))
    (jns_cons (jn_drop (je_call B d_check_range (by rfl) (ja_cons (jd_var 6) (ja_cons jd_int (ja_cons (jd_var 1) ja_nil))) (hlen := (cCons_len (cCons_len (cCons_len len0))))))
    (jns_cons (jn_set B.toLv (okc_cons ⟨cl_Gift, na_Gift_pieces⟩ okc_nil) rfl (by first | exact Or.inl rfl | exact Or.inr (Or.inl rfl) | exact Or.inr (Or.inr rfl)) (jd_var 4))
    (jns_cons (jn_set B.toLv (okc_cons ⟨cl_Gift, na_Gift_cost⟩ okc_nil) rfl (by first | exact Or.inl rfl | exact Or.inr (Or.inl rfl) | exact Or.inr (Or.inr rfl)) (jd_var 5))
    (jns_cons (jn_set B.toLv (okc_cons ⟨cl_Gift, na_Gift_since⟩ okc_nil) rfl (by first | exact Or.inl rfl | exact Or.inr (Or.inl rfl) | exact Or.inr (Or.inr rfl)) (jd_var 6))
    jns_nil)))))))
theorem b_Split_init {P : Program} {w : World} {K : PySem.W.Frag} {mg : Str → Option Value} {base : Heap} {T : Tx} (cl_Split : Cls T.K (T.cls 16)) (na_Split_many : NoAttr T.K (T.cls 16) "many") (na_Split_of : NoAttr T.K (T.cls 16) "of") (d_check_range : Def P w T.K mg base T 3 "check_range" 3 f_check_range) (sup_Entry : Sup P w T.K mg base T 3 "Entry" 3 (fun k => [11, 12, 13, 14, 15, 16, 17].contains k) f_Entry_init) (f : Addr) (cdv : Value) (A : Around) (outer : List PySem.Env) (s : Shared) (H : Hp) (E : XK)
    (B : Bd T mg P w base 3 (fun cls d _ H => E cls d H) (cxOf (L2.CX P w) P w K mg base N_Split_init "Split.__init__" (defScope s_Split_init) f cdv A outer s H E)) :
    JNs T (fun cls d _ H => E cls d H) (fun k => [16].contains k) (cxOf (L2.CX P w) P w K mg base N_Split_init "Split.__init__" (defScope s_Split_init) f cdv A outer s H E) (defBody s_Split_init) m_Split_init :=
  have nd := sc_Split_init.nd;
    (jns_cons (jn_base B sup_Entry (okc_sub (by decide)) (by rfl) rfl (by first | exact Or.inl rfl | exact Or.inr (Or.inl rfl) | exact Or.inr (Or.inr rfl)) (ja_cons (jd_var 1) (ja_cons (jd_var 2) (ja_cons (jd_var 3) ja_nil))) (cCons_len (cCons_len (cCons_len len0))))
    (jns_cons (jn_drop (je_call B d_check_range (by rfl) (ja_cons (jd_var 4) (ja_cons jd_int (ja_cons jd_int ja_nil))) (hlen := (cCons_len (cCons_len (cCons_len len0))))))
    (jns_cons (jn_drop (je_call B d_check_range (by rfl) (ja_cons (jd_var 5) (ja_cons jd_int (ja_cons jd_int ja_nil))) (hlen := (cCons_len (cCons_len (cCons_len len0))))))
    (jns_cons (jn_set B.toLv (okc_cons ⟨cl_Split, na_Split_many⟩ okc_nil) rfl (by first | exact Or.inl rfl | exact Or.inr (Or.inl rfl) | exact Or.inr (Or.inr rfl)) (jd_var 4))
    (jns_cons (jn_set B.toLv (okc_cons ⟨cl_Split, na_Split_of⟩ okc_nil) rfl (by first | exact Or.inl rfl | exact Or.inr (Or.inl rfl) | exact Or.inr (Or.inr rfl)) (jd_var 5))
    jns_nil)))))
theorem b_Parting_init {P : Program} {w : World} {K : PySem.W.Frag} {mg : Str → Option Value} {base : Heap} {T : Tx} (x_NoEntry : ExcF T.K mg "NoEntry" (T.cls 2)) (cl_Parting : Cls T.K (T.cls 17)) (na_Parting_other : NoAttr T.K (T.cls 17) "other") (na_Parting_share : NoAttr T.K (T.cls 17) "share") (na_Parting_whole : NoAttr T.K (T.cls 17) "whole") (d_check_range : Def P w T.K mg base T 3 "check_range" 3 f_check_range) (d_check_ware : Def P w T.K mg base T 3 "check_ware" 1 f_check_ware) (sup_Entry : Sup P w T.K mg base T 3 "Entry" 3 (fun k => [11, 12, 13, 14, 15, 16, 17].contains k) f_Entry_init) (f : Addr) (cdv : Value) (A : Around) (outer : List PySem.Env) (s : Shared) (H : Hp) (E : XK)
    (B : Bd T mg P w base 3 (fun cls d _ H => E cls d H) (cxOf (L2.CX P w) P w K mg base N_Parting_init "Parting.__init__" (defScope s_Parting_init) f cdv A outer s H E)) :
    JNs T (fun cls d _ H => E cls d H) (fun k => [17].contains k) (cxOf (L2.CX P w) P w K mg base N_Parting_init "Parting.__init__" (defScope s_Parting_init) f cdv A outer s H E) (defBody s_Parting_init) m_Parting_init :=
  have nd := sc_Parting_init.nd;
    (jns_cons (jn_base B sup_Entry (okc_sub (by decide)) (by rfl) rfl (by first | exact Or.inl rfl | exact Or.inr (Or.inl rfl) | exact Or.inr (Or.inr rfl)) (ja_cons (jd_var 1) (ja_cons (jd_var 2) (ja_cons (jd_var 3) ja_nil))) (cCons_len (cCons_len (cCons_len len0))))
    (jns_cons (jn_drop (je_call B d_check_ware (by rfl) (ja_cons (jd_var 4) ja_nil) (hlen := (cCons_len len0))))
    (jns_cons (jn_drop (je_call B d_check_range (by rfl) (ja_cons (jd_var 6) (ja_cons jd_int (ja_cons (jd_fz (je_pow (jb_d jd_int) (jb_d jd_int))) ja_nil))) (hlen := (cCons_len (cCons_len (cCons_len len0))))))
    (jns_cons (jn_drop (je_call B d_check_range (by rfl) (ja_cons (jd_var 5) (ja_cons jd_int (ja_cons (jd_var 6) ja_nil))) (hlen := (cCons_len (cCons_len (cCons_len len0))))))
    (jns_cons (jn_if (jt_cm (cm_eq B.toLv) (jb_var 4) (jb_var 3))
      (jns_cons (jn_raise (k := 2) B.toLv B.calm (B.exF x_NoEntry) (by rfl))
      jns_nil)
      jns_nil)
    (jns_cons (jn_set B.toLv (okc_cons ⟨cl_Parting, na_Parting_other⟩ okc_nil) rfl (by first | exact Or.inl rfl | exact Or.inr (Or.inl rfl) | exact Or.inr (Or.inr rfl)) (jd_var 4))
    (jns_cons (jn_set B.toLv (okc_cons ⟨cl_Parting, na_Parting_share⟩ okc_nil) rfl (by first | exact Or.inl rfl | exact Or.inr (Or.inl rfl) | exact Or.inr (Or.inr rfl)) (jd_var 5))
    (jns_cons (jn_set B.toLv (okc_cons ⟨cl_Parting, na_Parting_whole⟩ okc_nil) rfl (by first | exact Or.inl rfl | exact Or.inr (Or.inl rfl) | exact Or.inr (Or.inr rfl)) (jd_var 6))
    jns_nil))))))))
theorem b_checked_named {P : Program} {w : World} {K : PySem.W.Frag} {mg : Str → Option Value} {base : Heap} {T : Tx} (z_len : mg "len" = none) (z_list : mg "list" = none) (z_set : mg "set" = none) (z_sum : mg "sum" = none) {t_MOST_DAY : Tok} (k_MOST_DAY : mg "MOST_DAY" = some (.int (1000000) t_MOST_DAY)) {t_MOST_PIECES : Tok} (k_MOST_PIECES : mg "MOST_PIECES" = some (.int (1000000000) t_MOST_PIECES)) (x_NoEntry : ExcF T.K mg "NoEntry" (T.cls 2)) (d_check_range : Def P w T.K mg base T 1 "check_range" 3 f_check_range) (f : Addr) (cdv : Value) (A : Around) (outer : List PySem.Env) (s : Shared) (H : Hp) (E : XK)
    (B : Bd T mg P w base 1 (fun cls d _ H => E cls d H) (cxOf (L2.CX P w) P w K mg base N_checked_named "checked_named" (defScope s_checked_named) f cdv A outer s H E)) :
    JSs T (fun cls d _ H => E cls d H) (cxOf (L2.CX P w) P w K mg base N_checked_named "checked_named" (defScope s_checked_named) f cdv A outer s H E) (defBody s_checked_named) m_checked_named_k10z :=
  have nd := sc_checked_named.nd;
    (jss_cons (js_kill [] (js_if (jt_cm cm_is (jb_var 0) (jb_d jd_non))
      (jss_one (js_ret (je_d jd_non)))
      jss_nil))
    (jss_cons (js_kill [2, 3] (js_forS B.toLv B.calm B.po (jd_var 0) (jg_tup (is := [2, 3]) B.toLv B.calm (pgs_cons (pg_name (i := 2) nd rfl (by first | exact .inl rfl | exact .inr rfl)) (pgs_cons (pg_name (i := 3) nd rfl (by first | exact .inl rfl | exact .inr rfl)) pgs_nil)))
      (jss_cons (js_kill [2] (js_drop (je_call B d_check_range (by rfl) (ja_cons (jd_var 2) (ja_cons jd_int (ja_cons (jd_gI (by rfl) (B.yes k_MOST_DAY)) ja_nil))) (hlen := (cCons_len (cCons_len (cCons_len len0)))))))
      (jss_one (js_kill [3] (js_drop (je_call B d_check_range (by rfl) (ja_cons (jd_var 3) (ja_cons jd_int (ja_cons (jd_gI (by rfl) (B.yes k_MOST_PIECES)) ja_nil))) (hlen := (cCons_len (cCons_len (cCons_len len0)))))))))))
    (jss_cons (js_kill [1] (js_if (jt_w (jw_or (jt_cm cm_lt (jb_e (je_lenSet B.toLv B.calm (by rfl) (B.no z_len) (by rfl) (B.no z_set) (jb_e (je_lcS (own := [("lot", 2), ("some", 3)]) B.toLv B.calm nd (jd_var 0) (blkOk_by (N := N_checked_named) (sc := defScope s_checked_named) (by decide +kernel)) (fun _ _ _ _ _ => (jgc_tup (is := [2, 3]) B.blk.toLv B.blk.calm (pgs_cons (pg_name (i := 2) nd rfl (by first | exact .inl rfl | exact .inr rfl)) (pgs_cons (pg_name (i := 3) nd rfl (by first | exact .inl rfl | exact .inr rfl)) pgs_nil)))) (fun _ _ _ _ _ => jts_nil) (fun _ _ _ _ _ => (jd_var 2)))))) (jb_e (je_len B.toLv (by rfl) (B.no z_len) (jab_cons (jb_var 0) jab_nil)))) (jw_or1 (jt_cm (cm_ne B.toLv) (jb_e (je_callB (B.crK cr_sum) v_sum (by rfl) (B.no z_sum) (by decide +kernel) (jab_cons (jb_e (je_lcS (own := [("lot", 2), ("some", 3)]) B.toLv B.calm nd (jd_var 0) (blkOk_by (N := N_checked_named) (sc := defScope s_checked_named) (by decide +kernel)) (fun _ _ _ _ _ => (jgc_tup (is := [2, 3]) B.blk.toLv B.blk.calm (pgs_cons (pg_name (i := 2) nd rfl (by first | exact .inl rfl | exact .inr rfl)) (pgs_cons (pg_name (i := 3) nd rfl (by first | exact .inl rfl | exact .inr rfl)) pgs_nil)))) (fun _ _ _ _ _ => jts_nil) (fun _ _ _ _ _ => (jd_var 3)))) jab_nil))) (jb_var 1)))))
      (jss_one (js_raise (k := 2) B.toLv B.calm (B.exF x_NoEntry) (by rfl)))
      jss_nil))
    (jss_one (js_ret (je_callTy B.crList v_list (by rfl) (B.no z_list) (by decide +kernel) (jab_cons (jb_var 0) jab_nil)))))))
theorem b_Sell_init {P : Program} {w : World} {K : PySem.W.Frag} {mg : Str → Option Value} {base : Heap} {T : Tx} {t_MOST_PIECES : Tok} (k_MOST_PIECES : mg "MOST_PIECES" = some (.int (1000000000) t_MOST_PIECES)) {t_MOST_PRICE : Tok} (k_MOST_PRICE : mg "MOST_PRICE" = some (.int (1000000000) t_MOST_PRICE)) (cl_Sell : Cls T.K (T.cls 13)) (na_Sell_pieces : NoAttr T.K (T.cls 13) "pieces") (na_Sell_price : NoAttr T.K (T.cls 13) "price") (na_Sell_fee : NoAttr T.K (T.cls 13) "fee") (na_Sell_named : NoAttr T.K (T.cls 13) "named") (na_Sell_proceeds : NoAttr T.K (T.cls 13) "proceeds") (d_check_range : Def P w T.K mg base T 3 "check_range" 3 f_check_range) (d_checked_named : Def P w T.K mg base T 3 "checked_named" 2 f_checked_named_k10z) (sup_Entry : Sup P w T.K mg base T 3 "Entry" 3 (fun k => [11, 12, 13, 14, 15, 16, 17].contains k) f_Entry_init) (f : Addr) (cdv : Value) (A : Around) (outer : List PySem.Env) (s : Shared) (H : Hp) (E : XK)
    (B : Bd T mg P w base 3 (fun cls d _ H => E cls d H) (cxOf (L2.CX P w) P w K mg base N_Sell_init "Sell.__init__" (defScope s_Sell_init) f cdv A outer s H E)) :
    JNs T (fun cls d _ H => E cls d H) (fun k => [13].contains k) (cxOf (L2.CX P w) P w K mg base N_Sell_init "Sell.__init__" (defScope s_Sell_init) f cdv A outer s H E) (defBody s_Sell_init) m_Sell_init_k10z :=
  have nd := sc_Sell_init.nd;
    (jns_cons (jn_base B sup_Entry (okc_sub (by decide)) (by rfl) rfl (by first | exact Or.inl rfl | exact Or.inr (Or.inl rfl) | exact Or.inr (Or.inr rfl)) (ja_cons (jd_var 1) (ja_cons (jd_var 2) (ja_cons (jd_var 3) ja_nil))) (cCons_len (cCons_len (cCons_len len0))))
    (jns_cons (jn_drop (je_call B d_check_range (by rfl) (ja_cons (jd_var 4) (ja_cons jd_int (ja_cons (jd_gI (by rfl) (B.yes k_MOST_PIECES)) ja_nil))) (hlen := (cCons_len (cCons_len (cCons_len len0))))))
    (jns_cons (jn_drop (je_call B d_check_range (by rfl) (ja_cons (jd_var 5) (ja_cons jd_int (ja_cons (jd_gI (by rfl) (B.yes k_MOST_PRICE)) ja_nil))) (hlen := (cCons_len (cCons_len (cCons_len len0))))))
    (jns_cons (jn_drop (je_call B d_check_range (by rfl) (ja_cons (jd_var 6) (ja_cons jd_int (ja_cons (jd_gI (by rfl) (B.yes k_MOST_PRICE)) ja_nil))) (hlen := (cCons_len (cCons_len (cCons_len len0))))))
    (jns_cons (jn_set B.toLv (okc_cons ⟨cl_Sell, na_Sell_pieces⟩ okc_nil) rfl (by first | exact Or.inl rfl | exact Or.inr (Or.inl rfl) | exact Or.inr (Or.inr rfl)) (jd_var 4))
    (jns_cons (jn_set B.toLv (okc_cons ⟨cl_Sell, na_Sell_price⟩ okc_nil) rfl (by first | exact Or.inl rfl | exact Or.inr (Or.inl rfl) | exact Or.inr (Or.inr rfl)) (jd_var 5))
    (jns_cons (jn_set B.toLv (okc_cons ⟨cl_Sell, na_Sell_fee⟩ okc_nil) rfl (by first | exact Or.inl rfl | exact Or.inr (Or.inl rfl) | exact Or.inr (Or.inr rfl)) (jd_var 6))
    (jns_cons (jn_set B.toLv (okc_cons ⟨cl_Sell, na_Sell_named⟩ okc_nil) rfl (by first | exact Or.inl rfl | exact Or.inr (Or.inl rfl) | exact Or.inr (Or.inr rfl)) (jd_fz (je_call B d_checked_named (by rfl) (ja_cons (jd_var 7) (ja_cons (jd_var 4) ja_nil)) (hlen := (cCons_len (cCons_len len0))))))
    (jns_cons (jn_set B.toLv (okc_cons ⟨cl_Sell, na_Sell_proceeds⟩ okc_nil) rfl (by first | exact Or.inl rfl | exact Or.inr (Or.inl rfl) | exact Or.inr (Or.inr rfl)) (jd_fz (je_sub (jb_e (je_mul (jb_var 4) (jb_var 5))) (jb_var 6))))
    jns_nil)))))))))
theorem b_Give_init {P : Program} {w : World} {K : PySem.W.Frag} {mg : Str → Option Value} {base : Heap} {T : Tx} {t_MOST_PIECES : Tok} (k_MOST_PIECES : mg "MOST_PIECES" = some (.int (1000000000) t_MOST_PIECES)) (cl_Give : Cls T.K (T.cls 15)) (na_Give_pieces : NoAttr T.K (T.cls 15) "pieces") (na_Give_named : NoAttr T.K (T.cls 15) "named") (d_check_range : Def P w T.K mg base T 3 "check_range" 3 f_check_range) (d_checked_named : Def P w T.K mg base T 3 "checked_named" 2 f_checked_named_k10z) (sup_Entry : Sup P w T.K mg base T 3 "Entry" 3 (fun k => [11, 12, 13, 14, 15, 16, 17].contains k) f_Entry_init) (f : Addr) (cdv : Value) (A : Around) (outer : List PySem.Env) (s : Shared) (H : Hp) (E : XK)
    (B : Bd T mg P w base 3 (fun cls d _ H => E cls d H) (cxOf (L2.CX P w) P w K mg base N_Give_init "Give.__init__" (defScope s_Give_init) f cdv A outer s H E)) :
    JNs T (fun cls d _ H => E cls d H) (fun k => [15].contains k) (cxOf (L2.CX P w) P w K mg base N_Give_init "Give.__init__" (defScope s_Give_init) f cdv A outer s H E) (defBody s_Give_init) m_Give_init_k10z :=
  have nd := sc_Give_init.nd;
    (jns_cons (jn_base B sup_Entry (okc_sub (by decide)) (by rfl) rfl (by first | exact Or.inl rfl | exact Or.inr (Or.inl rfl) | exact Or.inr (Or.inr rfl)) (ja_cons (jd_var 1) (ja_cons (jd_var 2) (ja_cons (jd_var 3) ja_nil))) (cCons_len (cCons_len (cCons_len len0))))
    (jns_cons (jn_drop (je_call B d_check_range (by rfl) (ja_cons (jd_var 4) (ja_cons jd_int (ja_cons (jd_gI (by rfl) (B.yes k_MOST_PIECES)) ja_nil))) (hlen := (cCons_len (cCons_len (cCons_len len0))))))
    (jns_cons (jn_set B.toLv (okc_cons ⟨cl_Give, na_Give_pieces⟩ okc_nil) rfl (by first | exact Or.inl rfl | exact Or.inr (Or.inl rfl) | exact Or.inr (Or.inr rfl)) (jd_var 4))
    (jns_cons (jn_set B.toLv (okc_cons ⟨cl_Give, na_Give_named⟩ okc_nil) rfl (by first | exact Or.inl rfl | exact Or.inr (Or.inl rfl) | exact Or.inr (Or.inr rfl)) (jd_fz (je_call B d_checked_named (by rfl) (ja_cons (jd_var 5) (ja_cons (jd_var 4) ja_nil)) (hlen := (cCons_len (cCons_len len0))))))
    jns_nil))))
theorem b__law_made {P : Program} {w : World} {K : PySem.W.Frag} {mg : Str → Option Value} {base : Heap} {T : Tx} (z_list : mg "list" = none) (u_Buy : Mkd P w T.K mg base T 4 "Buy" 12 6 f_Buy_init) (u_Gift : Mkd P w T.K mg base T 4 "Gift" 14 6 f_Gift_init) (u_Split : Mkd P w T.K mg base T 4 "Split" 16 5 f_Split_init) (u_Parting : Mkd P w T.K mg base T 4 "Parting" 17 6 f_Parting_init) (u_Sell : Mkd P w T.K mg base T 4 "Sell" 13 7 f_Sell_init_k10z) (u_Give : Mkd P w T.K mg base T 4 "Give" 15 5 f_Give_init_k10z) (f : Addr) (cdv : Value) (A : Around) (outer : List PySem.Env) (s : Shared) (H : Hp) (E : XK)
    (B : Bd T mg P w base 5 (fun cls d _ H => E cls d H) (cxOf (L2.CX P w) P w K mg base N__law_made "_law_made" (defScope s__law_made) f cdv A outer s H E)) :
    JSs T (fun cls d _ H => E cls d H) (cxOf (L2.CX P w) P w K mg base N__law_made "_law_made" (defScope s__law_made) f cdv A outer s H E) (defBody s__law_made) m_made_k10z :=
  have nd := sc__law_made.nd;
    (jss_cons (js_set (i := 1) nd rfl (by first | exact .inl rfl | exact .inr rfl) (je_sl B.toLv (jb_var 0) (jo_some (jb_d jd_int)) jo_none))
    (jss_cons (js_kill [] (js_if (jt_cm (cm_eq B.toLv) (jb_e (je_sub2 B.toLv (jb_var 0) (jb_d jd_int))) (jb_d jd_str))
      (jss_one (js_ret (je_mk B u_Buy (by rfl) (ja_cons (jd_fz (je_sub2 B.toLv (jb_var 1) (jb_d jd_int))) (ja_cons (jd_fz (je_sub2 B.toLv (jb_var 1) (jb_d jd_int))) (ja_cons (jd_fz (je_sub2 B.toLv (jb_var 1) (jb_d jd_int))) (ja_cons (jd_fz (je_sub2 B.toLv (jb_var 1) (jb_d jd_int))) (ja_cons (jd_fz (je_sub2 B.toLv (jb_var 1) (jb_d jd_int))) (ja_cons (jd_fz (je_sub2 B.toLv (jb_var 1) (jb_d jd_int))) ja_nil)))))) (cCons_len (cCons_len (cCons_len (cCons_len (cCons_len (cCons_len len0)))))))))
      jss_nil))
    (jss_cons (js_kill [] (js_if (jt_cm (cm_eq B.toLv) (jb_e (je_sub2 B.toLv (jb_var 0) (jb_d jd_int))) (jb_d jd_str))
      (jss_one (js_ret (je_mk B u_Gift (by rfl) (ja_cons (jd_fz (je_sub2 B.toLv (jb_var 1) (jb_d jd_int))) (ja_cons (jd_fz (je_sub2 B.toLv (jb_var 1) (jb_d jd_int))) (ja_cons (jd_fz (je_sub2 B.toLv (jb_var 1) (jb_d jd_int))) (ja_cons (jd_fz (je_sub2 B.toLv (jb_var 1) (jb_d jd_int))) (ja_cons (jd_fz (je_sub2 B.toLv (jb_var 1) (jb_d jd_int))) (ja_cons (jd_fz (je_sub2 B.toLv (jb_var 1) (jb_d jd_int))) ja_nil)))))) (cCons_len (cCons_len (cCons_len (cCons_len (cCons_len (cCons_len len0)))))))))
      jss_nil))
    (jss_cons (js_kill [] (js_if (jt_cm (cm_eq B.toLv) (jb_e (je_sub2 B.toLv (jb_var 0) (jb_d jd_int))) (jb_d jd_str))
      (jss_one (js_ret (je_mk B u_Split (by rfl) (ja_cons (jd_fz (je_sub2 B.toLv (jb_var 1) (jb_d jd_int))) (ja_cons (jd_fz (je_sub2 B.toLv (jb_var 1) (jb_d jd_int))) (ja_cons (jd_fz (je_sub2 B.toLv (jb_var 1) (jb_d jd_int))) (ja_cons (jd_fz (je_sub2 B.toLv (jb_var 1) (jb_d jd_int))) (ja_cons (jd_fz (je_sub2 B.toLv (jb_var 1) (jb_d jd_int))) ja_nil))))) (cCons_len (cCons_len (cCons_len (cCons_len (cCons_len len0))))))))
      jss_nil))
    (jss_cons (js_kill [] (js_if (jt_cm (cm_eq B.toLv) (jb_e (je_sub2 B.toLv (jb_var 0) (jb_d jd_int))) (jb_d jd_str))
      (jss_one (js_ret (je_mk B u_Parting (by rfl) (ja_cons (jd_fz (je_sub2 B.toLv (jb_var 1) (jb_d jd_int))) (ja_cons (jd_fz (je_sub2 B.toLv (jb_var 1) (jb_d jd_int))) (ja_cons (jd_fz (je_sub2 B.toLv (jb_var 1) (jb_d jd_int))) (ja_cons (jd_fz (je_sub2 B.toLv (jb_var 1) (jb_d jd_int))) (ja_cons (jd_fz (je_sub2 B.toLv (jb_var 1) (jb_d jd_int))) (ja_cons (jd_fz (je_sub2 B.toLv (jb_var 1) (jb_d jd_int))) ja_nil)))))) (cCons_len (cCons_len (cCons_len (cCons_len (cCons_len (cCons_len len0)))))))))
      jss_nil))
    (jss_cons (js_set (i := 2) nd rfl (by first | exact .inl rfl | exact .inr rfl) (je_shr (je_sub2 B.toLv (jb_var 1) (jb_e (je_neg (jb_d jd_int))))))
    (jss_cons (js_kill [] (js_if (jt_cm cm_isnot (jb_var 2) (jb_d jd_non))
      (jss_one (js_set (i := 2) nd rfl (by first | exact .inl rfl | exact .inr rfl) (je_shr (je_callTy B.crList v_list (by rfl) (B.no z_list) (by decide +kernel) (jab_cons (jb_var 2) jab_nil)))))
      jss_nil))
    (jss_cons (js_kill [0] (js_if (jt_cm (cm_eq B.toLv) (jb_e (je_sub2 B.toLv (jb_var 0) (jb_d jd_int))) (jb_d jd_str))
      (jss_one (js_ret (je_mk B u_Sell (by rfl) (ja_cons (jd_fz (je_sub2 B.toLv (jb_var 1) (jb_d jd_int))) (ja_cons (jd_fz (je_sub2 B.toLv (jb_var 1) (jb_d jd_int))) (ja_cons (jd_fz (je_sub2 B.toLv (jb_var 1) (jb_d jd_int))) (ja_cons (jd_fz (je_sub2 B.toLv (jb_var 1) (jb_d jd_int))) (ja_cons (jd_fz (je_sub2 B.toLv (jb_var 1) (jb_d jd_int))) (ja_cons (jd_fz (je_sub2 B.toLv (jb_var 1) (jb_d jd_int))) (ja_cons (jd_var 2) ja_nil))))))) (cCons_len (cCons_len (cCons_len (cCons_len (cCons_len (cCons_len (cCons_len len0))))))))))
      jss_nil))
    (jss_one (js_ret (je_mk B u_Give (by rfl) (ja_cons (jd_fz (je_sub2 B.toLv (jb_var 1) (jb_d jd_int))) (ja_cons (jd_fz (je_sub2 B.toLv (jb_var 1) (jb_d jd_int))) (ja_cons (jd_fz (je_sub2 B.toLv (jb_var 1) (jb_d jd_int))) (ja_cons (jd_fz (je_sub2 B.toLv (jb_var 1) (jb_d jd_int))) (ja_cons (jd_var 2) ja_nil))))) (cCons_len (cCons_len (cCons_len (cCons_len (cCons_len len0))))))))))))))))
theorem b_Entry_word {P : Program} {w : World} {K : PySem.W.Frag} {mg : Str → Option Value} {base : Heap} {T : Tx} (f : Addr) (cdv : Value) (A : Around) (outer : List PySem.Env) (s : Shared) (H : Hp) (E : XK)
    (B : Bd T mg P w base 0 (fun cls d _ H => E cls d H) (cxOf (L2.CX P w) P w K mg base N_Entry_word "Entry.word" (defScope s_Entry_word) f cdv A outer s H E)) :
    JSs T (fun cls d _ H => E cls d H) (cxOf (L2.CX P w) P w K mg base N_Entry_word "Entry.word" (defScope s_Entry_word) f cdv A outer s H E) (defBody s_Entry_word) m_Entry_word :=
  have nd := sc_Entry_word.nd;
    (jss_one (js_ret (je_d jd_str)))
theorem b_Buy_word {P : Program} {w : World} {K : PySem.W.Frag} {mg : Str → Option Value} {base : Heap} {T : Tx} (f : Addr) (cdv : Value) (A : Around) (outer : List PySem.Env) (s : Shared) (H : Hp) (E : XK)
    (B : Bd T mg P w base 0 (fun cls d _ H => E cls d H) (cxOf (L2.CX P w) P w K mg base N_Buy_word "Buy.word" (defScope s_Buy_word) f cdv A outer s H E)) :
    JSs T (fun cls d _ H => E cls d H) (cxOf (L2.CX P w) P w K mg base N_Buy_word "Buy.word" (defScope s_Buy_word) f cdv A outer s H E) (defBody s_Buy_word) m_Buy_word :=
  have nd := sc_Buy_word.nd;
    (jss_one (js_ret (je_d jd_str)))
theorem b_Sell_word {P : Program} {w : World} {K : PySem.W.Frag} {mg : Str → Option Value} {base : Heap} {T : Tx} (f : Addr) (cdv : Value) (A : Around) (outer : List PySem.Env) (s : Shared) (H : Hp) (E : XK)
    (B : Bd T mg P w base 0 (fun cls d _ H => E cls d H) (cxOf (L2.CX P w) P w K mg base N_Sell_word "Sell.word" (defScope s_Sell_word) f cdv A outer s H E)) :
    JSs T (fun cls d _ H => E cls d H) (cxOf (L2.CX P w) P w K mg base N_Sell_word "Sell.word" (defScope s_Sell_word) f cdv A outer s H E) (defBody s_Sell_word) m_Sell_word :=
  have nd := sc_Sell_word.nd;
    (jss_one (js_ret (je_d jd_str)))
theorem b_Gift_word {P : Program} {w : World} {K : PySem.W.Frag} {mg : Str → Option Value} {base : Heap} {T : Tx} (f : Addr) (cdv : Value) (A : Around) (outer : List PySem.Env) (s : Shared) (H : Hp) (E : XK)
    (B : Bd T mg P w base 0 (fun cls d _ H => E cls d H) (cxOf (L2.CX P w) P w K mg base N_Gift_word "Gift.word" (defScope s_Gift_word) f cdv A outer s H E)) :
    JSs T (fun cls d _ H => E cls d H) (cxOf (L2.CX P w) P w K mg base N_Gift_word "Gift.word" (defScope s_Gift_word) f cdv A outer s H E) (defBody s_Gift_word) m_Gift_word :=
  have nd := sc_Gift_word.nd;
    (jss_one (js_ret (je_d jd_str)))
theorem b_Give_word {P : Program} {w : World} {K : PySem.W.Frag} {mg : Str → Option Value} {base : Heap} {T : Tx} (f : Addr) (cdv : Value) (A : Around) (outer : List PySem.Env) (s : Shared) (H : Hp) (E : XK)
    (B : Bd T mg P w base 0 (fun cls d _ H => E cls d H) (cxOf (L2.CX P w) P w K mg base N_Give_word "Give.word" (defScope s_Give_word) f cdv A outer s H E)) :
    JSs T (fun cls d _ H => E cls d H) (cxOf (L2.CX P w) P w K mg base N_Give_word "Give.word" (defScope s_Give_word) f cdv A outer s H E) (defBody s_Give_word) m_Give_word :=
  have nd := sc_Give_word.nd;
    (jss_one (js_ret (je_d jd_str)))
theorem b_Split_word {P : Program} {w : World} {K : PySem.W.Frag} {mg : Str → Option Value} {base : Heap} {T : Tx} (f : Addr) (cdv : Value) (A : Around) (outer : List PySem.Env) (s : Shared) (H : Hp) (E : XK)
    (B : Bd T mg P w base 0 (fun cls d _ H => E cls d H) (cxOf (L2.CX P w) P w K mg base N_Split_word "Split.word" (defScope s_Split_word) f cdv A outer s H E)) :
    JSs T (fun cls d _ H => E cls d H) (cxOf (L2.CX P w) P w K mg base N_Split_word "Split.word" (defScope s_Split_word) f cdv A outer s H E) (defBody s_Split_word) m_Split_word :=
  have nd := sc_Split_word.nd;
    (jss_one (js_ret (je_d jd_str)))
theorem b_Parting_word {P : Program} {w : World} {K : PySem.W.Frag} {mg : Str → Option Value} {base : Heap} {T : Tx} (f : Addr) (cdv : Value) (A : Around) (outer : List PySem.Env) (s : Shared) (H : Hp) (E : XK)
    (B : Bd T mg P w base 0 (fun cls d _ H => E cls d H) (cxOf (L2.CX P w) P w K mg base N_Parting_word "Parting.word" (defScope s_Parting_word) f cdv A outer s H E)) :
    JSs T (fun cls d _ H => E cls d H) (cxOf (L2.CX P w) P w K mg base N_Parting_word "Parting.word" (defScope s_Parting_word) f cdv A outer s H E) (defBody s_Parting_word) m_Parting_word :=
  have nd := sc_Parting_word.nd;
    (jss_one (js_ret (je_d jd_str)))
theorem b_Entry_told {P : Program} {w : World} {K : PySem.W.Frag} {mg : Str → Option Value} {base : Heap} {T : Tx} (cl_Entry : Cls T.K (T.cls 11)) (na_Entry_ware : NoAttr T.K (T.cls 11) "ware") (cl_Buy : Cls T.K (T.cls 12)) (na_Buy_ware : NoAttr T.K (T.cls 12) "ware") (cl_Sell : Cls T.K (T.cls 13)) (na_Sell_ware : NoAttr T.K (T.cls 13) "ware") (cl_Gift : Cls T.K (T.cls 14)) (na_Gift_ware : NoAttr T.K (T.cls 14) "ware") (cl_Give : Cls T.K (T.cls 15)) (na_Give_ware : NoAttr T.K (T.cls 15) "ware") (cl_Split : Cls T.K (T.cls 16)) (na_Split_ware : NoAttr T.K (T.cls 16) "ware") (cl_Parting : Cls T.K (T.cls 17)) (na_Parting_ware : NoAttr T.K (T.cls 17) "ware") (na_Entry_number : NoAttr T.K (T.cls 11) "number") (na_Buy_number : NoAttr T.K (T.cls 12) "number") (na_Sell_number : NoAttr T.K (T.cls 13) "number") (na_Gift_number : NoAttr T.K (T.cls 14) "number") (na_Give_number : NoAttr T.K (T.cls 15) "number") (na_Split_number : NoAttr T.K (T.cls 16) "number") (na_Parting_number : NoAttr T.K (T.cls 17) "number") (na_Entry_day : NoAttr T.K (T.cls 11) "day") (na_Buy_day : NoAttr T.K (T.cls 12) "day") (na_Sell_day : NoAttr T.K (T.cls 13) "day") (na_Gift_day : NoAttr T.K (T.cls 14) "day") (na_Give_day : NoAttr T.K (T.cls 15) "day") (na_Split_day : NoAttr T.K (T.cls 16) "day") (na_Parting_day : NoAttr T.K (T.cls 17) "day") (mt_Entry_word : Mt P w T.K mg base T 1 11 "word" 1 f_Entry_word) (mt_Buy_word : Mt P w T.K mg base T 1 12 "word" 1 f_Buy_word) (mt_Sell_word : Mt P w T.K mg base T 1 13 "word" 1 f_Sell_word) (mt_Gift_word : Mt P w T.K mg base T 1 14 "word" 1 f_Gift_word) (mt_Give_word : Mt P w T.K mg base T 1 15 "word" 1 f_Give_word) (mt_Split_word : Mt P w T.K mg base T 1 16 "word" 1 f_Split_word) (mt_Parting_word : Mt P w T.K mg base T 1 17 "word" 1 f_Parting_word) (f : Addr) (cdv : Value) (A : Around) (outer : List PySem.Env) (s : Shared) (H : Hp) (E : XK)
    (B : Bd T mg P w base 1 (fun cls d _ H => E cls d H) (cxOf (L2.CX P w) P w K mg base N_Entry_told "Entry.told" (defScope s_Entry_told) f cdv A outer s H E)) :
    JSs T (fun cls d _ H => E cls d H) (cxOf (L2.CX P w) P w K mg base N_Entry_told "Entry.told" (defScope s_Entry_told) f cdv A outer s H E) (defBody s_Entry_told) m_Entry_told :=
  have nd := sc_Entry_told.nd;
    (jss_one (js_ret (je_d (jd_tup (ja_cons (jd_fz (je_meth0 (disp := (tabF [(11, f_Entry_word), (12, f_Buy_word), (13, f_Sell_word), (14, f_Gift_word), (15, f_Give_word), (16, f_Split_word), (17, f_Parting_word)])) B (tabF_all ⟨mt_Entry_word, ⟨mt_Buy_word, ⟨mt_Sell_word, ⟨mt_Gift_word, ⟨mt_Give_word, ⟨mt_Split_word, ⟨mt_Parting_word, trivial⟩⟩⟩⟩⟩⟩⟩) (jd_var 0))) (ja_cons (jd_fld B.toLv (fld_cons ⟨cl_Entry, na_Entry_day⟩ (fld_cons ⟨cl_Buy, na_Buy_day⟩ (fld_cons ⟨cl_Sell, na_Sell_day⟩ (fld_cons ⟨cl_Gift, na_Gift_day⟩ (fld_cons ⟨cl_Give, na_Give_day⟩ (fld_cons ⟨cl_Split, na_Split_day⟩ (fld_cons ⟨cl_Parting, na_Parting_day⟩ fld_nil))))))) (jb_var 0)) (ja_cons (jd_fld B.toLv (fld_cons ⟨cl_Entry, na_Entry_number⟩ (fld_cons ⟨cl_Buy, na_Buy_number⟩ (fld_cons ⟨cl_Sell, na_Sell_number⟩ (fld_cons ⟨cl_Gift, na_Gift_number⟩ (fld_cons ⟨cl_Give, na_Give_number⟩ (fld_cons ⟨cl_Split, na_Split_number⟩ (fld_cons ⟨cl_Parting, na_Parting_number⟩ fld_nil))))))) (jb_var 0)) (ja_cons (jd_fld B.toLv (fld_cons ⟨cl_Entry, na_Entry_ware⟩ (fld_cons ⟨cl_Buy, na_Buy_ware⟩ (fld_cons ⟨cl_Sell, na_Sell_ware⟩ (fld_cons ⟨cl_Gift, na_Gift_ware⟩ (fld_cons ⟨cl_Give, na_Give_ware⟩ (fld_cons ⟨cl_Split, na_Split_ware⟩ (fld_cons ⟨cl_Parting, na_Parting_ware⟩ fld_nil))))))) (jb_var 0)) ja_nil))))))))
theorem b_Buy_told {P : Program} {w : World} {K : PySem.W.Frag} {mg : Str → Option Value} {base : Heap} {T : Tx} (cl_Buy : Cls T.K (T.cls 12)) (na_Buy_fee : NoAttr T.K (T.cls 12) "fee") (na_Buy_price : NoAttr T.K (T.cls 12) "price") (na_Buy_pieces : NoAttr T.K (T.cls 12) "pieces") (dc_Entry_told : Dcl P w T.K mg base T 2 "Entry" "told" 1 f_Entry_told) (f : Addr) (cdv : Value) (A : Around) (outer : List PySem.Env) (s : Shared) (H : Hp) (E : XK)
    (B : Bd T mg P w base 2 (fun cls d _ H => E cls d H) (cxOf (L2.CX P w) P w K mg base N_Buy_told "Buy.told" (defScope s_Buy_told) f cdv A outer s H E)) :
    JSs T (fun cls d _ H => E cls d H) (cxOf (L2.CX P w) P w K mg base N_Buy_told "Buy.told" (defScope s_Buy_told) f cdv A outer s H E) (defBody s_Buy_told) m_Buy_told :=
  have nd := sc_Buy_told.nd;
    (jss_one (js_ret (je_add B.toLv (jb_e (je_clm B dc_Entry_told (by rfl) (ja_cons (jd_var 0) ja_nil) (cCons_len len0))) (jb_d (jd_tup (ja_cons (jd_fld B.toLv (fld_cons ⟨cl_Buy, na_Buy_pieces⟩ fld_nil) (jb_var 0)) (ja_cons (jd_fld B.toLv (fld_cons ⟨cl_Buy, na_Buy_price⟩ fld_nil) (jb_var 0)) (ja_cons (jd_fld B.toLv (fld_cons ⟨cl_Buy, na_Buy_fee⟩ fld_nil) (jb_var 0)) ja_nil))))))))
theorem b_named_told {P : Program} {w : World} {K : PySem.W.Frag} {mg : Str → Option Value} {base : Heap} {T : Tx} (z_tuple : mg "tuple" = none) (f : Addr) (cdv : Value) (A : Around) (outer : List PySem.Env) (s : Shared) (H : Hp) (E : XK)
    (B : Bd T mg P w base 0 (fun cls d _ H => E cls d H) (cxOf (L2.CX P w) P w K mg base N_named_told "named_told" (defScope s_named_told) f cdv A outer s H E)) :
    JSs T (fun cls d _ H => E cls d H) (cxOf (L2.CX P w) P w K mg base N_named_told "named_told" (defScope s_named_told) f cdv A outer s H E) (defBody s_named_told) m_named_told :=
  have nd := sc_named_told.nd;
    (jss_cons (js_kill [] (js_if (jt_cm cm_is (jb_var 0) (jb_d jd_non))
      (jss_one (js_ret (je_d jd_non)))
      jss_nil))
    (jss_one (js_ret (je_callTy (B.toLv.crTuple) v_tuple (by rfl) (B.no z_tuple) (by decide +kernel) (jab_cons (jb_var 0) jab_nil)))))
theorem b_Sell_told {P : Program} {w : World} {K : PySem.W.Frag} {mg : Str → Option Value} {base : Heap} {T : Tx} (cl_Sell : Cls T.K (T.cls 13)) (na_Sell_named : NoAttr T.K (T.cls 13) "named") (na_Sell_fee : NoAttr T.K (T.cls 13) "fee") (na_Sell_price : NoAttr T.K (T.cls 13) "price") (na_Sell_pieces : NoAttr T.K (T.cls 13) "pieces") (d_named_told : Def P w T.K mg base T 2 "named_told" 1 f_named_told) (dc_Entry_told : Dcl P w T.K mg base T 2 "Entry" "told" 1 f_Entry_told) (f : Addr) (cdv : Value) (A : Around) (outer : List PySem.Env) (s : Shared) (H : Hp) (E : XK)
    (B : Bd T mg P w base 2 (fun cls d _ H => E cls d H) (cxOf (L2.CX P w) P w K mg base N_Sell_told "Sell.told" (defScope s_Sell_told) f cdv A outer s H E)) :
    JSs T (fun cls d _ H => E cls d H) (cxOf (L2.CX P w) P w K mg base N_Sell_told "Sell.told" (defScope s_Sell_told) f cdv A outer s H E) (defBody s_Sell_told) m_Sell_told :=
  have nd := sc_Sell_told.nd;
    (jss_one (js_ret (je_add B.toLv (jb_e (je_clm B dc_Entry_told (by rfl) (ja_cons (jd_var 0) ja_nil) (cCons_len len0))) (jb_d (jd_tup (ja_cons (jd_fld B.toLv (fld_cons ⟨cl_Sell, na_Sell_pieces⟩ fld_nil) (jb_var 0)) (ja_cons (jd_fld B.toLv (fld_cons ⟨cl_Sell, na_Sell_price⟩ fld_nil) (jb_var 0)) (ja_cons (jd_fld B.toLv (fld_cons ⟨cl_Sell, na_Sell_fee⟩ fld_nil) (jb_var 0)) (ja_cons (jd_fz (je_call B d_named_told (by rfl) (ja_cons (jd_fld B.toLv (fld_cons ⟨cl_Sell, na_Sell_named⟩ fld_nil) (jb_var 0)) ja_nil) (hlen := (cCons_len len0)))) ja_nil)))))))))
theorem b_Gift_told {P : Program} {w : World} {K : PySem.W.Frag} {mg : Str → Option Value} {base : Heap} {T : Tx} (cl_Gift : Cls T.K (T.cls 14)) (na_Gift_since : NoAttr T.K (T.cls 14) "since") (na_Gift_cost : NoAttr T.K (T.cls 14) "cost") (na_Gift_pieces : NoAttr T.K (T.cls 14) "pieces") (dc_Entry_told : Dcl P w T.K mg base T 2 "Entry" "told" 1 f_Entry_told) (f : Addr) (cdv : Value) (A : Around) (outer : List PySem.Env) (s : Shared) (H : Hp) (E : XK)
    (B : Bd T mg P w base 2 (fun cls d _ H => E cls d H) (cxOf (L2.CX P w) P w K mg base N_Gift_told "Gift.told" (defScope s_Gift_told) f cdv A outer s H E)) :
    JSs T (fun cls d _ H => E cls d H) (cxOf (L2.CX P w) P w K mg base N_Gift_told "Gift.told" (defScope s_Gift_told) f cdv A outer s H E) (defBody s_Gift_told) m_Gift_told :=
  have nd := sc_Gift_told.nd;
    (jss_one (js_ret (je_add B.toLv (jb_e (je_clm B dc_Entry_told (by rfl) (ja_cons (jd_var 0) ja_nil) (cCons_len len0))) (jb_d (jd_tup (ja_cons (jd_fld B.toLv (fld_cons ⟨cl_Gift, na_Gift_pieces⟩ fld_nil) (jb_var 0)) (ja_cons (jd_fld B.toLv (fld_cons ⟨cl_Gift, na_Gift_cost⟩ fld_nil) (jb_var 0)) (ja_cons (jd_fld B.toLv (fld_cons ⟨cl_Gift, na_Gift_since⟩ fld_nil) (jb_var 0)) ja_nil))))))))
theorem b_Give_told {P : Program} {w : World} {K : PySem.W.Frag} {mg : Str → Option Value} {base : Heap} {T : Tx} (cl_Give : Cls T.K (T.cls 15)) (na_Give_named : NoAttr T.K (T.cls 15) "named") (na_Give_pieces : NoAttr T.K (T.cls 15) "pieces") (d_named_told : Def P w T.K mg base T 2 "named_told" 1 f_named_told) (dc_Entry_told : Dcl P w T.K mg base T 2 "Entry" "told" 1 f_Entry_told) (f : Addr) (cdv : Value) (A : Around) (outer : List PySem.Env) (s : Shared) (H : Hp) (E : XK)
    (B : Bd T mg P w base 2 (fun cls d _ H => E cls d H) (cxOf (L2.CX P w) P w K mg base N_Give_told "Give.told" (defScope s_Give_told) f cdv A outer s H E)) :
    JSs T (fun cls d _ H => E cls d H) (cxOf (L2.CX P w) P w K mg base N_Give_told "Give.told" (defScope s_Give_told) f cdv A outer s H E) (defBody s_Give_told) m_Give_told :=
  have nd := sc_Give_told.nd;
    (jss_one (js_ret (je_add B.toLv (jb_e (je_clm B dc_Entry_told (by rfl) (ja_cons (jd_var 0) ja_nil) (cCons_len len0))) (jb_d (jd_tup (ja_cons (jd_fld B.toLv (fld_cons ⟨cl_Give, na_Give_pieces⟩ fld_nil) (jb_var 0)) (ja_cons (jd_fz (je_call B d_named_told (by rfl) (ja_cons (jd_fld B.toLv (fld_cons ⟨cl_Give, na_Give_named⟩ fld_nil) (jb_var 0)) ja_nil) (hlen := (cCons_len len0)))) ja_nil)))))))
theorem b_Split_told {P : Program} {w : World} {K : PySem.W.Frag} {mg : Str → Option Value} {base : Heap} {T : Tx} (cl_Split : Cls T.K (T.cls 16)) (na_Split_of : NoAttr T.K (T.cls 16) "of") (na_Split_many : NoAttr T.K (T.cls 16) "many") (dc_Entry_told : Dcl P w T.K mg base T 2 "Entry" "told" 1 f_Entry_told) (f : Addr) (cdv : Value) (A : Around) (outer : List PySem.Env) (s : Shared) (H : Hp) (E : XK)
    (B : Bd T mg P w base 2 (fun cls d _ H => E cls d H) (cxOf (L2.CX P w) P w K mg base N_Split_told "Split.told" (defScope s_Split_told) f cdv A outer s H E)) :
    JSs T (fun cls d _ H => E cls d H) (cxOf (L2.CX P w) P w K mg base N_Split_told "Split.told" (defScope s_Split_told) f cdv A outer s H E) (defBody s_Split_told) m_Split_told :=
  have nd := sc_Split_told.nd;
    (jss_one (js_ret (je_add B.toLv (jb_e (je_clm B dc_Entry_told (by rfl) (ja_cons (jd_var 0) ja_nil) (cCons_len len0))) (jb_d (jd_tup (ja_cons (jd_fld B.toLv (fld_cons ⟨cl_Split, na_Split_many⟩ fld_nil) (jb_var 0)) (ja_cons (jd_fld B.toLv (fld_cons ⟨cl_Split, na_Split_of⟩ fld_nil) (jb_var 0)) ja_nil)))))))
theorem b_Parting_told {P : Program} {w : World} {K : PySem.W.Frag} {mg : Str → Option Value} {base : Heap} {T : Tx} (cl_Parting : Cls T.K (T.cls 17)) (na_Parting_whole : NoAttr T.K (T.cls 17) "whole") (na_Parting_share : NoAttr T.K (T.cls 17) "share") (na_Parting_other : NoAttr T.K (T.cls 17) "other") (dc_Entry_told : Dcl P w T.K mg base T 2 "Entry" "told" 1 f_Entry_told) (f : Addr) (cdv : Value) (A : Around) (outer : List PySem.Env) (s : Shared) (H : Hp) (E : XK)
    (B : Bd T mg P w base 2 (fun cls d _ H => E cls d H) (cxOf (L2.CX P w) P w K mg base N_Parting_told "Parting.told" (defScope s_Parting_told) f cdv A outer s H E)) :
    JSs T (fun cls d _ H => E cls d H) (cxOf (L2.CX P w) P w K mg base N_Parting_told "Parting.told" (defScope s_Parting_told) f cdv A outer s H E) (defBody s_Parting_told) m_Parting_told :=
  have nd := sc_Parting_told.nd;
    (jss_one (js_ret (je_add B.toLv (jb_e (je_clm B dc_Entry_told (by rfl) (ja_cons (jd_var 0) ja_nil) (cCons_len len0))) (jb_d (jd_tup (ja_cons (jd_fld B.toLv (fld_cons ⟨cl_Parting, na_Parting_other⟩ fld_nil) (jb_var 0)) (ja_cons (jd_fld B.toLv (fld_cons ⟨cl_Parting, na_Parting_share⟩ fld_nil) (jb_var 0)) (ja_cons (jd_fld B.toLv (fld_cons ⟨cl_Parting, na_Parting_whole⟩ fld_nil) (jb_var 0)) ja_nil))))))))
theorem b__law_right {P : Program} {w : World} {K : PySem.W.Frag} {mg : Str → Option Value} {base : Heap} {T : Tx} (z_isinstance : mg "isinstance" = none) (z_list : mg "list" = none) (z_tuple : mg "tuple" = none) (cl_Buy : Cls T.K (T.cls 12)) (na_Buy_ware : NoAttr T.K (T.cls 12) "ware") (cl_Sell : Cls T.K (T.cls 13)) (na_Sell_ware : NoAttr T.K (T.cls 13) "ware") (cl_Gift : Cls T.K (T.cls 14)) (na_Gift_ware : NoAttr T.K (T.cls 14) "ware") (cl_Give : Cls T.K (T.cls 15)) (na_Give_ware : NoAttr T.K (T.cls 15) "ware") (cl_Split : Cls T.K (T.cls 16)) (na_Split_ware : NoAttr T.K (T.cls 16) "ware") (cl_Parting : Cls T.K (T.cls 17)) (na_Parting_ware : NoAttr T.K (T.cls 17) "ware") (na_Buy_number : NoAttr T.K (T.cls 12) "number") (na_Sell_number : NoAttr T.K (T.cls 13) "number") (na_Gift_number : NoAttr T.K (T.cls 14) "number") (na_Give_number : NoAttr T.K (T.cls 15) "number") (na_Split_number : NoAttr T.K (T.cls 16) "number") (na_Parting_number : NoAttr T.K (T.cls 17) "number") (na_Buy_day : NoAttr T.K (T.cls 12) "day") (na_Sell_day : NoAttr T.K (T.cls 13) "day") (na_Gift_day : NoAttr T.K (T.cls 14) "day") (na_Give_day : NoAttr T.K (T.cls 15) "day") (na_Split_day : NoAttr T.K (T.cls 16) "day") (na_Parting_day : NoAttr T.K (T.cls 17) "day") (if_Buy : InsF T.K (T.cls 12)) (k_Buy_Entry : PySem.W.kitOne T.K (.ref (T.cls 12)) (.ref (T.cls 11)) = some true) (if_Sell : InsF T.K (T.cls 13)) (k_Sell_Entry : PySem.W.kitOne T.K (.ref (T.cls 13)) (.ref (T.cls 11)) = some true) (if_Gift : InsF T.K (T.cls 14)) (k_Gift_Entry : PySem.W.kitOne T.K (.ref (T.cls 14)) (.ref (T.cls 11)) = some true) (if_Give : InsF T.K (T.cls 15)) (k_Give_Entry : PySem.W.kitOne T.K (.ref (T.cls 15)) (.ref (T.cls 11)) = some true) (if_Split : InsF T.K (T.cls 16)) (k_Split_Entry : PySem.W.kitOne T.K (.ref (T.cls 16)) (.ref (T.cls 11)) = some true) (if_Parting : InsF T.K (T.cls 17)) (k_Parting_Entry : PySem.W.kitOne T.K (.ref (T.cls 17)) (.ref (T.cls 11)) = some true) (g_Entry : mg "Entry" = some (.ref (T.cls 11))) (na_Sell_named : NoAttr T.K (T.cls 13) "named") (na_Give_named : NoAttr T.K (T.cls 15) "named") (mt_Buy_told : Mt P w T.K mg base T 6 12 "told" 1 f_Buy_told) (mt_Sell_told : Mt P w T.K mg base T 6 13 "told" 1 f_Sell_told) (mt_Gift_told : Mt P w T.K mg base T 6 14 "told" 1 f_Gift_told) (mt_Give_told : Mt P w T.K mg base T 6 15 "told" 1 f_Give_told) (mt_Split_told : Mt P w T.K mg base T 6 16 "told" 1 f_Split_told) (mt_Parting_told : Mt P w T.K mg base T 6 17 "told" 1 f_Parting_told) (mt_Buy_word : Mt P w T.K mg base T 6 12 "word" 1 f_Buy_word) (mt_Sell_word : Mt P w T.K mg base T 6 13 "word" 1 f_Sell_word) (mt_Gift_word : Mt P w T.K mg base T 6 14 "word" 1 f_Gift_word) (mt_Give_word : Mt P w T.K mg base T 6 15 "word" 1 f_Give_word) (mt_Split_word : Mt P w T.K mg base T 6 16 "word" 1 f_Split_word) (mt_Parting_word : Mt P w T.K mg base T 6 17 "word" 1 f_Parting_word) (u_Give_4_named : MkdK P w T.K mg base T 5 "Give" 15 5 4 ["named"] [] f_Give_init_k10z) (u_Sell_5_fee_named : MkdK P w T.K mg base T 5 "Sell" 13 7 5 ["fee", "named"] [] f_Sell_init_k10z) (d__law_fields : Def P w T.K mg base T 6 "_law_fields" 2 f_fields_k10) (d__law_kinds : Def P w T.K mg base T 6 "_law_kinds" 1 f_kinds_k10) (d__law_made : Def P w T.K mg base T 6 "_law_made" 1 f_made_k10z) (f : Addr) (cdv : Value) (A : Around) (outer : List PySem.Env) (s : Shared) (H : Hp) (E : XK)
    (B : Bd T mg P w base 6 (fun cls d _ H => E cls d H) (cxOf (L2.CX P w) P w K mg base N__law_right "_law_right" (defScope s__law_right) f cdv A outer s H E)) :
    JSs T (fun cls d _ H => E cls d H) (cxOf (L2.CX P w) P w K mg base N__law_right "_law_right" (defScope s__law_right) f cdv A outer s H E) (defBody s__law_right) m_right_k10z :=
  have nd := sc__law_right.nd;
    (jss_cons (js_set (i := 1) nd rfl (by first | exact .inl rfl | exact .inr rfl) (je_call B d__law_made (by rfl) (ja_cons (jd_var 0) ja_nil) (hlen := (cCons_len len0))))
    (jss_cons (js_frz 1 (js_kill [] (js_if (jt_w (jw_or (jt_cm (cm_ne B.toLv) (jb_e (je_lst (ja_cons (jd_fld B.toLv (fld_cons ⟨cl_Buy, na_Buy_day⟩ (fld_cons ⟨cl_Sell, na_Sell_day⟩ (fld_cons ⟨cl_Gift, na_Gift_day⟩ (fld_cons ⟨cl_Give, na_Give_day⟩ (fld_cons ⟨cl_Split, na_Split_day⟩ (fld_cons ⟨cl_Parting, na_Parting_day⟩ fld_nil)))))) (jb_var 1)) (ja_cons (jd_fld B.toLv (fld_cons ⟨cl_Buy, na_Buy_number⟩ (fld_cons ⟨cl_Sell, na_Sell_number⟩ (fld_cons ⟨cl_Gift, na_Gift_number⟩ (fld_cons ⟨cl_Give, na_Give_number⟩ (fld_cons ⟨cl_Split, na_Split_number⟩ (fld_cons ⟨cl_Parting, na_Parting_number⟩ fld_nil)))))) (jb_var 1)) (ja_cons (jd_fld B.toLv (fld_cons ⟨cl_Buy, na_Buy_ware⟩ (fld_cons ⟨cl_Sell, na_Sell_ware⟩ (fld_cons ⟨cl_Gift, na_Gift_ware⟩ (fld_cons ⟨cl_Give, na_Give_ware⟩ (fld_cons ⟨cl_Split, na_Split_ware⟩ (fld_cons ⟨cl_Parting, na_Parting_ware⟩ fld_nil)))))) (jb_var 1)) ja_nil))))) (jb_e (je_callTy B.crList v_list (by rfl) (B.no z_list) (by decide +kernel) (jab_cons (jb_e (je_sl B.toLv (jb_var 0) (jo_some (jb_d jd_int)) (jo_some (jb_d jd_int)))) jab_nil)))) (jw_or1 (jt_not (jt_e (jb_e (je_call B d__law_fields (by rfl) (ja_cons (jd_var 1) (ja_cons (jd_var 0) ja_nil)) (hlen := (cCons_len (cCons_len len0))))))))))
      (jss_one (js_ret (je_d jd_bl)))
      jss_nil)))
    (jss_cons (js_set (i := 2) nd rfl (by first | exact .inl rfl | exact .inr rfl) (je_lst (ja_cons jd_str (ja_cons jd_str (ja_cons jd_str (ja_cons jd_str (ja_cons jd_str (ja_cons jd_str ja_nil))))))))
    (jss_cons (js_frz 2 (js_kill [2] (js_if (jt_w (jw_or (jt_not (jt_e (jb_e (je_isO (D := 11) (tst := (tab [(12, true), (13, true), (14, true), (15, true), (16, true), (17, true)])) B.toLv (tab_all ⟨⟨if_Buy, k_Buy_Entry⟩, ⟨⟨if_Sell, k_Sell_Entry⟩, ⟨⟨if_Gift, k_Gift_Entry⟩, ⟨⟨if_Give, k_Give_Entry⟩, ⟨⟨if_Split, k_Split_Entry⟩, ⟨⟨if_Parting, k_Parting_Entry⟩, trivial⟩⟩⟩⟩⟩⟩) (by rfl) (B.no z_isinstance) (jb_var 1) (by rfl) (B.yes g_Entry))))) (jw_or1 (jt_cm (cm_ne B.toLv) (jb_e (je_call B d__law_kinds (by rfl) (ja_cons (jd_var 1) ja_nil) (hlen := (cCons_len len0)))) (jb_e (je_lc (own := [("_law_word", 5)]) B.toLv B.calm nd (ji_seq B.toLv (jd_var 2)) (blkOk_by (N := N__law_right) (sc := defScope s__law_right) (by decide +kernel)) (fun _ _ _ _ _ => (jgc_name (i := 5) nd rfl (by first | exact .inl rfl | exact .inr rfl))) (fun _ _ _ _ _ => jts_nil) (fun _ _ _ _ _ => (jd_fz (je_cm (cm_eq B.blk.toLv) (jb_var 5) (jb_e (je_sub2 B.blk.toLv (jb_var 0) (jb_d jd_int))))))))))))
      (jss_one (js_ret (je_d jd_bl)))
      jss_nil)))
    (jss_cons (js_kill [] (js_if (jt_w (jw_or (jt_cm (cm_ne B.toLv) (jb_e (je_meth0 (disp := (tabF [(12, f_Buy_word), (13, f_Sell_word), (14, f_Gift_word), (15, f_Give_word), (16, f_Split_word), (17, f_Parting_word)])) B (tabF_all ⟨mt_Buy_word, ⟨mt_Sell_word, ⟨mt_Gift_word, ⟨mt_Give_word, ⟨mt_Split_word, ⟨mt_Parting_word, trivial⟩⟩⟩⟩⟩⟩) (jd_var 1))) (jb_e (je_sub2 B.toLv (jb_var 0) (jb_d jd_int)))) (jw_or (jt_not (jt_e (jb_e (je_isTy (b := "tuple") B.toLv (by decide) (by rfl) (B.no z_isinstance) (by rfl) (B.no z_tuple) (by decide +kernel) (jb_e (je_meth0 (disp := (tabF [(12, f_Buy_told), (13, f_Sell_told), (14, f_Gift_told), (15, f_Give_told), (16, f_Split_told), (17, f_Parting_told)])) B (tabF_all ⟨mt_Buy_told, ⟨mt_Sell_told, ⟨mt_Gift_told, ⟨mt_Give_told, ⟨mt_Split_told, ⟨mt_Parting_told, trivial⟩⟩⟩⟩⟩⟩) (jd_var 1))))))) (jw_or1 (jt_cm (cm_ne B.toLv) (jb_e (je_meth0 (disp := (tabF [(12, f_Buy_told), (13, f_Sell_told), (14, f_Gift_told), (15, f_Give_told), (16, f_Split_told), (17, f_Parting_told)])) B (tabF_all ⟨mt_Buy_told, ⟨mt_Sell_told, ⟨mt_Gift_told, ⟨mt_Give_told, ⟨mt_Split_told, ⟨mt_Parting_told, trivial⟩⟩⟩⟩⟩⟩) (jd_var 1))) (jb_var 0))))))
      (jss_one (js_ret (je_d jd_bl)))
      jss_nil))
    (jss_cons (js_kill [3, 4] (js_if (jt_w (jw_and (jt_cm (cm_in B.toLv) (jb_e (je_sub2 B.toLv (jb_var 0) (jb_d jd_int))) (jb_d (jd_tup (ja_cons jd_str (ja_cons jd_str ja_nil))))) (jw_and1 (jt_cm cm_isnot (jb_e (je_sub2 B.toLv (jb_var 0) (jb_e (je_neg (jb_d jd_int))))) (jb_d jd_non)))))
      (jss_cons (js_kill [1] (js_if (jt_w (jw_or (jt_not (jt_e (jb_e (je_isTy (b := "list") B.toLv (by decide) (by rfl) (B.no z_isinstance) (by rfl) (B.no z_list) (by decide +kernel) (jb_d (jd_fld B.toLv (fld_cons ⟨cl_Sell, na_Sell_named⟩ (fld_cons ⟨cl_Give, na_Give_named⟩ fld_nil)) (jb_var 1))))))) (jw_or1 (jt_cm (cm_ne B.toLv) (jb_d (jd_fld B.toLv (fld_cons ⟨cl_Sell, na_Sell_named⟩ (fld_cons ⟨cl_Give, na_Give_named⟩ fld_nil)) (jb_var 1))) (jb_e (je_callTy B.crList v_list (by rfl) (B.no z_list) (by decide +kernel) (jab_cons (jb_e (je_sub2 B.toLv (jb_var 0) (jb_e (je_neg (jb_d jd_int))))) jab_nil)))))))
        (jss_one (js_ret (je_d jd_bl)))
        jss_nil))
      (jss_cons (js_set (i := 3) nd rfl (by first | exact .inl rfl | exact .inr rfl) (je_shr (je_callTy B.crList v_list (by rfl) (B.no z_list) (by decide +kernel) (jab_cons (jb_e (je_sub2 B.toLv (jb_var 0) (jb_e (je_neg (jb_d jd_int))))) jab_nil))))
      (jss_cons (js_set (i := 4) nd rfl (by first | exact .inl rfl | exact .inr rfl) (je_mkK B u_Give_4_named (by rfl) (ja_cons (jd_fz (je_sub2 B.toLv (jb_var 0) (jb_d jd_int))) (ja_cons (jd_fz (je_sub2 B.toLv (jb_var 0) (jb_d jd_int))) (ja_cons (jd_fz (je_sub2 B.toLv (jb_var 0) (jb_d jd_int))) (ja_cons (jd_fz (je_sub2 B.toLv (jb_var 0) (jb_d jd_int))) ja_nil)))) (jk_cons (jd_var 3) jk_nil) (cCons_len (cCons_len (cCons_len (cCons_len len0)))) (cCons_len len0)))
      (jss_cons (js_kill [] (js_if (jt_cm (cm_eq B.toLv) (jb_e (je_sub2 B.toLv (jb_var 0) (jb_d jd_int))) (jb_d jd_str))
        (jss_one (js_set (i := 4) nd rfl (by first | exact .inl rfl | exact .inr rfl) (je_mkK B u_Sell_5_fee_named (by rfl) (ja_cons (jd_fz (je_sub2 B.toLv (jb_var 0) (jb_d jd_int))) (ja_cons (jd_fz (je_sub2 B.toLv (jb_var 0) (jb_d jd_int))) (ja_cons (jd_fz (je_sub2 B.toLv (jb_var 0) (jb_d jd_int))) (ja_cons (jd_fz (je_sub2 B.toLv (jb_var 0) (jb_d jd_int))) (ja_cons (jd_fz (je_sub2 B.toLv (jb_var 0) (jb_d jd_int))) ja_nil))))) (jk_cons (jd_fz (je_sub2 B.toLv (jb_var 0) (jb_d jd_int))) (jk_cons (jd_var 3) jk_nil)) (cCons_len (cCons_len (cCons_len (cCons_len (cCons_len len0))))) (cCons_len (cCons_len len0)))))
        jss_nil))
      (jss_cons (js_mut (i := 3) B.toLv PySem.F.plainAttrs_list PySem.F.slot_list_append PySem.F.type_list_append mt_append v_append ty_append rfl (by first | exact .inl rfl | exact .inr (.inl rfl)) (ja_cons (jd_tup (ja_cons jd_int (ja_cons jd_int ja_nil))) ja_nil))
      (jss_cons (js_frz 4 (js_kill [] (js_if (jt_w (jw_or (jt_cm (cm_ne B.toLv) (jb_d (jd_fld B.toLv (fld_cons ⟨cl_Sell, na_Sell_named⟩ (fld_cons ⟨cl_Give, na_Give_named⟩ fld_nil)) (jb_var 4))) (jb_e (je_callTy B.crList v_list (by rfl) (B.no z_list) (by decide +kernel) (jab_cons (jb_e (je_sub2 B.toLv (jb_var 0) (jb_e (je_neg (jb_d jd_int))))) jab_nil)))) (jw_or1 (jt_cm (cm_ne B.toLv) (jb_e (je_meth0 (disp := (tabF [(13, f_Sell_told), (15, f_Give_told)])) B (tabF_all ⟨mt_Sell_told, ⟨mt_Give_told, trivial⟩⟩) (jd_var 4))) (jb_var 0)))))
        (jss_one (js_ret (je_d jd_bl)))
        jss_nil)))
      (jss_cons (js_kill [3] (js_mut0 (i := 3) B.toLv PySem.F.plainAttrs_list PySem.F.slot_list_clear PySem.F.type_list_clear mt_clear v_clear ty_clear rfl (by first | exact .inl rfl | exact .inr (.inl rfl))))
      (jss_one (js_ret (je_and (jb_e (je_cm (cm_eq B.toLv) (jb_d (jd_fld B.toLv (fld_cons ⟨cl_Sell, na_Sell_named⟩ (fld_cons ⟨cl_Give, na_Give_named⟩ fld_nil)) (jb_var 4))) (jb_e (je_callTy B.crList v_list (by rfl) (B.no z_list) (by decide +kernel) (jab_cons (jb_e (je_sub2 B.toLv (jb_var 0) (jb_e (je_neg (jb_d jd_int))))) jab_nil))))) (je_one (je_cm (cm_eq B.toLv) (jb_e (je_meth0 (disp := (tabF [(13, f_Sell_told), (15, f_Give_told)])) B (tabF_all ⟨mt_Sell_told, ⟨mt_Give_told, trivial⟩⟩) (jd_var 4))) (jb_var 0)))))))))))))
      jss_nil))
    (jss_one (js_ret (je_or (jb_e (je_cm (cm_ni B.toLv) (jb_e (je_sub2 B.toLv (jb_var 0) (jb_d jd_int))) (jb_d (jd_tup (ja_cons jd_str (ja_cons jd_str ja_nil)))))) (je_one (je_cm cm_is (jb_d (jd_fld B.toLv (fld_cons ⟨cl_Sell, na_Sell_named⟩ (fld_cons ⟨cl_Give, na_Give_named⟩ fld_nil)) (jb_var 1))) (jb_d jd_non))))))))))))
theorem b__law_wares {P : Program} {w : World} {K : PySem.W.Frag} {mg : Str → Option Value} {base : Heap} {T : Tx} (z_int : mg "int" = none) (d__law_cell_at : Def P w T.K mg base T 1 "_law_cell_at" 2 f_cell_at_k02) (d__law_digits : Def P w T.K mg base T 1 "_law_digits" 2 f_digits_k01) (f : Addr) (cdv : Value) (A : Around) (outer : List PySem.Env) (s : Shared) (H : Hp) (E : XK)
    (B : Bd T mg P w base 1 (fun cls d _ H => E cls d H) (cxOf (L2.CX P w) P w K mg base N__law_wares "_law_wares" (defScope s__law_wares) f cdv A outer s H E)) :
    JSs T (fun cls d _ H => E cls d H) (cxOf (L2.CX P w) P w K mg base N__law_wares "_law_wares" (defScope s__law_wares) f cdv A outer s H E) (defBody s__law_wares) m_wares_k10 :=
  have nd := sc__law_wares.nd;
    (jss_cons (js_set (i := 1) nd rfl (by first | exact .inl rfl | exact .inr rfl) (je_d jd_str))
    (jss_cons (js_kill [2] (js_for B.toLv B.calm B.po (ji_seq B.toLv (jd_fz (je_sl B.toLv (jb_e (je_call B d__law_digits (by rfl) (ja_cons (jd_fz (je_div (jb_e (je_call B d__law_cell_at (by rfl) (ja_cons (jd_var 0) (ja_cons jd_int ja_nil)) (hlen := (cCons_len (cCons_len len0))))) (jb_d jd_int))) (ja_cons (jd_fz (je_mul (jb_e (je_lst (ja_cons jd_int ja_nil))) (jb_d jd_int))) ja_nil)) (hlen := (cCons_len (cCons_len len0))))) jo_none (jo_some (jb_e (je_add B.toLv (jb_d jd_int) (jb_e (je_mod (jb_e (je_call B d__law_cell_at (by rfl) (ja_cons (jd_var 0) (ja_cons jd_int ja_nil)) (hlen := (cCons_len (cCons_len len0))))) (jb_d jd_int))))))))) (jg_name (i := 2) nd rfl (by first | exact .inl rfl | exact .inr rfl))
      (jss_one (js_kill [2] (js_set (i := 1) nd rfl (by first | exact .inl rfl | exact .inr rfl) (je_add B.toLv (jb_var 1) (jb_e (je_sub2 B.toLv (jb_d jd_str) (jb_var 2)))))))))
    (jss_cons (js_kill [0] (js_set (i := 3) nd rfl (by first | exact .inl rfl | exact .inr rfl) (je_sub2 B.toLv (jb_e (je_lst (ja_cons jd_int (ja_cons jd_int ja_nil)))) (jb_e (je_callTy call_int1 v_int1 (by rfl) (B.no z_int) (by decide +kernel) (jab_cons (jb_e (je_cm (cm_eq B.toLv) (jb_e (je_mod (jb_e (je_div (jb_e (je_call B d__law_cell_at (by rfl) (ja_cons (jd_var 0) (ja_cons jd_int ja_nil)) (hlen := (cCons_len (cCons_len len0))))) (jb_d jd_int))) (jb_d jd_int))) (jb_d jd_int))) jab_nil))))))
    (jss_one (js_ret (je_add B.toLv (jb_e (je_lst (ja_cons (jd_var 1) ja_nil))) (jb_e (je_sl B.toLv (jb_e (je_lc (own := [("_law_name", 4)]) B.toLv B.calm nd (ji_seq B.toLv (jd_fz (je_lst (ja_cons jd_str (ja_cons jd_str (ja_cons jd_str (ja_cons jd_str (ja_cons jd_str (ja_cons jd_str ja_nil))))))))) (blkOk_by (N := N__law_wares) (sc := defScope s__law_wares) (by decide +kernel)) (fun _ _ _ _ _ => (jgc_name (i := 4) nd rfl (by first | exact .inl rfl | exact .inr rfl))) (fun _ _ _ _ _ => (jts_one (jt_cm (cm_ne B.blk.toLv) (jb_var 4) (jb_var 1)))) (fun _ _ _ _ _ => (jd_var 4)))) jo_none (jo_some (jb_var 3))))))))))
theorem b__law_with_named {P : Program} {w : World} {K : PySem.W.Frag} {mg : Str → Option Value} {base : Heap} {T : Tx} (z_range : mg "range" = none) (z_tuple : mg "tuple" = none) (f : Addr) (cdv : Value) (A : Around) (outer : List PySem.Env) (s : Shared) (H : Hp) (E : XK)
    (B : Bd T mg P w base 0 (fun cls d _ H => E cls d H) (cxOf (L2.CX P w) P w K mg base N__law_with_named "_law_with_named" (defScope s__law_with_named) f cdv A outer s H E)) :
    JSs T (fun cls d _ H => E cls d H) (cxOf (L2.CX P w) P w K mg base N__law_with_named "_law_with_named" (defScope s__law_with_named) f cdv A outer s H E) (defBody s__law_with_named) m_with_named_k10 :=
  have nd := sc__law_with_named.nd;
    (jss_cons (js_kill [] (js_if (jt_w (jw_or (jt_cm (cm_ni B.toLv) (jb_e (je_sub2 B.toLv (jb_var 0) (jb_d jd_int))) (jb_d (jd_tup (ja_cons jd_str (ja_cons jd_str ja_nil))))) (jw_or1 (jt_cm (cm_eq B.toLv) (jb_e (je_mod (jb_var 1) (jb_d jd_int))) (jb_d jd_int)))))
      (jss_one (js_retv 0))
      jss_nil))
    (jss_cons (js_set (i := 2) nd rfl (by first | exact .inl rfl | exact .inr rfl) (je_sub2 B.toLv (jb_var 0) (jb_d jd_int)))
    (jss_cons (js_set (i := 3) nd rfl (by first | exact .inl rfl | exact .inr rfl) (je_lst ja_nil))
    (jss_cons (js_kill [1, 2, 3, 4, 5] (js_for B.toLv B.calm B.po (ji_rng1 (by rfl) (B.no z_range) (ja_cons (jd_fz (je_add B.toLv (jb_d jd_int) (jb_e (je_mod (jb_e (je_div (jb_var 1) (jb_d jd_int))) (jb_d jd_int))))) ja_nil)) (jg_name (i := 4) nd rfl (by first | exact .inl rfl | exact .inr rfl))
      (jss_cons (js_set (i := 5) nd rfl (by first | exact .inl rfl | exact .inr rfl) (je_add B.toLv (jb_d jd_int) (jb_e (je_mod (jb_e (je_div (jb_var 1) (jb_e (je_add B.toLv (jb_e (je_mul (jb_d jd_int) (jb_var 4))) (jb_d jd_int))))) (jb_var 2)))))
      (jss_cons (js_kill [] (js_if (jt_cm (cm_eq B.toLv) (jb_var 4) (jb_e (je_mod (jb_e (je_div (jb_var 1) (jb_d jd_int))) (jb_d jd_int))))
        (jss_one (js_set (i := 5) nd rfl (by first | exact .inl rfl | exact .inr rfl) (je_d (jd_var 2))))
        jss_nil))
      (jss_cons (js_kill [4, 5] (js_if (jt_cm cm_gt (jb_var 2) (jb_d jd_int))
        (jss_cons (js_kill [4] (js_mut (i := 3) B.toLv PySem.F.plainAttrs_list PySem.F.slot_list_append PySem.F.type_list_append mt_append v_append ty_append rfl (by first | exact .inl rfl | exact .inr (.inl rfl)) (ja_cons (jd_tup (ja_cons (jd_fz (je_add B.toLv (jb_e (je_mod (jb_var 1) (jb_e (je_pow (jb_d jd_int) (jb_d jd_int))))) (jb_e (je_mul (jb_var 4) (jb_e (je_add B.toLv (jb_d jd_int) (jb_e (je_mod (jb_e (je_div (jb_var 1) (jb_d jd_int))) (jb_d jd_int))))))))) (ja_cons (jd_var 5) ja_nil))) ja_nil)))
        (jss_one (js_kill [5] (js_set (i := 2) nd rfl (by first | exact .inl rfl | exact .inr rfl) (je_sub (jb_var 2) (jb_var 5))))))
        jss_nil))
      (jss_one (js_kill [] (js_if (jt_cm (cm_eq B.toLv) (jb_var 2) (jb_d jd_int))
        (jss_one (js_ret (je_add B.toLv (jb_e (je_sl B.toLv (jb_var 0) jo_none (jo_some (jb_e (je_neg (jb_d jd_int)))))) (jb_d (jd_tup (ja_cons (jd_fz (je_callTy (B.toLv.crTuple) v_tuple (by rfl) (B.no z_tuple) (by decide +kernel) (jab_cons (jb_var 3) jab_nil))) ja_nil))))))
        jss_nil))))))))
    (jss_one (js_retv 0))))))
theorem b_law {P : Program} {w : World} {K : PySem.W.Frag} {mg : Str → Option Value} {base : Heap} {T : Tx} (z_enumerate : mg "enumerate" = none) (mt_Sell_told : Mt P w T.K mg base T 7 13 "told" 1 f_Sell_told) (mt_Buy_told : Mt P w T.K mg base T 7 12 "told" 1 f_Buy_told) (u_Buy_5 : MkdD P w T.K mg base T 6 "Buy" 12 6 5 [.int 0] f_Buy_init) (u_Sell_5 : MkdD P w T.K mg base T 6 "Sell" 13 7 5 [.int 0, .non] f_Sell_init_k10z) (u_Sell_5_named : MkdK P w T.K mg base T 6 "Sell" 13 7 5 ["named"] [.int 0] f_Sell_init_k10z) (d__law_cell_at : Def P w T.K mg base T 7 "_law_cell_at" 2 f_cell_at_k02) (d__law_cells : Def P w T.K mg base T 7 "_law_cells" 1 f_cells_k01) (d__law_digits : Def P w T.K mg base T 7 "_law_digits" 2 f_digits_k01) (d__law_entry : Def P w T.K mg base T 7 "_law_entry" 5 f_entry_k10) (d__law_right : Def P w T.K mg base T 7 "_law_right" 1 f_right_k10z) (d__law_wares : Def P w T.K mg base T 7 "_law_wares" 1 f_wares_k10) (d__law_with_named : Def P w T.K mg base T 7 "_law_with_named" 2 f_with_named_k10) (f : Addr) (cdv : Value) (A : Around) (outer : List PySem.Env) (s : Shared) (H : Hp) (E : XK)
    (B : Bd T mg P w base 7 (fun cls d _ H => E cls d H) (cxOf (L2.CX P w) P w K mg base N_law "law" (defScope s_law) f cdv A outer s H E)) :
    JSs T (fun cls d _ H => E cls d H) (cxOf (L2.CX P w) P w K mg base N_law "law" (defScope s_law) f cdv A outer s H E) (defBody s_law) m_law_k10z :=
  have nd := sc_law.nd;
    (jss_cons (js_set (i := 1) nd rfl (by first | exact .inl rfl | exact .inr rfl) (je_call B d__law_wares (by rfl) (ja_cons (jd_var 0) ja_nil) (hlen := (cCons_len len0))))
    (jss_cons (js_set (i := 2) nd rfl (by first | exact .inl rfl | exact .inr rfl) (je_mod (jb_e (je_call B d__law_cell_at (by rfl) (ja_cons (jd_var 0) (ja_cons jd_int ja_nil)) (hlen := (cCons_len (cCons_len len0))))) (jb_d jd_int)))
    (jss_cons (js_frz 1 (js_kill [0, 2, 3, 4, 7, 8, 9, 10, 11] (js_for B.toLv B.calm B.po (ji_enum B.toLv (by rfl) (B.no z_enumerate) (ja_cons (jd_fz (je_sl B.toLv (jb_e (je_call B d__law_cells (by rfl) (ja_cons (jd_var 0) ja_nil) (hlen := (cCons_len len0)))) jo_none (jo_some (jb_d jd_int)))) ja_nil)) (jg_tup (is := [3, 4]) B.toLv B.calm (pgs_cons (pg_name (i := 3) nd rfl (by first | exact .inl rfl | exact .inr rfl)) (pgs_cons (pg_name (i := 4) nd rfl (by first | exact .inl rfl | exact .inr rfl)) pgs_nil)))
      (jss_cons (js_asg (je_call B d__law_digits (by rfl) (ja_cons (jd_var 4) (ja_cons (jd_fz (je_lst (ja_cons (jd_fz (je_add B.toLv (jb_e (je_pow (jb_d jd_int) (jb_d jd_int))) (jb_d jd_int))) (ja_cons jd_int ja_nil)))) ja_nil)) (hlen := (cCons_len (cCons_len len0)))) (jg_tup (is := [7, 8]) B.toLv B.calm (pgs_cons (pg_name (i := 7) nd rfl (by first | exact .inl rfl | exact .inr rfl)) (pgs_cons (pg_name (i := 8) nd rfl (by first | exact .inl rfl | exact .inr rfl)) pgs_nil))))
      (jss_cons (js_set (i := 9) nd rfl (by first | exact .inl rfl | exact .inr rfl) je_dct0)
      (jss_cons (js_kill [] (js_if (jt_cm cm_gt (jb_var 8) (jb_d jd_int))
        (jss_one (js_set (i := 9) nd rfl (by first | exact .inl rfl | exact .inr rfl) (je_dispG (ks := [((cFz (cBin opSub2 (cBor 1) (cUp (cC (.int 0))))), (cFz (cBin opPow (cUp (cC (.int 10))) (cUp (cC (.int 9)))))), ((cFz (cBin opSub2 (cBor 1) (cUp (cC (.int 1))))), (cC (.int 50))), ((cFz (cBin opSub2 (cBor 1) (cUp (cC (.int 2))))), (cFz (cBin opAdd (cUp (cC (.int 1))) (cBor 7))))]) (ppg_cons (jd_fz (je_sub2 B.toLv (jb_var 1) (jb_d jd_int))) (jd_fz (je_pow (jb_d jd_int) (jb_d jd_int))) (ppg_cons (jd_fz (je_sub2 B.toLv (jb_var 1) (jb_d jd_int))) jd_int (ppg_cons (jd_fz (je_sub2 B.toLv (jb_var 1) (jb_d jd_int))) (jd_fz (je_add B.toLv (jb_d jd_int) (jb_var 7))) ppg_nil))))))
        jss_nil))
      (jss_cons (js_kill [8] (js_set (i := 10) nd rfl (by first | exact .inl rfl | exact .inr rfl) (je_div (jb_var 4) (jb_e (je_sub2 B.toLv (jb_e (je_lst (ja_cons jd_int (ja_cons jd_int (ja_cons jd_int (ja_cons jd_int (ja_cons (jd_fz (je_mul (jb_d jd_int) (jb_e (je_pow (jb_d jd_int) (jb_d jd_int))))) (ja_cons (jd_fz (je_mul (jb_d jd_int) (jb_e (je_pow (jb_d jd_int) (jb_d jd_int))))) (ja_cons (jd_fz (je_mul (jb_d jd_int) (jb_e (je_pow (jb_d jd_int) (jb_d jd_int))))) ja_nil))))))))) (jb_var 8))))))
      (jss_cons (js_frz 9 (js_kill [3, 7, 9, 10] (js_set (i := 11) nd rfl (by first | exact .inl rfl | exact .inr rfl) (je_call B d__law_entry (by rfl) (ja_cons (jd_var 10) (ja_cons (jd_var 7) (ja_cons (jd_fz (je_add B.toLv (jb_var 2) (jb_var 3))) (ja_cons (jd_var 1) (ja_cons (jd_var 9) ja_nil))))) (hlen := (cCons_len (cCons_len (cCons_len (cCons_len (cCons_len len0))))))))))
      (jss_one (js_kill [4, 11] (js_if (jt_not (jt_e (jb_e (je_call B d__law_right (by rfl) (ja_cons (jd_fz (je_call B d__law_with_named (by rfl) (ja_cons (jd_var 11) (ja_cons (jd_fz (je_div (jb_var 4) (jb_d jd_int))) ja_nil)) (hlen := (cCons_len (cCons_len len0))))) ja_nil) (hlen := (cCons_len len0))))))
        (jss_one (js_ret (je_d jd_bl)))
        jss_nil)))))))))))
    (jss_cons (js_set (i := 5) nd rfl (by first | exact .inl rfl | exact .inr rfl) (je_mkD B u_Buy_5 (by rfl) (ja_cons jd_int (ja_cons jd_int (ja_cons (jd_fz (je_sub2 B.toLv (jb_var 1) (jb_d jd_int))) (ja_cons jd_int (ja_cons jd_int ja_nil))))) (cCons_len (cCons_len (cCons_len (cCons_len (cCons_len len0)))))))
    (jss_cons (js_set (i := 6) nd rfl (by first | exact .inl rfl | exact .inr rfl) (je_mkK B u_Sell_5_named (by rfl) (ja_cons jd_int (ja_cons jd_int (ja_cons (jd_fz (je_sub2 B.toLv (jb_var 1) (jb_d jd_int))) (ja_cons jd_int (ja_cons jd_int ja_nil))))) (jk_cons (jd_fz (je_shr (je_lst (ja_cons (jd_tup (ja_cons jd_int (ja_cons jd_int ja_nil))) (ja_cons (jd_tup (ja_cons jd_int (ja_cons jd_int ja_nil))) ja_nil))))) jk_nil) (cCons_len (cCons_len (cCons_len (cCons_len (cCons_len len0))))) (cCons_len len0)))
    (jss_cons (js_frz 6 (js_kill [6] (js_if (jt_cm (cm_ne B.toLv) (jb_e (je_meth0 (disp := (tabF [(13, f_Sell_told)])) B (tabF_all ⟨mt_Sell_told, trivial⟩) (jd_var 6))) (jb_d (jd_tup (ja_cons jd_str (ja_cons jd_int (ja_cons jd_int (ja_cons (jd_fz (je_sub2 B.toLv (jb_var 1) (jb_d jd_int))) (ja_cons jd_int (ja_cons jd_int (ja_cons jd_int (ja_cons (jd_tup (ja_cons (jd_tup (ja_cons jd_int (ja_cons jd_int ja_nil))) (ja_cons (jd_tup (ja_cons jd_int (ja_cons jd_int ja_nil))) ja_nil))) ja_nil)))))))))))
      (jss_one (js_ret (je_d jd_bl)))
      jss_nil)))
    (jss_cons (js_set (i := 6) nd rfl (by first | exact .inl rfl | exact .inr rfl) (je_mkD B u_Sell_5 (by rfl) (ja_cons jd_int (ja_cons jd_int (ja_cons (jd_fz (je_sub2 B.toLv (jb_var 1) (jb_d jd_int))) (ja_cons jd_int (ja_cons jd_int ja_nil))))) (cCons_len (cCons_len (cCons_len (cCons_len (cCons_len len0)))))))
    (jss_one (js_frz 6 (js_frz 5 (js_ret (je_and (jb_e (je_cm (cm_eq B.toLv) (jb_e (je_meth0 (disp := (tabF [(12, f_Buy_told)])) B (tabF_all ⟨mt_Buy_told, trivial⟩) (jd_var 5))) (jb_d (jd_tup (ja_cons jd_str (ja_cons jd_int (ja_cons jd_int (ja_cons (jd_fz (je_sub2 B.toLv (jb_var 1) (jb_d jd_int))) (ja_cons jd_int (ja_cons jd_int (ja_cons jd_int ja_nil))))))))))) (je_one (je_cm (cm_eq B.toLv) (jb_e (je_meth0 (disp := (tabF [(13, f_Sell_told)])) B (tabF_all ⟨mt_Sell_told, trivial⟩) (jd_var 6))) (jb_d (jd_tup (ja_cons jd_str (ja_cons jd_int (ja_cons jd_int (ja_cons (jd_fz (je_sub2 B.toLv (jb_var 1) (jb_d jd_int))) (ja_cons jd_int (ja_cons jd_int (ja_cons jd_int (ja_cons jd_non ja_nil))))))))))))))))))))))))
theorem all_mk {l : PySem.W.OpenLaw} {w : World} {K : PySem.W.Frag} {h : Heap} {mg : Str → Option Value} {fa : Addr} (X : K.In h) (G : h.Ns mainGlobals mg) (hfa : mg "law" = some (.ref fa))
    (F__law_cell_at : FnFact K "_law_cell_at" s__law_cell_at)
    (F__law_mixed : FnFact K "_law_mixed" s__law_mixed)
    (F__law_cells : FnFact K "_law_cells" s__law_cells)
    (F__law_digits : FnFact K "_law_digits" s__law_digits)
    (F__law_entry : FnFact K "_law_entry" s__law_entry)
    (F__law_fields : FnFact K "_law_fields" s__law_fields)
    (F__law_kinds : FnFact K "_law_kinds" s__law_kinds)
    (F_check_range : FnFact K "check_range" s_check_range)
    (F_is_ware : FnFact K "is_ware" s_is_ware)
    (F_check_ware : FnFact K "check_ware" s_check_ware)
    (F_checked_named : FnFact K "checked_named" s_checked_named)
    (F__law_made : FnFact K "_law_made" s__law_made)
    (F_named_told : FnFact K "named_told" s_named_told)
    (F__law_right : FnFact K "_law_right" s__law_right)
    (F__law_wares : FnFact K "_law_wares" s__law_wares)
    (F__law_with_named : FnFact K "_law_with_named" s__law_with_named)
    (F_law : FnFact K "law" s_law)
    (Z_all : PySem.W.nsIn K mainGlobals "all" = some none)
    (Z_enumerate : PySem.W.nsIn K mainGlobals "enumerate" = some none)
    (Z_int : PySem.W.nsIn K mainGlobals "int" = some none)
    (Z_isinstance : PySem.W.nsIn K mainGlobals "isinstance" = some none)
    (Z_len : PySem.W.nsIn K mainGlobals "len" = some none)
    (Z_list : PySem.W.nsIn K mainGlobals "list" = some none)
    (Z_max : PySem.W.nsIn K mainGlobals "max" = some none)
    (Z_min : PySem.W.nsIn K mainGlobals "min" = some none)
    (Z_range : PySem.W.nsIn K mainGlobals "range" = some none)
    (Z_set : PySem.W.nsIn K mainGlobals "set" = some none)
    (Z_sum : PySem.W.nsIn K mainGlobals "sum" = some none)
    (Z_tuple : PySem.W.nsIn K mainGlobals "tuple" = some none)
    {t_LETTERS : Tok} (C_LETTERS : PySem.W.nsIn K mainGlobals "LETTERS" = some (some (.str ("abcdefghijklmnopqrstuvwxyz") t_LETTERS)))
    {t_MOST_COST : Tok} (C_MOST_COST : PySem.W.nsIn K mainGlobals "MOST_COST" = some (some (.int (1000000000000000000) t_MOST_COST)))
    {t_MOST_DAY : Tok} (C_MOST_DAY : PySem.W.nsIn K mainGlobals "MOST_DAY" = some (some (.int (1000000) t_MOST_DAY)))
    {t_MOST_PIECES : Tok} (C_MOST_PIECES : PySem.W.nsIn K mainGlobals "MOST_PIECES" = some (some (.int (1000000000) t_MOST_PIECES)))
    {t_MOST_PRICE : Tok} (C_MOST_PRICE : PySem.W.nsIn K mainGlobals "MOST_PRICE" = some (some (.int (1000000000) t_MOST_PRICE)))
    {C_NoEntry : Addr} (N_NoEntry : PySem.W.nsIn K mainGlobals "NoEntry" = some (some (.ref C_NoEntry)))
    {C_Parting : Addr} (N_Parting : PySem.W.nsIn K mainGlobals "Parting" = some (some (.ref C_Parting)))
    {C_Split : Addr} (N_Split : PySem.W.nsIn K mainGlobals "Split" = some (some (.ref C_Split)))
    {C_Give : Addr} (N_Give : PySem.W.nsIn K mainGlobals "Give" = some (some (.ref C_Give)))
    {C_Gift : Addr} (N_Gift : PySem.W.nsIn K mainGlobals "Gift" = some (some (.ref C_Gift)))
    {C_Sell : Addr} (N_Sell : PySem.W.nsIn K mainGlobals "Sell" = some (some (.ref C_Sell)))
    {C_Buy : Addr} (N_Buy : PySem.W.nsIn K mainGlobals "Buy" = some (some (.ref C_Buy)))
    {C_Entry : Addr} (N_Entry : PySem.W.nsIn K mainGlobals "Entry" = some (some (.ref C_Entry)))
    (A_NoEntry : ExcA K C_NoEntry)
    (Rcl_Parting : Cls K C_Parting)
    (Rna_Parting_day : NoAttr K C_Parting "day")
    (Rcl_Split : Cls K C_Split)
    (Rna_Split_day : NoAttr K C_Split "day")
    (Rcl_Give : Cls K C_Give)
    (Rna_Give_day : NoAttr K C_Give "day")
    (Rcl_Gift : Cls K C_Gift)
    (Rna_Gift_day : NoAttr K C_Gift "day")
    (Rcl_Sell : Cls K C_Sell)
    (Rna_Sell_day : NoAttr K C_Sell "day")
    (Rcl_Buy : Cls K C_Buy)
    (Rna_Buy_day : NoAttr K C_Buy "day")
    (Rcl_Entry : Cls K C_Entry)
    (Rna_Entry_day : NoAttr K C_Entry "day")
    (Rna_Parting_number : NoAttr K C_Parting "number")
    (Rna_Split_number : NoAttr K C_Split "number")
    (Rna_Give_number : NoAttr K C_Give "number")
    (Rna_Gift_number : NoAttr K C_Gift "number")
    (Rna_Sell_number : NoAttr K C_Sell "number")
    (Rna_Buy_number : NoAttr K C_Buy "number")
    (Rna_Entry_number : NoAttr K C_Entry "number")
    (Rna_Parting_ware : NoAttr K C_Parting "ware")
    (Rna_Split_ware : NoAttr K C_Split "ware")
    (Rna_Give_ware : NoAttr K C_Give "ware")
    (Rna_Gift_ware : NoAttr K C_Gift "ware")
    (Rna_Sell_ware : NoAttr K C_Sell "ware")
    (Rna_Buy_ware : NoAttr K C_Buy "ware")
    (Rna_Entry_ware : NoAttr K C_Entry "ware")
    (Rna_Buy_pieces : NoAttr K C_Buy "pieces")
    (Rna_Buy_price : NoAttr K C_Buy "price")
    (Rna_Buy_fee : NoAttr K C_Buy "fee")
    (Rna_Buy_cost : NoAttr K C_Buy "cost")
    (Rna_Gift_pieces : NoAttr K C_Gift "pieces")
    (Rna_Gift_cost : NoAttr K C_Gift "cost")
    (Rna_Gift_since : NoAttr K C_Gift "since")
    (Rna_Split_many : NoAttr K C_Split "many")
    (Rna_Split_of : NoAttr K C_Split "of")
    (Rna_Parting_other : NoAttr K C_Parting "other")
    (Rna_Parting_share : NoAttr K C_Parting "share")
    (Rna_Parting_whole : NoAttr K C_Parting "whole")
    (Rna_Sell_pieces : NoAttr K C_Sell "pieces")
    (Rna_Sell_price : NoAttr K C_Sell "price")
    (Rna_Sell_fee : NoAttr K C_Sell "fee")
    (Rna_Sell_named : NoAttr K C_Sell "named")
    (Rna_Sell_proceeds : NoAttr K C_Sell "proceeds")
    (Rna_Give_pieces : NoAttr K C_Give "pieces")
    (Rna_Give_named : NoAttr K C_Give "named")
    (Rif_Buy : InsF K C_Buy)
    (Rk_Buy_Gift : PySem.W.kitOne K (.ref C_Buy) (.ref C_Gift) = some false)
    (Rif_Sell : InsF K C_Sell)
    (Rk_Sell_Gift : PySem.W.kitOne K (.ref C_Sell) (.ref C_Gift) = some false)
    (Rif_Gift : InsF K C_Gift)
    (Rk_Gift_Gift : PySem.W.kitOne K (.ref C_Gift) (.ref C_Gift) = some true)
    (Rif_Give : InsF K C_Give)
    (Rk_Give_Gift : PySem.W.kitOne K (.ref C_Give) (.ref C_Gift) = some false)
    (Rif_Split : InsF K C_Split)
    (Rk_Split_Gift : PySem.W.kitOne K (.ref C_Split) (.ref C_Gift) = some false)
    (Rif_Parting : InsF K C_Parting)
    (Rk_Parting_Gift : PySem.W.kitOne K (.ref C_Parting) (.ref C_Gift) = some false)
    (Rk_Buy_Sell : PySem.W.kitOne K (.ref C_Buy) (.ref C_Sell) = some false)
    (Rk_Sell_Sell : PySem.W.kitOne K (.ref C_Sell) (.ref C_Sell) = some true)
    (Rk_Gift_Sell : PySem.W.kitOne K (.ref C_Gift) (.ref C_Sell) = some false)
    (Rk_Give_Sell : PySem.W.kitOne K (.ref C_Give) (.ref C_Sell) = some false)
    (Rk_Split_Sell : PySem.W.kitOne K (.ref C_Split) (.ref C_Sell) = some false)
    (Rk_Parting_Sell : PySem.W.kitOne K (.ref C_Parting) (.ref C_Sell) = some false)
    (Rk_Buy_Buy : PySem.W.kitOne K (.ref C_Buy) (.ref C_Buy) = some true)
    (Rk_Sell_Buy : PySem.W.kitOne K (.ref C_Sell) (.ref C_Buy) = some false)
    (Rk_Gift_Buy : PySem.W.kitOne K (.ref C_Gift) (.ref C_Buy) = some false)
    (Rk_Give_Buy : PySem.W.kitOne K (.ref C_Give) (.ref C_Buy) = some false)
    (Rk_Split_Buy : PySem.W.kitOne K (.ref C_Split) (.ref C_Buy) = some false)
    (Rk_Parting_Buy : PySem.W.kitOne K (.ref C_Parting) (.ref C_Buy) = some false)
    (Rk_Buy_Parting : PySem.W.kitOne K (.ref C_Buy) (.ref C_Parting) = some false)
    (Rk_Sell_Parting : PySem.W.kitOne K (.ref C_Sell) (.ref C_Parting) = some false)
    (Rk_Gift_Parting : PySem.W.kitOne K (.ref C_Gift) (.ref C_Parting) = some false)
    (Rk_Give_Parting : PySem.W.kitOne K (.ref C_Give) (.ref C_Parting) = some false)
    (Rk_Split_Parting : PySem.W.kitOne K (.ref C_Split) (.ref C_Parting) = some false)
    (Rk_Parting_Parting : PySem.W.kitOne K (.ref C_Parting) (.ref C_Parting) = some true)
    (Rk_Buy_Split : PySem.W.kitOne K (.ref C_Buy) (.ref C_Split) = some false)
    (Rk_Sell_Split : PySem.W.kitOne K (.ref C_Sell) (.ref C_Split) = some false)
    (Rk_Gift_Split : PySem.W.kitOne K (.ref C_Gift) (.ref C_Split) = some false)
    (Rk_Give_Split : PySem.W.kitOne K (.ref C_Give) (.ref C_Split) = some false)
    (Rk_Split_Split : PySem.W.kitOne K (.ref C_Split) (.ref C_Split) = some true)
    (Rk_Parting_Split : PySem.W.kitOne K (.ref C_Parting) (.ref C_Split) = some false)
    (Rk_Buy_Give : PySem.W.kitOne K (.ref C_Buy) (.ref C_Give) = some false)
    (Rk_Sell_Give : PySem.W.kitOne K (.ref C_Sell) (.ref C_Give) = some false)
    (Rk_Gift_Give : PySem.W.kitOne K (.ref C_Gift) (.ref C_Give) = some false)
    (Rk_Give_Give : PySem.W.kitOne K (.ref C_Give) (.ref C_Give) = some true)
    (Rk_Split_Give : PySem.W.kitOne K (.ref C_Split) (.ref C_Give) = some false)
    (Rk_Parting_Give : PySem.W.kitOne K (.ref C_Parting) (.ref C_Give) = some false)
    (Rk_Buy_Entry : PySem.W.kitOne K (.ref C_Buy) (.ref C_Entry) = some true)
    (Rk_Sell_Entry : PySem.W.kitOne K (.ref C_Sell) (.ref C_Entry) = some true)
    (Rk_Gift_Entry : PySem.W.kitOne K (.ref C_Gift) (.ref C_Entry) = some true)
    (Rk_Give_Entry : PySem.W.kitOne K (.ref C_Give) (.ref C_Entry) = some true)
    (Rk_Split_Entry : PySem.W.kitOne K (.ref C_Split) (.ref C_Entry) = some true)
    (Rk_Parting_Entry : PySem.W.kitOne K (.ref C_Parting) (.ref C_Entry) = some true)
    (Rmf_Entry_word : MethFact K C_Entry "word" "Entry.word" s_Entry_word)
    (Rmf_Buy_word : MethFact K C_Buy "word" "Buy.word" s_Buy_word)
    (Rmf_Sell_word : MethFact K C_Sell "word" "Sell.word" s_Sell_word)
    (Rmf_Gift_word : MethFact K C_Gift "word" "Gift.word" s_Gift_word)
    (Rmf_Give_word : MethFact K C_Give "word" "Give.word" s_Give_word)
    (Rmf_Split_word : MethFact K C_Split "word" "Split.word" s_Split_word)
    (Rmf_Parting_word : MethFact K C_Parting "word" "Parting.word" s_Parting_word)
    (Rmf_Buy_told : MethFact K C_Buy "told" "Buy.told" s_Buy_told)
    (Rmf_Sell_told : MethFact K C_Sell "told" "Sell.told" s_Sell_told)
    (Rmf_Gift_told : MethFact K C_Gift "told" "Gift.told" s_Gift_told)
    (Rmf_Give_told : MethFact K C_Give "told" "Give.told" s_Give_told)
    (Rmf_Split_told : MethFact K C_Split "told" "Split.told" s_Split_told)
    (Rmf_Parting_told : MethFact K C_Parting "told" "Parting.told" s_Parting_told)
    (Rnf_Buy : InitFactD K C_Buy "Buy.__init__" s_Buy_init [.int 0])
    (Rnf_Gift : InitFact K C_Gift "Gift.__init__" s_Gift_init)
    (Rnf_Split : InitFact K C_Split "Split.__init__" s_Split_init)
    (Rnf_Parting : InitFact K C_Parting "Parting.__init__" s_Parting_init)
    (Rnf_Sell : InitFactD K C_Sell "Sell.__init__" s_Sell_init [.int 0, .non])
    (Rnf_Give : InitFactD K C_Give "Give.__init__" s_Give_init [.non])
    (Rsf_Entry_init : SupFact K C_Entry "__init__" "Entry.__init__" s_Entry_init)
    (Rsf_Entry_told : SupFact K C_Entry "told" "Entry.told" s_Entry_told)
    : ∃ fd : FuncData, (∀ (s : Shared) (v : Value), BindsTo s fd ⟨[v], []⟩ [("_law_script", v)]) ∧ ∀ base : Heap, K.In base → base.Ns mainGlobals mg → FnOk l.prog w K mg base (L2.CX l.prog w) 8 fa fd ["_law_script"] (spF (txOf K cnames) 1 f_law_k10z) := by
  have z_all := PySem.W.mg_none_of X G Z_all
  have z_enumerate := PySem.W.mg_none_of X G Z_enumerate
  have z_int := PySem.W.mg_none_of X G Z_int
  have z_isinstance := PySem.W.mg_none_of X G Z_isinstance
  have z_len := PySem.W.mg_none_of X G Z_len
  have z_list := PySem.W.mg_none_of X G Z_list
  have z_max := PySem.W.mg_none_of X G Z_max
  have z_min := PySem.W.mg_none_of X G Z_min
  have z_range := PySem.W.mg_none_of X G Z_range
  have z_set := PySem.W.mg_none_of X G Z_set
  have z_sum := PySem.W.mg_none_of X G Z_sum
  have z_tuple := PySem.W.mg_none_of X G Z_tuple
  have k_LETTERS := PySem.W.mg_of X G C_LETTERS
  have k_MOST_COST := PySem.W.mg_of X G C_MOST_COST
  have k_MOST_DAY := PySem.W.mg_of X G C_MOST_DAY
  have k_MOST_PIECES := PySem.W.mg_of X G C_MOST_PIECES
  have k_MOST_PRICE := PySem.W.mg_of X G C_MOST_PRICE
  have x_NoEntry := exc_mk (ns := cnames) X G 2 N_NoEntry A_NoEntry rfl
  have cl_Parting := cn_at (ns := cnames) 17 N_Parting rfl (p := fun a => Cls K a) Rcl_Parting
  have na_Parting_day := cn_at (ns := cnames) 17 N_Parting rfl (p := fun a => NoAttr K a "day") Rna_Parting_day
  have cl_Split := cn_at (ns := cnames) 16 N_Split rfl (p := fun a => Cls K a) Rcl_Split
  have na_Split_day := cn_at (ns := cnames) 16 N_Split rfl (p := fun a => NoAttr K a "day") Rna_Split_day
  have cl_Give := cn_at (ns := cnames) 15 N_Give rfl (p := fun a => Cls K a) Rcl_Give
  have na_Give_day := cn_at (ns := cnames) 15 N_Give rfl (p := fun a => NoAttr K a "day") Rna_Give_day
  have cl_Gift := cn_at (ns := cnames) 14 N_Gift rfl (p := fun a => Cls K a) Rcl_Gift
  have na_Gift_day := cn_at (ns := cnames) 14 N_Gift rfl (p := fun a => NoAttr K a "day") Rna_Gift_day
  have cl_Sell := cn_at (ns := cnames) 13 N_Sell rfl (p := fun a => Cls K a) Rcl_Sell
  have na_Sell_day := cn_at (ns := cnames) 13 N_Sell rfl (p := fun a => NoAttr K a "day") Rna_Sell_day
  have cl_Buy := cn_at (ns := cnames) 12 N_Buy rfl (p := fun a => Cls K a) Rcl_Buy
  have na_Buy_day := cn_at (ns := cnames) 12 N_Buy rfl (p := fun a => NoAttr K a "day") Rna_Buy_day
  have cl_Entry := cn_at (ns := cnames) 11 N_Entry rfl (p := fun a => Cls K a) Rcl_Entry
  have na_Entry_day := cn_at (ns := cnames) 11 N_Entry rfl (p := fun a => NoAttr K a "day") Rna_Entry_day
  have na_Parting_number := cn_at (ns := cnames) 17 N_Parting rfl (p := fun a => NoAttr K a "number") Rna_Parting_number
  have na_Split_number := cn_at (ns := cnames) 16 N_Split rfl (p := fun a => NoAttr K a "number") Rna_Split_number
  have na_Give_number := cn_at (ns := cnames) 15 N_Give rfl (p := fun a => NoAttr K a "number") Rna_Give_number
  have na_Gift_number := cn_at (ns := cnames) 14 N_Gift rfl (p := fun a => NoAttr K a "number") Rna_Gift_number
  have na_Sell_number := cn_at (ns := cnames) 13 N_Sell rfl (p := fun a => NoAttr K a "number") Rna_Sell_number
  have na_Buy_number := cn_at (ns := cnames) 12 N_Buy rfl (p := fun a => NoAttr K a "number") Rna_Buy_number
  have na_Entry_number := cn_at (ns := cnames) 11 N_Entry rfl (p := fun a => NoAttr K a "number") Rna_Entry_number
  have na_Parting_ware := cn_at (ns := cnames) 17 N_Parting rfl (p := fun a => NoAttr K a "ware") Rna_Parting_ware
  have na_Split_ware := cn_at (ns := cnames) 16 N_Split rfl (p := fun a => NoAttr K a "ware") Rna_Split_ware
  have na_Give_ware := cn_at (ns := cnames) 15 N_Give rfl (p := fun a => NoAttr K a "ware") Rna_Give_ware
  have na_Gift_ware := cn_at (ns := cnames) 14 N_Gift rfl (p := fun a => NoAttr K a "ware") Rna_Gift_ware
  have na_Sell_ware := cn_at (ns := cnames) 13 N_Sell rfl (p := fun a => NoAttr K a "ware") Rna_Sell_ware
  have na_Buy_ware := cn_at (ns := cnames) 12 N_Buy rfl (p := fun a => NoAttr K a "ware") Rna_Buy_ware
  have na_Entry_ware := cn_at (ns := cnames) 11 N_Entry rfl (p := fun a => NoAttr K a "ware") Rna_Entry_ware
  have na_Buy_pieces := cn_at (ns := cnames) 12 N_Buy rfl (p := fun a => NoAttr K a "pieces") Rna_Buy_pieces
  have na_Buy_price := cn_at (ns := cnames) 12 N_Buy rfl (p := fun a => NoAttr K a "price") Rna_Buy_price
  have na_Buy_fee := cn_at (ns := cnames) 12 N_Buy rfl (p := fun a => NoAttr K a "fee") Rna_Buy_fee
  have na_Buy_cost := cn_at (ns := cnames) 12 N_Buy rfl (p := fun a => NoAttr K a "cost") Rna_Buy_cost
  have na_Gift_pieces := cn_at (ns := cnames) 14 N_Gift rfl (p := fun a => NoAttr K a "pieces") Rna_Gift_pieces
  have na_Gift_cost := cn_at (ns := cnames) 14 N_Gift rfl (p := fun a => NoAttr K a "cost") Rna_Gift_cost
  have na_Gift_since := cn_at (ns := cnames) 14 N_Gift rfl (p := fun a => NoAttr K a "since") Rna_Gift_since
  have na_Split_many := cn_at (ns := cnames) 16 N_Split rfl (p := fun a => NoAttr K a "many") Rna_Split_many
  have na_Split_of := cn_at (ns := cnames) 16 N_Split rfl (p := fun a => NoAttr K a "of") Rna_Split_of
  have na_Parting_other := cn_at (ns := cnames) 17 N_Parting rfl (p := fun a => NoAttr K a "other") Rna_Parting_other
  have na_Parting_share := cn_at (ns := cnames) 17 N_Parting rfl (p := fun a => NoAttr K a "share") Rna_Parting_share
  have na_Parting_whole := cn_at (ns := cnames) 17 N_Parting rfl (p := fun a => NoAttr K a "whole") Rna_Parting_whole
  have na_Sell_pieces := cn_at (ns := cnames) 13 N_Sell rfl (p := fun a => NoAttr K a "pieces") Rna_Sell_pieces
  have na_Sell_price := cn_at (ns := cnames) 13 N_Sell rfl (p := fun a => NoAttr K a "price") Rna_Sell_price
  have na_Sell_fee := cn_at (ns := cnames) 13 N_Sell rfl (p := fun a => NoAttr K a "fee") Rna_Sell_fee
  have na_Sell_named := cn_at (ns := cnames) 13 N_Sell rfl (p := fun a => NoAttr K a "named") Rna_Sell_named
  have na_Sell_proceeds := cn_at (ns := cnames) 13 N_Sell rfl (p := fun a => NoAttr K a "proceeds") Rna_Sell_proceeds
  have na_Give_pieces := cn_at (ns := cnames) 15 N_Give rfl (p := fun a => NoAttr K a "pieces") Rna_Give_pieces
  have na_Give_named := cn_at (ns := cnames) 15 N_Give rfl (p := fun a => NoAttr K a "named") Rna_Give_named
  have if_Buy := cn_at (ns := cnames) 12 N_Buy rfl (p := fun a => InsF K a) Rif_Buy
  have k_Buy_Gift := cn_at2 (ns := cnames) 12 14 N_Buy rfl N_Gift rfl (p := fun a b => PySem.W.kitOne K (.ref a) (.ref b) = some false) Rk_Buy_Gift
  have if_Sell := cn_at (ns := cnames) 13 N_Sell rfl (p := fun a => InsF K a) Rif_Sell
  have k_Sell_Gift := cn_at2 (ns := cnames) 13 14 N_Sell rfl N_Gift rfl (p := fun a b => PySem.W.kitOne K (.ref a) (.ref b) = some false) Rk_Sell_Gift
  have if_Gift := cn_at (ns := cnames) 14 N_Gift rfl (p := fun a => InsF K a) Rif_Gift
  have k_Gift_Gift := cn_at2 (ns := cnames) 14 14 N_Gift rfl N_Gift rfl (p := fun a b => PySem.W.kitOne K (.ref a) (.ref b) = some true) Rk_Gift_Gift
  have if_Give := cn_at (ns := cnames) 15 N_Give rfl (p := fun a => InsF K a) Rif_Give
  have k_Give_Gift := cn_at2 (ns := cnames) 15 14 N_Give rfl N_Gift rfl (p := fun a b => PySem.W.kitOne K (.ref a) (.ref b) = some false) Rk_Give_Gift
  have if_Split := cn_at (ns := cnames) 16 N_Split rfl (p := fun a => InsF K a) Rif_Split
  have k_Split_Gift := cn_at2 (ns := cnames) 16 14 N_Split rfl N_Gift rfl (p := fun a b => PySem.W.kitOne K (.ref a) (.ref b) = some false) Rk_Split_Gift
  have if_Parting := cn_at (ns := cnames) 17 N_Parting rfl (p := fun a => InsF K a) Rif_Parting
  have k_Parting_Gift := cn_at2 (ns := cnames) 17 14 N_Parting rfl N_Gift rfl (p := fun a b => PySem.W.kitOne K (.ref a) (.ref b) = some false) Rk_Parting_Gift
  have g_Gift := cn_mg (ns := cnames) X G 14 N_Gift rfl
  have k_Buy_Sell := cn_at2 (ns := cnames) 12 13 N_Buy rfl N_Sell rfl (p := fun a b => PySem.W.kitOne K (.ref a) (.ref b) = some false) Rk_Buy_Sell
  have k_Sell_Sell := cn_at2 (ns := cnames) 13 13 N_Sell rfl N_Sell rfl (p := fun a b => PySem.W.kitOne K (.ref a) (.ref b) = some true) Rk_Sell_Sell
  have k_Gift_Sell := cn_at2 (ns := cnames) 14 13 N_Gift rfl N_Sell rfl (p := fun a b => PySem.W.kitOne K (.ref a) (.ref b) = some false) Rk_Gift_Sell
  have k_Give_Sell := cn_at2 (ns := cnames) 15 13 N_Give rfl N_Sell rfl (p := fun a b => PySem.W.kitOne K (.ref a) (.ref b) = some false) Rk_Give_Sell
  have k_Split_Sell := cn_at2 (ns := cnames) 16 13 N_Split rfl N_Sell rfl (p := fun a b => PySem.W.kitOne K (.ref a) (.ref b) = some false) Rk_Split_Sell
  have k_Parting_Sell := cn_at2 (ns := cnames) 17 13 N_Parting rfl N_Sell rfl (p := fun a b => PySem.W.kitOne K (.ref a) (.ref b) = some false) Rk_Parting_Sell
  have g_Sell := cn_mg (ns := cnames) X G 13 N_Sell rfl
  have k_Buy_Buy := cn_at2 (ns := cnames) 12 12 N_Buy rfl N_Buy rfl (p := fun a b => PySem.W.kitOne K (.ref a) (.ref b) = some true) Rk_Buy_Buy
  have k_Sell_Buy := cn_at2 (ns := cnames) 13 12 N_Sell rfl N_Buy rfl (p := fun a b => PySem.W.kitOne K (.ref a) (.ref b) = some false) Rk_Sell_Buy
  have k_Gift_Buy := cn_at2 (ns := cnames) 14 12 N_Gift rfl N_Buy rfl (p := fun a b => PySem.W.kitOne K (.ref a) (.ref b) = some false) Rk_Gift_Buy
  have k_Give_Buy := cn_at2 (ns := cnames) 15 12 N_Give rfl N_Buy rfl (p := fun a b => PySem.W.kitOne K (.ref a) (.ref b) = some false) Rk_Give_Buy
  have k_Split_Buy := cn_at2 (ns := cnames) 16 12 N_Split rfl N_Buy rfl (p := fun a b => PySem.W.kitOne K (.ref a) (.ref b) = some false) Rk_Split_Buy
  have k_Parting_Buy := cn_at2 (ns := cnames) 17 12 N_Parting rfl N_Buy rfl (p := fun a b => PySem.W.kitOne K (.ref a) (.ref b) = some false) Rk_Parting_Buy
  have g_Buy := cn_mg (ns := cnames) X G 12 N_Buy rfl
  have k_Buy_Parting := cn_at2 (ns := cnames) 12 17 N_Buy rfl N_Parting rfl (p := fun a b => PySem.W.kitOne K (.ref a) (.ref b) = some false) Rk_Buy_Parting
  have k_Sell_Parting := cn_at2 (ns := cnames) 13 17 N_Sell rfl N_Parting rfl (p := fun a b => PySem.W.kitOne K (.ref a) (.ref b) = some false) Rk_Sell_Parting
  have k_Gift_Parting := cn_at2 (ns := cnames) 14 17 N_Gift rfl N_Parting rfl (p := fun a b => PySem.W.kitOne K (.ref a) (.ref b) = some false) Rk_Gift_Parting
  have k_Give_Parting := cn_at2 (ns := cnames) 15 17 N_Give rfl N_Parting rfl (p := fun a b => PySem.W.kitOne K (.ref a) (.ref b) = some false) Rk_Give_Parting
  have k_Split_Parting := cn_at2 (ns := cnames) 16 17 N_Split rfl N_Parting rfl (p := fun a b => PySem.W.kitOne K (.ref a) (.ref b) = some false) Rk_Split_Parting
  have k_Parting_Parting := cn_at2 (ns := cnames) 17 17 N_Parting rfl N_Parting rfl (p := fun a b => PySem.W.kitOne K (.ref a) (.ref b) = some true) Rk_Parting_Parting
  have g_Parting := cn_mg (ns := cnames) X G 17 N_Parting rfl
  have k_Buy_Split := cn_at2 (ns := cnames) 12 16 N_Buy rfl N_Split rfl (p := fun a b => PySem.W.kitOne K (.ref a) (.ref b) = some false) Rk_Buy_Split
  have k_Sell_Split := cn_at2 (ns := cnames) 13 16 N_Sell rfl N_Split rfl (p := fun a b => PySem.W.kitOne K (.ref a) (.ref b) = some false) Rk_Sell_Split
  have k_Gift_Split := cn_at2 (ns := cnames) 14 16 N_Gift rfl N_Split rfl (p := fun a b => PySem.W.kitOne K (.ref a) (.ref b) = some false) Rk_Gift_Split
  have k_Give_Split := cn_at2 (ns := cnames) 15 16 N_Give rfl N_Split rfl (p := fun a b => PySem.W.kitOne K (.ref a) (.ref b) = some false) Rk_Give_Split
  have k_Split_Split := cn_at2 (ns := cnames) 16 16 N_Split rfl N_Split rfl (p := fun a b => PySem.W.kitOne K (.ref a) (.ref b) = some true) Rk_Split_Split
  have k_Parting_Split := cn_at2 (ns := cnames) 17 16 N_Parting rfl N_Split rfl (p := fun a b => PySem.W.kitOne K (.ref a) (.ref b) = some false) Rk_Parting_Split
  have g_Split := cn_mg (ns := cnames) X G 16 N_Split rfl
  have k_Buy_Give := cn_at2 (ns := cnames) 12 15 N_Buy rfl N_Give rfl (p := fun a b => PySem.W.kitOne K (.ref a) (.ref b) = some false) Rk_Buy_Give
  have k_Sell_Give := cn_at2 (ns := cnames) 13 15 N_Sell rfl N_Give rfl (p := fun a b => PySem.W.kitOne K (.ref a) (.ref b) = some false) Rk_Sell_Give
  have k_Gift_Give := cn_at2 (ns := cnames) 14 15 N_Gift rfl N_Give rfl (p := fun a b => PySem.W.kitOne K (.ref a) (.ref b) = some false) Rk_Gift_Give
  have k_Give_Give := cn_at2 (ns := cnames) 15 15 N_Give rfl N_Give rfl (p := fun a b => PySem.W.kitOne K (.ref a) (.ref b) = some true) Rk_Give_Give
  have k_Split_Give := cn_at2 (ns := cnames) 16 15 N_Split rfl N_Give rfl (p := fun a b => PySem.W.kitOne K (.ref a) (.ref b) = some false) Rk_Split_Give
  have k_Parting_Give := cn_at2 (ns := cnames) 17 15 N_Parting rfl N_Give rfl (p := fun a b => PySem.W.kitOne K (.ref a) (.ref b) = some false) Rk_Parting_Give
  have g_Give := cn_mg (ns := cnames) X G 15 N_Give rfl
  have k_Buy_Entry := cn_at2 (ns := cnames) 12 11 N_Buy rfl N_Entry rfl (p := fun a b => PySem.W.kitOne K (.ref a) (.ref b) = some true) Rk_Buy_Entry
  have k_Sell_Entry := cn_at2 (ns := cnames) 13 11 N_Sell rfl N_Entry rfl (p := fun a b => PySem.W.kitOne K (.ref a) (.ref b) = some true) Rk_Sell_Entry
  have k_Gift_Entry := cn_at2 (ns := cnames) 14 11 N_Gift rfl N_Entry rfl (p := fun a b => PySem.W.kitOne K (.ref a) (.ref b) = some true) Rk_Gift_Entry
  have k_Give_Entry := cn_at2 (ns := cnames) 15 11 N_Give rfl N_Entry rfl (p := fun a b => PySem.W.kitOne K (.ref a) (.ref b) = some true) Rk_Give_Entry
  have k_Split_Entry := cn_at2 (ns := cnames) 16 11 N_Split rfl N_Entry rfl (p := fun a b => PySem.W.kitOne K (.ref a) (.ref b) = some true) Rk_Split_Entry
  have k_Parting_Entry := cn_at2 (ns := cnames) 17 11 N_Parting rfl N_Entry rfl (p := fun a b => PySem.W.kitOne K (.ref a) (.ref b) = some true) Rk_Parting_Entry
  have g_Entry := cn_mg (ns := cnames) X G 11 N_Entry rfl
  refine law_mk (T := (txOf K cnames)) (N := N_law) X G F_law hfa sc_law rfl txOf_lean (fun _ _ _ _ _ _ us hl => by obtain ⟨_, rfl⟩ := Mir.len1_ hl; rfl) fun base kb gb => ?_
  have d__law_cell_at : Def l.prog w K mg base (txOf K cnames) 1 "_law_cell_at" 2 f_cell_at_k02 := def_mk (T := (txOf K cnames)) (N := N__law_cell_at) (ps := ["_law_script", "_law_k"]) X G F__law_cell_at sc__law_cell_at rfl txOf_lean (fun _ _ _ _ _ _ us hl => by obtain ⟨_, _, rfl⟩ := Mir.len2_ hl; rfl) (b__law_cell_at z_len)
  have d__law_mixed : Def l.prog w K mg base (txOf K cnames) 1 "_law_mixed" 2 f_mixed_k01 := def_mk (T := (txOf K cnames)) (N := N__law_mixed) (ps := ["_law_cell", "_law_k"]) X G F__law_mixed sc__law_mixed rfl txOf_lean (fun _ _ _ _ _ _ us hl => by obtain ⟨_, _, rfl⟩ := Mir.len2_ hl; rfl) (b__law_mixed)
  have d__law_digits : Def l.prog w K mg base (txOf K cnames) 1 "_law_digits" 2 f_digits_k01 := def_mk (T := (txOf K cnames)) (N := N__law_digits) (ps := ["_law_cell", "_law_bases"]) X G F__law_digits sc__law_digits rfl txOf_lean (fun _ _ _ _ _ _ us hl => by obtain ⟨_, _, rfl⟩ := Mir.len2_ hl; rfl) (b__law_digits)
  have d__law_fields : Def l.prog w K mg base (txOf K cnames) 1 "_law_fields" 2 f_fields_k10 := def_mk (T := (txOf K cnames)) (N := N__law_fields) (ps := ["_law_entry_here", "_law_told"]) X G F__law_fields sc__law_fields rfl txOf_lean (fun _ _ _ _ _ _ us hl => by obtain ⟨_, _, rfl⟩ := Mir.len2_ hl; rfl) (b__law_fields cl_Buy na_Buy_cost cl_Gift na_Gift_cost na_Buy_fee cl_Sell na_Sell_fee na_Buy_price na_Sell_price na_Buy_pieces na_Sell_pieces na_Gift_pieces cl_Give na_Give_pieces na_Sell_proceeds na_Gift_since cl_Split na_Split_of na_Split_many cl_Parting na_Parting_whole na_Parting_share na_Parting_other)
  have d__law_kinds : Def l.prog w K mg base (txOf K cnames) 1 "_law_kinds" 1 f_kinds_k10 := def_mk (T := (txOf K cnames)) (N := N__law_kinds) (ps := ["_law_entry_here"]) X G F__law_kinds sc__law_kinds rfl txOf_lean (fun _ _ _ _ _ _ us hl => by obtain ⟨_, rfl⟩ := Mir.len1_ hl; rfl) (b__law_kinds z_isinstance if_Buy k_Buy_Gift if_Sell k_Sell_Gift if_Gift k_Gift_Gift if_Give k_Give_Gift if_Split k_Split_Gift if_Parting k_Parting_Gift g_Gift k_Buy_Sell k_Sell_Sell k_Gift_Sell k_Give_Sell k_Split_Sell k_Parting_Sell g_Sell k_Buy_Buy k_Sell_Buy k_Gift_Buy k_Give_Buy k_Split_Buy k_Parting_Buy g_Buy k_Buy_Parting k_Sell_Parting k_Gift_Parting k_Give_Parting k_Split_Parting k_Parting_Parting g_Parting k_Buy_Split k_Sell_Split k_Gift_Split k_Give_Split k_Split_Split k_Parting_Split g_Split k_Buy_Give k_Sell_Give k_Gift_Give k_Give_Give k_Split_Give k_Parting_Give g_Give)
  have d_check_range : Def l.prog w K mg base (txOf K cnames) 1 "check_range" 3 f_check_range := def_mk (T := (txOf K cnames)) (N := N_check_range) (ps := ["number", "least", "most"]) X G F_check_range sc_check_range rfl txOf_lean (fun _ _ _ _ _ _ us hl => by obtain ⟨_, _, _, rfl⟩ := Mir.len3_ hl; rfl) (b_check_range x_NoEntry)
  have d_is_ware : Def l.prog w K mg base (txOf K cnames) 1 "is_ware" 1 f_is_ware := def_mk (T := (txOf K cnames)) (N := N_is_ware) (ps := ["text"]) X G F_is_ware sc_is_ware rfl txOf_lean (fun _ _ _ _ _ _ us hl => by obtain ⟨_, rfl⟩ := Mir.len1_ hl; rfl) (b_is_ware z_all z_len k_LETTERS)
  have mt_Entry_word : Mt l.prog w K mg base (txOf K cnames) 1 11 "word" 1 f_Entry_word := mt_mk (T := (txOf K cnames)) (N := N_Entry_word) (ps := ["self"]) rfl txOf_lean cl_Entry (cn_at (ns := cnames) 11 N_Entry rfl (p := fun a => MethFact K a "word" "Entry.word" s_Entry_word) Rmf_Entry_word) sc_Entry_word (fun _ _ _ _ _ _ us hl => by obtain ⟨_, rfl⟩ := Mir.len1_ hl; rfl) (b_Entry_word)
  have mt_Buy_word : Mt l.prog w K mg base (txOf K cnames) 1 12 "word" 1 f_Buy_word := mt_mk (T := (txOf K cnames)) (N := N_Buy_word) (ps := ["self"]) rfl txOf_lean cl_Buy (cn_at (ns := cnames) 12 N_Buy rfl (p := fun a => MethFact K a "word" "Buy.word" s_Buy_word) Rmf_Buy_word) sc_Buy_word (fun _ _ _ _ _ _ us hl => by obtain ⟨_, rfl⟩ := Mir.len1_ hl; rfl) (b_Buy_word)
  have mt_Sell_word : Mt l.prog w K mg base (txOf K cnames) 1 13 "word" 1 f_Sell_word := mt_mk (T := (txOf K cnames)) (N := N_Sell_word) (ps := ["self"]) rfl txOf_lean cl_Sell (cn_at (ns := cnames) 13 N_Sell rfl (p := fun a => MethFact K a "word" "Sell.word" s_Sell_word) Rmf_Sell_word) sc_Sell_word (fun _ _ _ _ _ _ us hl => by obtain ⟨_, rfl⟩ := Mir.len1_ hl; rfl) (b_Sell_word)
  have mt_Gift_word : Mt l.prog w K mg base (txOf K cnames) 1 14 "word" 1 f_Gift_word := mt_mk (T := (txOf K cnames)) (N := N_Gift_word) (ps := ["self"]) rfl txOf_lean cl_Gift (cn_at (ns := cnames) 14 N_Gift rfl (p := fun a => MethFact K a "word" "Gift.word" s_Gift_word) Rmf_Gift_word) sc_Gift_word (fun _ _ _ _ _ _ us hl => by obtain ⟨_, rfl⟩ := Mir.len1_ hl; rfl) (b_Gift_word)
  have mt_Give_word : Mt l.prog w K mg base (txOf K cnames) 1 15 "word" 1 f_Give_word := mt_mk (T := (txOf K cnames)) (N := N_Give_word) (ps := ["self"]) rfl txOf_lean cl_Give (cn_at (ns := cnames) 15 N_Give rfl (p := fun a => MethFact K a "word" "Give.word" s_Give_word) Rmf_Give_word) sc_Give_word (fun _ _ _ _ _ _ us hl => by obtain ⟨_, rfl⟩ := Mir.len1_ hl; rfl) (b_Give_word)
  have mt_Split_word : Mt l.prog w K mg base (txOf K cnames) 1 16 "word" 1 f_Split_word := mt_mk (T := (txOf K cnames)) (N := N_Split_word) (ps := ["self"]) rfl txOf_lean cl_Split (cn_at (ns := cnames) 16 N_Split rfl (p := fun a => MethFact K a "word" "Split.word" s_Split_word) Rmf_Split_word) sc_Split_word (fun _ _ _ _ _ _ us hl => by obtain ⟨_, rfl⟩ := Mir.len1_ hl; rfl) (b_Split_word)
  have mt_Parting_word : Mt l.prog w K mg base (txOf K cnames) 1 17 "word" 1 f_Parting_word := mt_mk (T := (txOf K cnames)) (N := N_Parting_word) (ps := ["self"]) rfl txOf_lean cl_Parting (cn_at (ns := cnames) 17 N_Parting rfl (p := fun a => MethFact K a "word" "Parting.word" s_Parting_word) Rmf_Parting_word) sc_Parting_word (fun _ _ _ _ _ _ us hl => by obtain ⟨_, rfl⟩ := Mir.len1_ hl; rfl) (b_Parting_word)
  have d_named_told : Def l.prog w K mg base (txOf K cnames) 1 "named_told" 1 f_named_told := def_mk (T := (txOf K cnames)) (N := N_named_told) (ps := ["named"]) X G F_named_told sc_named_told rfl txOf_lean (fun _ _ _ _ _ _ us hl => by obtain ⟨_, rfl⟩ := Mir.len1_ hl; rfl) (b_named_told z_tuple)
  have d__law_with_named : Def l.prog w K mg base (txOf K cnames) 1 "_law_with_named" 2 f_with_named_k10 := def_mk (T := (txOf K cnames)) (N := N__law_with_named) (ps := ["_law_told", "_law_cell"]) X G F__law_with_named sc__law_with_named rfl txOf_lean (fun _ _ _ _ _ _ us hl => by obtain ⟨_, _, rfl⟩ := Mir.len2_ hl; rfl) (b__law_with_named z_range z_tuple)
  have d__law_cells : Def l.prog w K mg base (txOf K cnames) 2 "_law_cells" 1 f_cells_k01 := def_mk (T := (txOf K cnames)) (N := N__law_cells) (ps := ["_law_script"]) X G F__law_cells sc__law_cells rfl txOf_lean (fun _ _ _ _ _ _ us hl => by obtain ⟨_, rfl⟩ := Mir.len1_ hl; rfl) (b__law_cells z_len z_max z_min z_range (d__law_mixed.mono (by decide)))
  have d__law_entry : Def l.prog w K mg base (txOf K cnames) 2 "_law_entry" 5 f_entry_k10 := def_mk (T := (txOf K cnames)) (N := N__law_entry) (ps := ["_law_cell", "_law_day", "_law_number", "_law_wares_here", "_law_held"]) X G F__law_entry sc__law_entry rfl txOf_lean (fun _ _ _ _ _ _ us hl => by obtain ⟨_, _, _, _, _, rfl⟩ := Mir.len5_ hl; rfl) (b__law_entry z_len z_min (d__law_digits.mono (by decide)))
  have d_check_ware : Def l.prog w K mg base (txOf K cnames) 2 "check_ware" 1 f_check_ware := def_mk (T := (txOf K cnames)) (N := N_check_ware) (ps := ["text"]) X G F_check_ware sc_check_ware rfl txOf_lean (fun _ _ _ _ _ _ us hl => by obtain ⟨_, rfl⟩ := Mir.len1_ hl; rfl) (b_check_ware x_NoEntry (d_is_ware.mono (by decide)))
  have d_checked_named : Def l.prog w K mg base (txOf K cnames) 2 "checked_named" 2 f_checked_named_k10z := def_mk (T := (txOf K cnames)) (N := N_checked_named) (ps := ["named", "pieces"]) X G F_checked_named sc_checked_named rfl txOf_lean (fun _ _ _ _ _ _ us hl => by obtain ⟨_, _, rfl⟩ := Mir.len2_ hl; rfl) (b_checked_named z_len z_list z_set z_sum k_MOST_DAY k_MOST_PIECES x_NoEntry (d_check_range.mono (by decide)))
  have dc_Entry_told : Dcl l.prog w K mg base (txOf K cnames) 2 "Entry" "told" 1 f_Entry_told := dcl_mk (T := (txOf K cnames)) (N := N_Entry_told) (ps := ["self"]) rfl txOf_lean g_Entry (cn_at (ns := cnames) 11 N_Entry rfl (p := fun a => SupFact K a "told" "Entry.told" s_Entry_told) Rsf_Entry_told) sc_Entry_told (fun _ _ _ _ _ _ us hl => by obtain ⟨_, rfl⟩ := Mir.len1_ hl; rfl) (b_Entry_told cl_Entry na_Entry_ware cl_Buy na_Buy_ware cl_Sell na_Sell_ware cl_Gift na_Gift_ware cl_Give na_Give_ware cl_Split na_Split_ware cl_Parting na_Parting_ware na_Entry_number na_Buy_number na_Sell_number na_Gift_number na_Give_number na_Split_number na_Parting_number na_Entry_day na_Buy_day na_Sell_day na_Gift_day na_Give_day na_Split_day na_Parting_day (mt_Entry_word.mono (by decide)) (mt_Buy_word.mono (by decide)) (mt_Sell_word.mono (by decide)) (mt_Gift_word.mono (by decide)) (mt_Give_word.mono (by decide)) (mt_Split_word.mono (by decide)) (mt_Parting_word.mono (by decide)))
  have d__law_wares : Def l.prog w K mg base (txOf K cnames) 2 "_law_wares" 1 f_wares_k10 := def_mk (T := (txOf K cnames)) (N := N__law_wares) (ps := ["_law_script"]) X G F__law_wares sc__law_wares rfl txOf_lean (fun _ _ _ _ _ _ us hl => by obtain ⟨_, rfl⟩ := Mir.len1_ hl; rfl) (b__law_wares z_int (d__law_cell_at.mono (by decide)) (d__law_digits.mono (by decide)))
  have sup_Entry : Sup l.prog w K mg base (txOf K cnames) 3 "Entry" 3 (fun k => [11, 12, 13, 14, 15, 16, 17].contains k) f_Entry_init := sup_mk (T := (txOf K cnames)) (N := N_Entry_init) (ps := ["self", "day", "number", "ware"]) (np := 3) rfl txOf_lean g_Entry (cn_at (ns := cnames) 11 N_Entry rfl (p := fun a => SupFact K a "__init__" "Entry.__init__" s_Entry_init) Rsf_Entry_init) sc_Entry_init rfl (by decide) (fun _ _ _ _ _ _ us hl => by obtain ⟨_, _, _, _, rfl⟩ := Mir.len4_ hl; rfl) (b_Entry_init k_MOST_DAY cl_Parting na_Parting_day cl_Split na_Split_day cl_Give na_Give_day cl_Gift na_Gift_day cl_Sell na_Sell_day cl_Buy na_Buy_day cl_Entry na_Entry_day na_Parting_number na_Split_number na_Give_number na_Gift_number na_Sell_number na_Buy_number na_Entry_number na_Parting_ware na_Split_ware na_Give_ware na_Gift_ware na_Sell_ware na_Buy_ware na_Entry_ware (d_check_range.mono (by decide)) (d_check_ware.mono (by decide)))
  have mt_Buy_told : Mt l.prog w K mg base (txOf K cnames) 3 12 "told" 1 f_Buy_told := mt_mk (T := (txOf K cnames)) (N := N_Buy_told) (ps := ["self"]) rfl txOf_lean cl_Buy (cn_at (ns := cnames) 12 N_Buy rfl (p := fun a => MethFact K a "told" "Buy.told" s_Buy_told) Rmf_Buy_told) sc_Buy_told (fun _ _ _ _ _ _ us hl => by obtain ⟨_, rfl⟩ := Mir.len1_ hl; rfl) (b_Buy_told cl_Buy na_Buy_fee na_Buy_price na_Buy_pieces (dc_Entry_told.mono (by decide)))
  have mt_Sell_told : Mt l.prog w K mg base (txOf K cnames) 3 13 "told" 1 f_Sell_told := mt_mk (T := (txOf K cnames)) (N := N_Sell_told) (ps := ["self"]) rfl txOf_lean cl_Sell (cn_at (ns := cnames) 13 N_Sell rfl (p := fun a => MethFact K a "told" "Sell.told" s_Sell_told) Rmf_Sell_told) sc_Sell_told (fun _ _ _ _ _ _ us hl => by obtain ⟨_, rfl⟩ := Mir.len1_ hl; rfl) (b_Sell_told cl_Sell na_Sell_named na_Sell_fee na_Sell_price na_Sell_pieces (d_named_told.mono (by decide)) (dc_Entry_told.mono (by decide)))
  have mt_Gift_told : Mt l.prog w K mg base (txOf K cnames) 3 14 "told" 1 f_Gift_told := mt_mk (T := (txOf K cnames)) (N := N_Gift_told) (ps := ["self"]) rfl txOf_lean cl_Gift (cn_at (ns := cnames) 14 N_Gift rfl (p := fun a => MethFact K a "told" "Gift.told" s_Gift_told) Rmf_Gift_told) sc_Gift_told (fun _ _ _ _ _ _ us hl => by obtain ⟨_, rfl⟩ := Mir.len1_ hl; rfl) (b_Gift_told cl_Gift na_Gift_since na_Gift_cost na_Gift_pieces (dc_Entry_told.mono (by decide)))
  have mt_Give_told : Mt l.prog w K mg base (txOf K cnames) 3 15 "told" 1 f_Give_told := mt_mk (T := (txOf K cnames)) (N := N_Give_told) (ps := ["self"]) rfl txOf_lean cl_Give (cn_at (ns := cnames) 15 N_Give rfl (p := fun a => MethFact K a "told" "Give.told" s_Give_told) Rmf_Give_told) sc_Give_told (fun _ _ _ _ _ _ us hl => by obtain ⟨_, rfl⟩ := Mir.len1_ hl; rfl) (b_Give_told cl_Give na_Give_named na_Give_pieces (d_named_told.mono (by decide)) (dc_Entry_told.mono (by decide)))
  have mt_Split_told : Mt l.prog w K mg base (txOf K cnames) 3 16 "told" 1 f_Split_told := mt_mk (T := (txOf K cnames)) (N := N_Split_told) (ps := ["self"]) rfl txOf_lean cl_Split (cn_at (ns := cnames) 16 N_Split rfl (p := fun a => MethFact K a "told" "Split.told" s_Split_told) Rmf_Split_told) sc_Split_told (fun _ _ _ _ _ _ us hl => by obtain ⟨_, rfl⟩ := Mir.len1_ hl; rfl) (b_Split_told cl_Split na_Split_of na_Split_many (dc_Entry_told.mono (by decide)))
  have mt_Parting_told : Mt l.prog w K mg base (txOf K cnames) 3 17 "told" 1 f_Parting_told := mt_mk (T := (txOf K cnames)) (N := N_Parting_told) (ps := ["self"]) rfl txOf_lean cl_Parting (cn_at (ns := cnames) 17 N_Parting rfl (p := fun a => MethFact K a "told" "Parting.told" s_Parting_told) Rmf_Parting_told) sc_Parting_told (fun _ _ _ _ _ _ us hl => by obtain ⟨_, rfl⟩ := Mir.len1_ hl; rfl) (b_Parting_told cl_Parting na_Parting_whole na_Parting_share na_Parting_other (dc_Entry_told.mono (by decide)))
  have u_Buy_5 : MkdD l.prog w K mg base (txOf K cnames) 4 "Buy" 12 6 5 [.int 0] f_Buy_init := mkd_fill (T := (txOf K cnames)) (N := N_Buy_init) (ps := ["self", "day", "number", "ware", "pieces", "price", "fee"]) (np := 6) (jj := 0) rfl txOf_lean g_Buy (cn_at (ns := cnames) 12 N_Buy rfl (p := fun a => InitFactD K a "Buy.__init__" s_Buy_init [.int 0]) Rnf_Buy) sc_Buy_init rfl (by decide) (by decide) (by intro z; cases z) rfl rfl (by decide) (fun _ _ _ _ _ _ _ us its h1 h2 => by obtain ⟨_, _, _, _, _, _, rfl⟩ := Mir.len6_ h1; obtain ⟨_, rfl⟩ := Mir.len1_ h2; exact ⟨_, rfl, rfl⟩) (b_Buy_init k_MOST_PIECES k_MOST_PRICE cl_Buy na_Buy_pieces na_Buy_price na_Buy_fee na_Buy_cost (d_check_range.mono (by decide)) (sup_Entry.mono (by decide)))
  have u_Buy : Mkd l.prog w K mg base (txOf K cnames) 4 "Buy" 12 6 f_Buy_init := mkd_mkD (T := (txOf K cnames)) (N := N_Buy_init) (ps := ["self", "day", "number", "ware", "pieces", "price", "fee"]) (np := 6) rfl txOf_lean g_Buy (cn_at (ns := cnames) 12 N_Buy rfl (p := fun a => InitFactD K a "Buy.__init__" s_Buy_init [.int 0]) Rnf_Buy) sc_Buy_init rfl (by decide) (by decide) (by intro z; cases z) (fun _ _ _ _ _ _ _ us its h1 h2 => by obtain ⟨_, _, _, _, _, _, _, rfl⟩ := Mir.len7_ h1; obtain ⟨_, rfl⟩ := Mir.len1_ h2; exact ⟨_, rfl, rfl⟩) (b_Buy_init k_MOST_PIECES k_MOST_PRICE cl_Buy na_Buy_pieces na_Buy_price na_Buy_fee na_Buy_cost (d_check_range.mono (by decide)) (sup_Entry.mono (by decide)))
  have u_Gift : Mkd l.prog w K mg base (txOf K cnames) 4 "Gift" 14 6 f_Gift_init := mkd_mk (T := (txOf K cnames)) (N := N_Gift_init) (ps := ["self", "day", "number", "ware", "pieces", "cost", "since"]) (np := 6) rfl txOf_lean g_Gift (cn_at (ns := cnames) 14 N_Gift rfl (p := fun a => InitFact K a "Gift.__init__" s_Gift_init) Rnf_Gift) sc_Gift_init rfl (by decide) (by decide) (fun _ _ _ _ _ _ us hl => by obtain ⟨_, _, _, _, _, _, _, rfl⟩ := Mir.len7_ hl; rfl) (b_Gift_init k_MOST_COST k_MOST_PIECES cl_Gift na_Gift_pieces na_Gift_cost na_Gift_since (d_check_range.mono (by decide)) (sup_Entry.mono (by decide)))
  have u_Split : Mkd l.prog w K mg base (txOf K cnames) 4 "Split" 16 5 f_Split_init := mkd_mk (T := (txOf K cnames)) (N := N_Split_init) (ps := ["self", "day", "number", "ware", "many", "of"]) (np := 5) rfl txOf_lean g_Split (cn_at (ns := cnames) 16 N_Split rfl (p := fun a => InitFact K a "Split.__init__" s_Split_init) Rnf_Split) sc_Split_init rfl (by decide) (by decide) (fun _ _ _ _ _ _ us hl => by obtain ⟨_, _, _, _, _, _, rfl⟩ := Mir.len6_ hl; rfl) (b_Split_init cl_Split na_Split_many na_Split_of (d_check_range.mono (by decide)) (sup_Entry.mono (by decide)))
  have u_Parting : Mkd l.prog w K mg base (txOf K cnames) 4 "Parting" 17 6 f_Parting_init := mkd_mk (T := (txOf K cnames)) (N := N_Parting_init) (ps := ["self", "day", "number", "ware", "other", "share", "whole"]) (np := 6) rfl txOf_lean g_Parting (cn_at (ns := cnames) 17 N_Parting rfl (p := fun a => InitFact K a "Parting.__init__" s_Parting_init) Rnf_Parting) sc_Parting_init rfl (by decide) (by decide) (fun _ _ _ _ _ _ us hl => by obtain ⟨_, _, _, _, _, _, _, rfl⟩ := Mir.len7_ hl; rfl) (b_Parting_init x_NoEntry cl_Parting na_Parting_other na_Parting_share na_Parting_whole (d_check_range.mono (by decide)) (d_check_ware.mono (by decide)) (sup_Entry.mono (by decide)))
  have u_Sell_5 : MkdD l.prog w K mg base (txOf K cnames) 4 "Sell" 13 7 5 [.int 0, .non] f_Sell_init_k10z := mkd_fill (T := (txOf K cnames)) (N := N_Sell_init) (ps := ["self", "day", "number", "ware", "pieces", "price", "fee", "named"]) (np := 7) (jj := 0) rfl txOf_lean g_Sell (cn_at (ns := cnames) 13 N_Sell rfl (p := fun a => InitFactD K a "Sell.__init__" s_Sell_init [.int 0, .non]) Rnf_Sell) sc_Sell_init rfl (by decide) (by decide) (by intro z; cases z) rfl rfl (by decide) (fun _ _ _ _ _ _ _ us its h1 h2 => by obtain ⟨_, _, _, _, _, _, rfl⟩ := Mir.len6_ h1; obtain ⟨_, _, rfl⟩ := Mir.len2_ h2; exact ⟨_, rfl, rfl⟩) (b_Sell_init k_MOST_PIECES k_MOST_PRICE cl_Sell na_Sell_pieces na_Sell_price na_Sell_fee na_Sell_named na_Sell_proceeds (d_check_range.mono (by decide)) (d_checked_named.mono (by decide)) (sup_Entry.mono (by decide)))
  have u_Sell_5_fee_named : MkdK l.prog w K mg base (txOf K cnames) 4 "Sell" 13 7 5 ["fee", "named"] [] f_Sell_init_k10z := mkd_kw (T := (txOf K cnames)) (N := N_Sell_init) (ps := ["self", "day", "number", "ware", "pieces", "price", "fee", "named"]) (np := 7) (a := 0) (b := 0) rfl txOf_lean g_Sell (cn_at (ns := cnames) 13 N_Sell rfl (p := fun a => InitFactD K a "Sell.__init__" s_Sell_init [.int 0, .non]) Rnf_Sell) sc_Sell_init rfl (by decide) (by decide) (by intro z; cases z) rfl rfl (fun _ _ _ _ _ _ _ us its ws h1 h2 h3 => match us, h1, its, h2, ws, h3 with | [_, _, _, _, _, _], _, [_, _], _, [_, _], _ => ⟨_, rfl, rfl⟩) (b_Sell_init k_MOST_PIECES k_MOST_PRICE cl_Sell na_Sell_pieces na_Sell_price na_Sell_fee na_Sell_named na_Sell_proceeds (d_check_range.mono (by decide)) (d_checked_named.mono (by decide)) (sup_Entry.mono (by decide)))
  have u_Sell_5_named : MkdK l.prog w K mg base (txOf K cnames) 4 "Sell" 13 7 5 ["named"] [.int 0] f_Sell_init_k10z := mkd_kw (T := (txOf K cnames)) (N := N_Sell_init) (ps := ["self", "day", "number", "ware", "pieces", "price", "fee", "named"]) (np := 7) (a := 0) (b := 1) rfl txOf_lean g_Sell (cn_at (ns := cnames) 13 N_Sell rfl (p := fun a => InitFactD K a "Sell.__init__" s_Sell_init [.int 0, .non]) Rnf_Sell) sc_Sell_init rfl (by decide) (by decide) (by intro z; cases z) rfl rfl (fun _ _ _ _ _ _ _ us its ws h1 h2 h3 => match us, h1, its, h2, ws, h3 with | [_, _, _, _, _, _], _, [_, _], _, [_], _ => ⟨_, rfl, rfl⟩) (b_Sell_init k_MOST_PIECES k_MOST_PRICE cl_Sell na_Sell_pieces na_Sell_price na_Sell_fee na_Sell_named na_Sell_proceeds (d_check_range.mono (by decide)) (d_checked_named.mono (by decide)) (sup_Entry.mono (by decide)))
  have u_Sell : Mkd l.prog w K mg base (txOf K cnames) 4 "Sell" 13 7 f_Sell_init_k10z := mkd_mkD (T := (txOf K cnames)) (N := N_Sell_init) (ps := ["self", "day", "number", "ware", "pieces", "price", "fee", "named"]) (np := 7) rfl txOf_lean g_Sell (cn_at (ns := cnames) 13 N_Sell rfl (p := fun a => InitFactD K a "Sell.__init__" s_Sell_init [.int 0, .non]) Rnf_Sell) sc_Sell_init rfl (by decide) (by decide) (by intro z; cases z) (fun _ _ _ _ _ _ _ us its h1 h2 => by obtain ⟨_, _, _, _, _, _, _, _, rfl⟩ := Mir.len8_ h1; obtain ⟨_, _, rfl⟩ := Mir.len2_ h2; exact ⟨_, rfl, rfl⟩) (b_Sell_init k_MOST_PIECES k_MOST_PRICE cl_Sell na_Sell_pieces na_Sell_price na_Sell_fee na_Sell_named na_Sell_proceeds (d_check_range.mono (by decide)) (d_checked_named.mono (by decide)) (sup_Entry.mono (by decide)))
  have u_Give_4_named : MkdK l.prog w K mg base (txOf K cnames) 4 "Give" 15 5 4 ["named"] [] f_Give_init_k10z := mkd_kw (T := (txOf K cnames)) (N := N_Give_init) (ps := ["self", "day", "number", "ware", "pieces", "named"]) (np := 5) (a := 0) (b := 0) rfl txOf_lean g_Give (cn_at (ns := cnames) 15 N_Give rfl (p := fun a => InitFactD K a "Give.__init__" s_Give_init [.non]) Rnf_Give) sc_Give_init rfl (by decide) (by decide) (by intro z; cases z) rfl rfl (fun _ _ _ _ _ _ _ us its ws h1 h2 h3 => match us, h1, its, h2, ws, h3 with | [_, _, _, _, _], _, [_], _, [_], _ => ⟨_, rfl, rfl⟩) (b_Give_init k_MOST_PIECES cl_Give na_Give_pieces na_Give_named (d_check_range.mono (by decide)) (d_checked_named.mono (by decide)) (sup_Entry.mono (by decide)))
  have u_Give : Mkd l.prog w K mg base (txOf K cnames) 4 "Give" 15 5 f_Give_init_k10z := mkd_mkD (T := (txOf K cnames)) (N := N_Give_init) (ps := ["self", "day", "number", "ware", "pieces", "named"]) (np := 5) rfl txOf_lean g_Give (cn_at (ns := cnames) 15 N_Give rfl (p := fun a => InitFactD K a "Give.__init__" s_Give_init [.non]) Rnf_Give) sc_Give_init rfl (by decide) (by decide) (by intro z; cases z) (fun _ _ _ _ _ _ _ us its h1 h2 => by obtain ⟨_, _, _, _, _, _, rfl⟩ := Mir.len6_ h1; obtain ⟨_, rfl⟩ := Mir.len1_ h2; exact ⟨_, rfl, rfl⟩) (b_Give_init k_MOST_PIECES cl_Give na_Give_pieces na_Give_named (d_check_range.mono (by decide)) (d_checked_named.mono (by decide)) (sup_Entry.mono (by decide)))
  have d__law_made : Def l.prog w K mg base (txOf K cnames) 6 "_law_made" 1 f_made_k10z := def_mk (T := (txOf K cnames)) (N := N__law_made) (ps := ["_law_told"]) X G F__law_made sc__law_made rfl txOf_lean (fun _ _ _ _ _ _ us hl => by obtain ⟨_, rfl⟩ := Mir.len1_ hl; rfl) (b__law_made z_list (u_Buy.mono (by decide)) (u_Gift.mono (by decide)) (u_Split.mono (by decide)) (u_Parting.mono (by decide)) (u_Sell.mono (by decide)) (u_Give.mono (by decide)))
  have d__law_right : Def l.prog w K mg base (txOf K cnames) 7 "_law_right" 1 f_right_k10z := def_mk (T := (txOf K cnames)) (N := N__law_right) (ps := ["_law_told"]) X G F__law_right sc__law_right rfl txOf_lean (fun _ _ _ _ _ _ us hl => by obtain ⟨_, rfl⟩ := Mir.len1_ hl; rfl) (b__law_right z_isinstance z_list z_tuple cl_Buy na_Buy_ware cl_Sell na_Sell_ware cl_Gift na_Gift_ware cl_Give na_Give_ware cl_Split na_Split_ware cl_Parting na_Parting_ware na_Buy_number na_Sell_number na_Gift_number na_Give_number na_Split_number na_Parting_number na_Buy_day na_Sell_day na_Gift_day na_Give_day na_Split_day na_Parting_day if_Buy k_Buy_Entry if_Sell k_Sell_Entry if_Gift k_Gift_Entry if_Give k_Give_Entry if_Split k_Split_Entry if_Parting k_Parting_Entry g_Entry na_Sell_named na_Give_named (mt_Buy_told.mono (by decide)) (mt_Sell_told.mono (by decide)) (mt_Gift_told.mono (by decide)) (mt_Give_told.mono (by decide)) (mt_Split_told.mono (by decide)) (mt_Parting_told.mono (by decide)) (mt_Buy_word.mono (by decide)) (mt_Sell_word.mono (by decide)) (mt_Gift_word.mono (by decide)) (mt_Give_word.mono (by decide)) (mt_Split_word.mono (by decide)) (mt_Parting_word.mono (by decide)) (u_Give_4_named.mono (by decide)) (u_Sell_5_fee_named.mono (by decide)) (d__law_fields.mono (by decide)) (d__law_kinds.mono (by decide)) (d__law_made.mono (by decide)))
  exact b_law z_enumerate (mt_Sell_told.mono (by decide)) (mt_Buy_told.mono (by decide)) (u_Buy_5.mono (by decide)) (u_Sell_5.mono (by decide)) (u_Sell_5_named.mono (by decide)) (d__law_cell_at.mono (by decide)) (d__law_cells.mono (by decide)) (d__law_digits.mono (by decide)) (d__law_entry.mono (by decide)) (d__law_right.mono (by decide)) (d__law_wares.mono (by decide)) (d__law_with_named.mono (by decide))
end L_k10_entries_made
set_option Elab.async false
set_option linter.all false
set_option maxRecDepth 100000
namespace Mir
open PySem L2
section
variable {α β σ τ : Type} {S S' : Store} {w w1 w2 w3 : Wv} {d : D} {a b c : M Wv} {m : M α} {k : α → M β} {md : M D} {ml : M (List D)} {p q : M Bool} {x : Xn}
@[simp] theorem x_pur {a : α} : pur a S = .ok a S := rfl
@[simp] theorem x_bnd : bnd m k S = bindR (m S) k := rfl
@[simp] theorem x_bnO {m : M (Out σ)} {k : σ → M (Out τ)} : bnO m k S = bindR (m S) (onO k) := rfl
@[simp] theorem x_bnT {m : M (Out σ)} {k : σ → M Wv} : bnT m k S = bindR (m S) (onT k) := rfl
@[simp] theorem x_onO {k : σ → M (Out τ)} {s : σ} : onO k (.nx s) S = k s S := rfl
@[simp] theorem x_onOr {k : σ → M (Out τ)} : onO k (.rt w) S = .ok (.rt w) S := rfl
@[simp] theorem x_onT {k : σ → M Wv} {s : σ} : onT k (.nx s) S = k s S := rfl
@[simp] theorem x_onTr {k : σ → M Wv} : onT k (.rt w) S = .ok w S := rfl
@[simp] theorem x_ift {a b : M α} : ift p a b S = bindR (p S) fun c S => if c then a S else b S := rfl
@[simp] theorem x_rd : rd (.fz d) S = .ok (.fz d) S := rfl
@[simp] theorem x_rdo {so : SO} : rd (.ow so) S = .ok (.ow so) S := rfl
@[simp] theorem x_rdD : rdD (.fz d) S = .ok d S := rfl
@[simp] theorem x_fzn : (Wv.fz d).fzn = .fz d := rfl
@[simp] theorem x_fzno {so : SO} : (Wv.ow so).fzn = .fz (Wv.ow so).frz := rfl
@[simp] theorem x_up : dUp md S = bindR (md S) fun d S => .ok (.fz d) S := rfl
@[simp] theorem x_fz : dFz a S = bindR (a S) fun w S => .ok w.frz S := rfl
@[simp] theorem x_cons : dCons md ml S = bindR (md S) fun d S => bindR (ml S) fun r S => .ok (d :: r) S := rfl
@[simp] theorem x_consB {r : M (List Wv)} : dConsB a r S = bindR (a S) fun d S => bindR (r S) fun r S => .ok (d :: r) S := rfl
@[simp] theorem x_tup : dTup ml S = bindR (ml S) fun r S => if szOk r.length then .ok (.tup r) S else .bad := rfl
@[simp] theorem x_lst : dLst ml S = bindR (ml S) fun r S => if szOk r.length then .ok (.ow (.lst r)) S else .bad := rfl
@[simp] theorem x_bin {k : Wv → Wv → M α} : dBin k a b S = bindR (a S) fun w1 S => bindR (b S) fun w2 S => k w1 w2 S := rfl
@[simp] theorem x_un {k : Wv → M α} : dUn k a S = bindR (a S) fun w S => k w S := rfl
@[simp] theorem x_bl : dBl p S = bindR (p S) fun b S => .ok (.fz (.bl b)) S := rfl
@[simp] theorem x_chain {k k' : Wv → Wv → M Bool} : dChain k k' a b c S = bindR (a S) fun w1 S => bindR (b S) fun w2 S => bindR (k w1 w2 S) fun z S => if z then bindR (c S) fun w3 S => k' w2 w3 S else .ok false S := rfl
@[simp] theorem x_and : dAnd p q S = bindR (p S) fun b S => if b then q S else .ok false S := rfl
@[simp] theorem x_or : dOr p q S = bindR (p S) fun b S => if b then .ok true S else q S := rfl
@[simp] theorem x_not : dNot p S = bindR (p S) fun b S => .ok (!b) S := rfl
@[simp] theorem x_tst : dTst a S = bindR (a S) tstW := rfl
@[simp] theorem x_andV : dAndV a b S = bindR (a S) fun w S => bindR (tstW w S) fun z S => if z then b S else .ok (.fz (.bl false)) S := s_andV
@[simp] theorem x_orV : dOrV a b S = bindR (a S) fun w S => bindR (tstW w S) fun z S => if z then .ok (.fz (.bl true)) S else b S := s_orV
@[simp] theorem x_notV : dNotV a S = bindR (a S) fun w S => bindR (tstW w S) fun z S => .ok (.fz (.bl (!z))) S := s_notV
@[simp] theorem x_part : dPart a S = bindR (a S) prtW := rfl
@[simp] theorem x_sl {l h : M (Option Int)} : dSl a l h S = bindR (a S) fun w S => bindR (l S) fun lo S => bindR (h S) fun hi S => opSl w lo hi S := rfl
@[simp] theorem x_call {f : Fn} : dCall f ml S = bindR (ml S) fun args S => f args S := rfl
@[simp] theorem x_items : dItems md S = bindR (md S) fun d S => itO (itemsD d) S := rfl
@[simp] theorem x_fld {f : Str} {cs : List Nat} : dFld f cs a S = bindR (a S) fun w S => fldO f cs S (insW S w) := rfl
noncomputable def methD (o : Option Fn) (fs : M (List D)) (d : D) (S : Store) : R Wv := match o with
  | some fn => bindR (fs S) fun args S => fn (d :: args) S
  | none => .bad
@[simp] theorem x_meth {m : Str} {disp : Nat → Option Fn} : dMeth m disp md ml S = bindR (md S) fun d S => methD (dispO m disp (insW S (.fz d))) ml d S := by
  unfold dMeth cMeth methD
  refine congrArg (bindR (md S)) (funext fun d => funext fun S => ?_)
  cases dispO m disp (insW S (.fz d)) <;> rfl
@[simp] theorem x_methD {fn : Fn} : methD (some fn) ml d S = bindR (ml S) fun args S => fn (d :: args) S := rfl
@[simp] theorem x_mk {c : Nat} {m : FnI} : dMk c m ml S = bindR (ml S) fun args S => mkO c (m args [] S) := rfl
@[simp] theorem x_mk0 {c : Nat} : dMk0 c S = .ok (.ow (.ins c [])) S := rfl
@[simp] theorem x_isO {tst : Nat → Option Bool} : dIsO tst a S = bindR (a S) fun w S => isO tst S (insW S w) := rfl
@[simp] theorem x_mut {ty : String} {m : Mu} : dMut ty m w ml S = if tyW ty w S then bindR (ml S) fun args S => bindR (mutW m w args S) fun p S => .ok p.1 S else .bad := rfl
@[simp] theorem x_mutR {ty : String} {m : Mu} : dMutR ty m w ml S = if tyW ty w S then bindR (ml S) fun args S => mutW m w args S else .bad := rfl
@[simp] theorem x_tyW1 {xs : List D} : tyW "list" (.ow (.lst xs)) S = true := rfl
@[simp] theorem x_tyW2 {xs : List (Key × D)} : tyW "dict" (.ow (.dct xs)) S = true := rfl
noncomputable def mutR1 (o : Option (SO × D)) (S : Store) : R (Wv × D) := match o with
  | some (so, d) => .ok (.ow so, d) S
  | none => .bad
@[simp] theorem x_mutW {m : Mu} {so : SO} {args : List D} : mutW m (.ow so) args S = mutR1 (m so args) S := by
  unfold mutW mutR1
  dsimp only <;> (cases m so args <;> rfl)
@[simp] theorem x_mutR1 {so : SO} : mutR1 (some (so, d)) S = .ok (.ow so, d) S := rfl
@[simp] theorem x_putL {fv fk : M D} : dPutL w fv fk S = bindR (fv S) fun v S => if tyW "list" w S then bindR (fk S) fun k S => bindR (mutW mPutL w [k, v] S) fun p S => .ok p.1 S else .bad := rfl
@[simp] theorem x_idx {a : M Wv} {b : M D} : dIdx a b S = bindR (a S) fun w S => if (viewL S w).isSome then bindR (b S) fun d S => opIdx w d S else .bad := rfl
@[simp] theorem x_put {fv fk : M D} : dPut w fv fk S = bindR (fv S) fun v S => if tyW "dict" w S then bindR (fk S) fun k S => bindR (mutW mPut w [k, v] S) fun p S => .ok p.1 S else .bad := rfl
noncomputable def putO (kvs : List (Key × D)) (o : Option Key) (v : D) : Option (SO × D) := match o with
  | some k => if szOk (kvs.length + 1) then some (.dct (putD kvs k v), .non) else none
  | none => none
@[simp] theorem x_mPut {kvs : List (Key × D)} {k v : D} : mPut (.dct kvs) [k, v] = putO kvs (keyD k) v := by
  unfold mPut putO
  dsimp only <;> (cases keyD k <;> rfl)
@[simp] theorem x_putO {kvs : List (Key × D)} {k : Key} {v : D} : putO kvs (some k) v = if szOk (kvs.length + 1) then some (.dct (putD kvs k v), .non) else none := rfl
@[simp] theorem x_keyI {i : Int} : keyD (.int i) = some (.inl i) := rfl
@[simp] theorem x_keyS {z : Str} : keyD (.str z) = some (.inr z) := rfl
noncomputable def get1O (o : Option (List (Key × D))) (k : Option Key) (S : Store) : R Wv := match o, k with
  | some kvs, some k => .ok (.fz ((lkD kvs k).getD .non)) S
  | _, _ => .bad
noncomputable def get2O (o : Option (List (Key × D))) (k : Option Key) (d : D) (S : Store) : R Wv := match o, k with
  | some kvs, some k => .ok (.fz ((lkD kvs k).getD d)) S
  | _, _ => .bad
@[simp] theorem x_get1 : dGet1 a b S = bindR (a S) fun w1 S => if (viewK S w1).isSome then bindR (b S) fun w2 S => get1O (viewK S w1) (keyW w2) S else .bad := by
  unfold dGet1 cGet1 opGet1 get1O
  rfl
@[simp] theorem x_get2 {e : M D} : dGet2 a b e S = bindR (a S) fun w1 S => if (viewK S w1).isSome then bindR (b S) fun w2 S => bindR (e S) fun d S => get2O (viewK S w1) (keyW w2) d S else .bad := by
  unfold dGet2 cGet2 opGet2 get2O
  rfl
@[simp] theorem x_get1O {kvs : List (Key × D)} {k : Key} : get1O (some kvs) (some k) S = .ok (.fz ((lkD kvs k).getD .non)) S := rfl
@[simp] theorem x_get2O {kvs : List (Key × D)} {k : Key} : get2O (some kvs) (some k) d S = .ok (.fz ((lkD kvs k).getD d)) S := rfl
@[simp] theorem x_aug {k : Wv → Wv → M Wv} : dAug k (.fz d) a S = bindR (a S) fun w2 S => k (.fz d) w2 S := rfl
@[simp] theorem x_lend {ok : α → Bool} {d : Wv → M α} {xs : List D} : dLend (.ow (.lst xs)) ok d S = lendR ok (d (.fz (.lst xs)) S) := rfl
@[simp] theorem x_lendTK {d : Wv → M Bool} {kvs : List (Key × D)} : dLendTK (.ow (.dct kvs)) d S = lendRK (d (.fz (.dct kvs)) S) := rfl
@[simp] theorem x_lendRK {y : Bool} : lendRK (.ok y S) = if noDctS S then .ok y S else .bad := rfl
@[simp] theorem x_lenK1 {kvs : List (Key × D)} : bLen [.ow (.dct kvs)] S = .ok (.fz (.int kvs.length)) S := rfl
@[simp] theorem x_lenK2 {kvs : List (Key × D)} : bLen [.fz (.dct kvs)] S = .ok (.fz (.int kvs.length)) S := rfl
@[simp] theorem x_lendR {ok : α → Bool} {y : α} : lendR ok (.ok y S) = if ok y && noLstS S then .ok y S else .bad := rfl
@[simp] theorem x_raise {c : Nat} : (dRaise c : M α) S = .ex (c, none) S := rfl
@[simp] theorem x_raiseN {c : Nat} {f : Str} : (dRaiseN c f a : M α) S = bindR (a S) (rzN c f) := rfl
@[simp] theorem x_disp {ks : List (Str × M D)} : dDisp ks S = bindR (dDp ks S) fun kvs S => .ok (.ow (.dct (mergeD kvs))) S := rfl
@[simp] theorem x_dp0 : dDp [] S = .ok [] S := rfl
@[simp] theorem x_dp1 {k : Str} {f : M D} {r : List (Str × M D)} : dDp ((k, f) :: r) S = bindR (f S) fun d S => bindR (dDp r S) fun kvs S => .ok ((.inr k, d) :: kvs) S := rfl
@[simp] theorem x_dispG {ks : List (M D × M D)} : dDispG ks S = bindR (dDpG ks S) fun kvs S => .ok (.ow (.dct (mergeD kvs))) S := rfl
@[simp] theorem x_dpG0 : dDpG [] S = .ok [] S := rfl
noncomputable def keyR (o : Option Key) (d : D) (kvs : List (Key × D)) (S : Store) : R (List (Key × D)) := match o with
  | some k => .ok ((k, d) :: kvs) S
  | none => .bad
@[simp] theorem x_keyR {k : Key} {d : D} {kvs : List (Key × D)} : keyR (some k) d kvs S = .ok ((k, d) :: kvs) S := rfl
@[simp] theorem x_dpG1 {k f : M D} {r : List (M D × M D)} : dDpG ((k, f) :: r) S = bindR (k S) fun kd S => bindR (f S) fun d S => bindR (dDpG r S) fun kvs S => keyR (keyD kd) d kvs S := rfl
noncomputable def popO (kvs : List (Key × D)) (o : Option Key) : Option (SO × D) := match o with
  | some k => match lkD kvs k with
    | some d => some (.dct (delD kvs k), d)
    | none => none
  | none => none
@[simp] theorem x_mDPop {kvs : List (Key × D)} {k : D} : mDPop (.dct kvs) [k] = popO kvs (keyD k) := by
  unfold mDPop popO
  dsimp only <;> (cases keyD k <;> rfl)
@[simp] theorem x_itStr {z : Str} : itemsD (.str z) = some (z.cps.toList.map fun c => .str ⟨#[c]⟩) := rfl
@[simp] theorem x_itDct {kvs : List (Key × D)} : itemsD (.dct kvs) = some (kvs.map fun kv => keyDD kv.1) := rfl
@[simp] theorem x_enumL {xs : List D} : enumO [.lst xs] S = .ok (enumD xs) S := rfl
noncomputable def tupO (o : Option (List D)) (S : Store) : R Wv := match o with
  | some xs => .ok (.fz (.tup xs)) S
  | none => .bad
@[simp] theorem x_tupO {xs : List D} : tupO (some xs) S = .ok (.fz (.tup xs)) S := rfl
@[simp] theorem x_bTuple {w : Wv} : bTuple [w] S = tupO (itemsOf S w) S := rfl
noncomputable def dctO (o : Option (List (Key × D))) (S : Store) : R Wv := match o with
  | some kvs => .ok (.ow (.dct kvs)) S
  | none => .bad
@[simp] theorem x_dctO {kvs : List (Key × D)} : dctO (some kvs) S = .ok (.ow (.dct kvs)) S := rfl
@[simp] theorem x_bDict {w : Wv} : bDict [w] S = dctO (viewK S w) S := rfl
@[simp] theorem x_upper {z : Str} : opUpper (.fz (.str z)) S = if decide (z.length ≤ 5592405) then .ok (.fz (.str (Txt.upper z))) S else .bad := rfl
noncomputable def erFO (d : D) (S : Store) : R Wv := match d with
  | .int i => .ok (.fz (.int i)) S
  | _ => .bad
@[simp] theorem x_callR {f : Fn} : dCallR f ml S = bindR (ml S) (callR f) := rfl
@[simp] theorem x_mutX {ty : String} {m : Mu} {o : M Wv} {fs : M (List D)} : dMutX ty m o fs S = bindR (o S) (mutX ty m fs) := rfl
@[simp] theorem x_shr {so : SO} {d : Wv → M Wv} : dShr (.ow so) d S = shrR (d (.fz (.ref S.length)) (S ++ [so])) := rfl
@[simp] theorem x_shrR : shrR (.ok w S) = .ok w S := rfl
@[simp] theorem x_erF : dErF md S = bindR (md S) erFO := rfl
@[simp] theorem x_erFO {i : Int} : erFO (.int i) S = .ok (.fz (.int i)) S := rfl
@[simp] theorem x_rzN {c : Nat} {f : Str} {i : Int} : (rzN c f (.fz (.int i)) S : R α) = .ex (c, some (f, i)) S := rfl
@[simp] theorem x_rev {xs : List D} : opRev (.fz (.lst xs)) S = .ok (.ow (.lst xs.reverse)) S := rfl
@[simp] theorem x_revo {xs : List D} : opRev (.ow (.lst xs)) S = .ok (.ow (.lst xs.reverse)) S := rfl
noncomputable def srtO (xs : List D) (S : Store) : R Wv := if okSrt xs then .ok (.ow (.lst (xs.mergeSort leD))) S else .bad
@[simp] theorem x_lt2 {a b c d : Int} : opLt2 (.fz (.tup [.int a, .int b])) (.fz (.tup [.int c, .int d])) S = .ok (lt2 a b c d) S := rfl
@[simp] theorem x_sortK1 {m : Fn} {xs : List D} : bSortK m [.fz (.lst xs)] S = srtKO m xs S := rfl
@[simp] theorem x_sortK2 {m : Fn} {xs : List D} : bSortK m [.ow (.lst xs)] S = srtKO m xs S := rfl
@[simp] theorem x_sorted1 {xs : List D} : bSorted [.fz (.lst xs)] S = srtO xs S := rfl
@[simp] theorem x_sorted2 {xs : List D} : bSorted [.ow (.lst xs)] S = srtO xs S := rfl
noncomputable def trO (tst : Option Bool) (E : Env) (h : Xn → M α) (x : Xn) (S : Store) : R α := match tst with
  | some true => if noXc E then noEx (h x S) else .bad
  | some false => .ex x S
  | none => .bad
noncomputable def trR (tst : Nat → Option Bool) (E : Env) (h : Xn → M α) : R α → R α
  | .ex x S => trO (tst x.1) E h x S
  | r => r
@[simp] theorem x_try {tst : Nat → Option Bool} {E : Env} {m : M α} {h : Xn → M α} : dTry tst E m h S = trR tst E h (m S) := by
  unfold dTry trR
  cases m S with
  | ex x S => unfold trO; cases tst x.1 with
    | none => rfl
    | some b => cases b <;> rfl
  | _ => rfl
@[simp] theorem x_tryok {tst : Nat → Option Bool} {E : Env} {h : Xn → M α} {y : α} : trR tst E h (.ok y S) = .ok y S := rfl
@[simp] theorem x_tryex {tst : Nat → Option Bool} {E : Env} {h : Xn → M α} : trR tst E h (.ex x S) = trO (tst x.1) E h x S := rfl
@[simp] theorem x_tryO1 {E : Env} {h : Xn → M α} : trO (some true) E h x S = if noXc E then noEx (h x S) else .bad := rfl
@[simp] theorem x_tryO2 {E : Env} {h : Xn → M α} : trO (some false) E h x S = .ex x S := rfl
@[simp] theorem x_noEx {y : α} : noEx (.ok y S) = .ok y S := rfl
@[simp] theorem x_tab1 {c : Nat} {b : Bool} {l : List (Nat × Bool)} : tab ((c, b) :: l) c = some b := by
  unfold tab List.lookup
  simp
@[simp] theorem x_noXc0 : noXc [] = true := rfl
@[simp] theorem x_noXc1 {r : Env} : noXc (none :: r) = noXc r := by simp [noXc]
@[simp] theorem x_noXc2 {r : Env} : noXc (some (.fz d) :: r) = noXc r := by simp [noXc]
@[simp] theorem x_noXc3 {so : SO} {r : Env} : noXc (some (.ow so) :: r) = noXc r := by simp [noXc]
noncomputable def xsO (o : Option Bool) (S : Store) : R Wv := match o with
  | some b => .ok (.fz (.bl b)) S
  | none => .bad
@[simp] theorem x_xis {tst : Nat → Option Bool} {y : Xn} : dXis tst y S = xsO (tst y.1) S := by
  unfold dXis cXis xsO
  cases tst y.1 <;> rfl
@[simp] theorem x_xisO {b : Bool} : xsO (some b) S = .ok (.fz (.bl b)) S := rfl
@[simp] theorem x_lcStep {t : M Bool} {e : M D} : lcStep t e S = bindR (noEx (t S)) fun b S => if b then bindR (noEx (e S)) (fun y S => .ok (some y) S) else .ok none S := rfl
theorem lcS_fm {α : Type} {f : D → M (Option D)} {g : α → Option D} (enc : α → D) : ∀ (xs : List α) (acc : List D), (∀ x ∈ xs, f (enc x) S = .ok (g x) S) → acc.length + xs.length ≤ 16777216 → lcS f (xs.map enc) acc S = .ok (.ow (.lst (acc ++ xs.filterMap g))) S
  | [], acc, _, _ => by simp [lcS]
  | x :: r, acc, h, hl => by
    have hx := h x List.mem_cons_self
    unfold lcS
    rw [List.map_cons]
    dsimp only
    rw [hx]
    rw [List.length_cons] at hl
    cases q : g x with
    | none =>
      show lcS f (r.map enc) acc S = _
      rw [lcS_fm enc r acc (fun y hy => h y (List.mem_cons_of_mem _ hy)) (by omega), List.filterMap_cons, q]
    | some y =>
      show (if szOk (acc.length + 1) = true then lcS f (r.map enc) (acc ++ [y]) S else .bad) = _
      rw [if_pos (szOk_le (by omega)), lcS_fm enc r (acc ++ [y]) (fun y hy => h y (List.mem_cons_of_mem _ hy)) (by rw [List.length_append, List.length_singleton]; omega), List.filterMap_cons, q, List.append_assoc]
      rfl
theorem lcS_map {α : Type} {f : D → M (Option D)} {g : α → D} (enc : α → D) (xs : List α) (h : ∀ x ∈ xs, f (enc x) S = .ok (some (g x)) S) (hl : xs.length ≤ 16777216) : lcS f (xs.map enc) [] S = .ok (.ow (.lst (xs.map g))) S := by
  rw [lcS_fm (g := fun x => some (g x)) enc xs [] h (by simpa using hl), List.nil_append]
  have e : xs.filterMap (fun x => some (g x)) = xs.map g := by simp [List.filterMap_eq_map]
  rw [e]
theorem lcS_filter {α : Type} {f : D → M (Option D)} {g : α → D} {t : α → Bool} (enc : α → D) (xs : List α) (h : ∀ x ∈ xs, f (enc x) S = .ok (if t x then some (g x) else none) S) (hl : xs.length ≤ 16777216) : lcS f (xs.map enc) [] S = .ok (.ow (.lst ((xs.filter t).map g))) S := by
  rw [lcS_fm (g := fun x => if t x then some (g x) else none) enc xs [] h (by simpa using hl), List.nil_append]
  congr 3
  clear h hl
  induction xs with
  | nil => rfl
  | cons x r ih =>
    rw [List.filterMap_cons, List.filter_cons]
    cases t x with
    | true => simp [ih]
    | false => simp [ih]
theorem forD_cons {body : D → σ → M σ} {r : List D} {s s' : σ} (h : body d s S = .ok s' S) : forD body (d :: r) s S = forD body r s' S := by
  show bindR (body d s S) (forD body r) = _
  rw [h]
  rfl
@[simp] theorem x_un1 {k : D → M β} {x0 : D} : un1 (.fz (.tup [x0])) k S = k x0 S := rfl
@[simp] theorem x_unl1 {k : D → M β} {x0 : D} : un1 (.fz (.lst [x0])) k S = k x0 S := rfl
@[simp] theorem x_uno1 {k : D → M β} {x0 : D} : un1 (.ow (.lst [x0])) k S = k x0 S := rfl
@[simp] theorem x_un2 {k : D → D → M β} {x0 x1 : D} : un2 (.fz (.tup [x0, x1])) k S = k x0 x1 S := rfl
@[simp] theorem x_unl2 {k : D → D → M β} {x0 x1 : D} : un2 (.fz (.lst [x0, x1])) k S = k x0 x1 S := rfl
@[simp] theorem x_uno2 {k : D → D → M β} {x0 x1 : D} : un2 (.ow (.lst [x0, x1])) k S = k x0 x1 S := rfl
@[simp] theorem x_un3 {k : D → D → D → M β} {x0 x1 x2 : D} : un3 (.fz (.tup [x0, x1, x2])) k S = k x0 x1 x2 S := rfl
@[simp] theorem x_unl3 {k : D → D → D → M β} {x0 x1 x2 : D} : un3 (.fz (.lst [x0, x1, x2])) k S = k x0 x1 x2 S := rfl
@[simp] theorem x_uno3 {k : D → D → D → M β} {x0 x1 x2 : D} : un3 (.ow (.lst [x0, x1, x2])) k S = k x0 x1 x2 S := rfl
@[simp] theorem x_un4 {k : D → D → D → D → M β} {x0 x1 x2 x3 : D} : un4 (.fz (.tup [x0, x1, x2, x3])) k S = k x0 x1 x2 x3 S := rfl
@[simp] theorem x_unl4 {k : D → D → D → D → M β} {x0 x1 x2 x3 : D} : un4 (.fz (.lst [x0, x1, x2, x3])) k S = k x0 x1 x2 x3 S := rfl
@[simp] theorem x_uno4 {k : D → D → D → D → M β} {x0 x1 x2 x3 : D} : un4 (.ow (.lst [x0, x1, x2, x3])) k S = k x0 x1 x2 x3 S := rfl
@[simp] theorem x_un5 {k : D → D → D → D → D → M β} {x0 x1 x2 x3 x4 : D} : un5 (.fz (.tup [x0, x1, x2, x3, x4])) k S = k x0 x1 x2 x3 x4 S := rfl
@[simp] theorem x_unl5 {k : D → D → D → D → D → M β} {x0 x1 x2 x3 x4 : D} : un5 (.fz (.lst [x0, x1, x2, x3, x4])) k S = k x0 x1 x2 x3 x4 S := rfl
@[simp] theorem x_uno5 {k : D → D → D → D → D → M β} {x0 x1 x2 x3 x4 : D} : un5 (.ow (.lst [x0, x1, x2, x3, x4])) k S = k x0 x1 x2 x3 x4 S := rfl
@[simp] theorem x_un6 {k : D → D → D → D → D → D → M β} {x0 x1 x2 x3 x4 x5 : D} : un6 (.fz (.tup [x0, x1, x2, x3, x4, x5])) k S = k x0 x1 x2 x3 x4 x5 S := rfl
@[simp] theorem x_unl6 {k : D → D → D → D → D → D → M β} {x0 x1 x2 x3 x4 x5 : D} : un6 (.fz (.lst [x0, x1, x2, x3, x4, x5])) k S = k x0 x1 x2 x3 x4 x5 S := rfl
@[simp] theorem x_uno6 {k : D → D → D → D → D → D → M β} {x0 x1 x2 x3 x4 x5 : D} : un6 (.ow (.lst [x0, x1, x2, x3, x4, x5])) k S = k x0 x1 x2 x3 x4 x5 S := rfl
@[simp] theorem x_un7 {k : D → D → D → D → D → D → D → M β} {x0 x1 x2 x3 x4 x5 x6 : D} : un7 (.fz (.tup [x0, x1, x2, x3, x4, x5, x6])) k S = k x0 x1 x2 x3 x4 x5 x6 S := rfl
@[simp] theorem x_unl7 {k : D → D → D → D → D → D → D → M β} {x0 x1 x2 x3 x4 x5 x6 : D} : un7 (.fz (.lst [x0, x1, x2, x3, x4, x5, x6])) k S = k x0 x1 x2 x3 x4 x5 x6 S := rfl
@[simp] theorem x_uno7 {k : D → D → D → D → D → D → D → M β} {x0 x1 x2 x3 x4 x5 x6 : D} : un7 (.ow (.lst [x0, x1, x2, x3, x4, x5, x6])) k S = k x0 x1 x2 x3 x4 x5 x6 S := rfl
@[simp] theorem x_un8 {k : D → D → D → D → D → D → D → D → M β} {x0 x1 x2 x3 x4 x5 x6 x7 : D} : un8 (.fz (.tup [x0, x1, x2, x3, x4, x5, x6, x7])) k S = k x0 x1 x2 x3 x4 x5 x6 x7 S := rfl
@[simp] theorem x_unl8 {k : D → D → D → D → D → D → D → D → M β} {x0 x1 x2 x3 x4 x5 x6 x7 : D} : un8 (.fz (.lst [x0, x1, x2, x3, x4, x5, x6, x7])) k S = k x0 x1 x2 x3 x4 x5 x6 x7 S := rfl
@[simp] theorem x_uno8 {k : D → D → D → D → D → D → D → D → M β} {x0 x1 x2 x3 x4 x5 x6 x7 : D} : un8 (.ow (.lst [x0, x1, x2, x3, x4, x5, x6, x7])) k S = k x0 x1 x2 x3 x4 x5 x6 x7 S := rfl
end
end Mir
set_option Elab.async false
set_option linter.all false
set_option maxRecDepth 100000
set_option exponentiation.threshold 100000
namespace G
open PySem L2 Mir
variable {S : Store}
noncomputable def topS : Nat → Int
  | 0 => 9
  | 1 => 5
  | 2 => 6
  | _ => 30
structure Lt where
  n : Int
  s : Int
  p : Int
  c : Int
noncomputable abbrev Lt.row (l : Lt) : List Int := [l.s, l.n, l.p, l.c]
noncomputable abbrev Lt.quad (l : Lt) : List Int := [l.n, l.s, l.p, l.c]
noncomputable def Lt.of : List Int → Lt
  | [s, n, p, c] => ⟨n, s, p, c⟩
  | _ => ⟨0, 0, 0, 0⟩
structure Lt.Good (l : Lt) : Prop where
  s0 : 0 ≤ l.s
  s1 : l.s ≤ 1000000
  n0 : 0 ≤ l.n
  n1 : l.n ≤ 1000000
  p0 : 1 ≤ l.p
  p1 : l.p ≤ 1000000000
  c0 : 0 ≤ l.c
  c1 : l.c ≤ 1000000000000000000
noncomputable def Lt.Bef (a b : Lt) : Prop := a.s < b.s ∨ (a.s = b.s ∧ a.n < b.n)
structure Row (R : List Lt) : Prop where
  good : ∀ l ∈ R, l.Good
  nd : (R.map Lt.n).Nodup
  pw : R.Pairwise Lt.Bef
noncomputable abbrev rowD (l : Lt) : D := tupD l.row
noncomputable abbrev qd (l : Lt) : D := .tup [.int l.n, .int l.s, .int l.p, .int l.c]
end G
set_option Elab.async false
set_option linter.all false
set_option maxRecDepth 100000
set_option exponentiation.threshold 100000
namespace G
open PySem L2 Mir
variable {S : Store}
noncomputable def lotF (n s p c : Int) : List (Str × D) := [("number", .int n), ("since", .int s), ("pieces", .int p), ("cost", .int c)]
noncomputable abbrev lotD (l : Lt) : D := .ins 18 (lotF l.n l.s l.p l.c)
@[simp] theorem lk_n {n s p c : Int} : (lotF n s p c).lookup ("number" : Str) = some (.int n) := rfl
@[simp] theorem lk_s {n s p c : Int} : (lotF n s p c).lookup ("since" : Str) = some (.int s) := by rfl
@[simp] theorem lk_p {n s p c : Int} : (lotF n s p c).lookup ("pieces" : Str) = some (.int p) := by rfl
@[simp] theorem lk_c {n s p c : Int} : (lotF n s p c).lookup ("cost" : Str) = some (.int c) := by rfl
@[simp] theorem lk_told {n s p c : Int} : (lotF n s p c).lookup ("told" : Str) = none := by rfl
@[simp] theorem lk_taken {n s p c : Int} : (lotF n s p c).lookup ("taken" : Str) = none := by rfl
@[simp] theorem lk_more {n s p c : Int} : (lotF n s p c).lookup ("with_more" : Str) = none := by rfl
@[simp] theorem lk_dear {n s p c : Int} : (lotF n s p c).lookup ("is_dearer" : Str) = none := by rfl
end G
set_option Elab.async false
set_option linter.all false
set_option maxRecDepth 100000
set_option exponentiation.threshold 100000
namespace G
open PySem L2 Mir
variable {S : Store}
noncomputable def Lt.Ok (l : Lt) : Prop := l.p.natAbs < 2 ^ 800 ∧ l.c.natAbs < 2 ^ 800
theorem Lt.Ok.mul {a b : Lt} (ha : a.Ok) (hb : b.Ok) : mulOk a.c b.p = true := mulOk_b 800 800 ha.2 hb.1 (by decide) (by decide) (by decide)
noncomputable def Lt.cut (l : Lt) (q : Int) : Int := l.c * q / l.p
noncomputable def Lt.got (l : Lt) (q : Int) : Lt := ⟨l.n, l.s, q, l.cut q⟩
noncomputable def Lt.rest (l : Lt) (q : Int) : Lt := ⟨l.n, l.s, l.p - q, l.c - l.cut q⟩
noncomputable def Lt.left (l : Lt) (q : Int) : D := if q = l.p then .non else lotD (l.rest q)
end G
set_option Elab.async false
set_option linter.all false
set_option maxRecDepth 100000
set_option exponentiation.threshold 100000
namespace G
open PySem L2 Mir
variable {S : Store}
theorem lkD_put (kvs : List (Key × D)) (k j : Key) (d : D) : lkD (putD kvs k d) j = if j = k then some d else lkD kvs j := by
  have ap : ∀ (l r : List (Key × D)), lkD (l ++ r) j = (lkD l j).or (lkD r j) := by
    intro l r
    unfold lkD
    rw [List.find?_append]
    cases l.find? fun kv => decide (kv.1 = j) <;> rfl
  have no : ∀ l : List (Key × D), (l.any fun kv => decide (kv.1 = k)) = false → lkD l k = none := by
    intro l h
    unfold lkD
    rw [List.find?_eq_none.mpr]
    · rfl
    · intro x hx
      rw [List.any_eq_false] at h
      exact h x hx
  have mp : ∀ l : List (Key × D), lkD (l.map fun kv => if kv.1 = k then (kv.1, d) else kv) j = if j = k then (if (l.any fun kv => decide (kv.1 = k)) = true then some d else none) else lkD l j := by
    intro l
    induction l with
    | nil => simp [lkD]
    | cons x r ih =>
      unfold lkD at ih ⊢
      rw [List.map_cons, List.find?_cons, List.find?_cons, List.any_cons]
      by_cases e : x.1 = k
      · rw [if_pos e]
        by_cases e2 : j = k
        · subst e2
          simp [e]
        · have : ¬ x.1 = j := fun z => e2 (z.symm.trans e)
          simp only [this, decide_false, e2, if_false] at ih ⊢
          exact ih
      · rw [if_neg e]
        by_cases e2 : x.1 = j
        · have : ¬ j = k := fun z => e (e2.trans z)
          simp [e2, this]
        · simp only [e2, decide_false, e, Bool.false_or] at ih ⊢
          exact ih
  unfold putD
  split
  · rename_i h
    rw [mp, if_pos h]
  · rename_i h
    have h : (kvs.any fun kv => decide (kv.1 = k)) = false := by rw [← Bool.not_eq_true]; exact h
    rw [ap]
    by_cases e : j = k
    · subst e
      rw [no kvs h, if_pos rfl]
      simp [lkD]
    · rw [if_neg e]
      have : lkD [(k, d)] j = none := by
        have : ¬ k = j := fun z => e z.symm
        simp [lkD, this]
      rw [this]
      cases lkD kvs j <;> rfl
noncomputable abbrev pk (q : Int × Int) : D := .tup [.int q.1, .int q.2]
noncomputable abbrev Stt := Int → Option (Option Lt)
noncomputable def Stt.put (st : Stt) (n : Int) (o : Option Lt) : Stt := fun m => if m = n then some o else st m
noncomputable def oL : Option Lt → D
  | none => .non
  | some l => lotD l
structure Lt.Fit (l : Lt) : Prop where
  ok : l.Ok
  p0 : 0 < l.p
  c0 : 0 ≤ l.c
theorem Lt.Fit.cut {l : Lt} (h : l.Fit) {q : Int} (h1 : 1 ≤ q) (h2 : q ≤ l.p) : 0 ≤ l.cut q ∧ l.cut q ≤ l.c :=
  ⟨Int.ediv_nonneg (Int.mul_nonneg h.c0 (by omega)) (by have := h.p0; omega), Int.ediv_le_of_le_mul h.p0 (Int.mul_le_mul_of_nonneg_left h2 h.c0)⟩
theorem Lt.Fit.rest {l : Lt} (h : l.Fit) {q : Int} (h1 : 1 ≤ q) (h2 : q < l.p) : (l.rest q).Fit := by
  obtain ⟨a, b⟩ := h.cut h1 (by omega)
  obtain ⟨⟨o1, o2⟩, p0, c0⟩ := h
  refine ⟨⟨?_, ?_⟩, ?_, ?_⟩
  · show (l.p - q).natAbs < _
    generalize (2 : Nat) ^ 800 = z at *
    omega
  · show (l.c - l.cut q).natAbs < _
    generalize (2 : Nat) ^ 800 = z at *
    omega
  · show 0 < l.p - q
    omega
  · show 0 ≤ l.c - l.cut q
    omega
theorem Lt.Fit.got {l : Lt} (h : l.Fit) {q : Int} (h1 : 1 ≤ q) (h2 : q ≤ l.p) : (l.got q).Fit := by
  obtain ⟨a, b⟩ := h.cut h1 h2
  obtain ⟨⟨o1, o2⟩, p0, c0⟩ := h
  refine ⟨⟨?_, ?_⟩, ?_, a⟩
  · show q.natAbs < _
    generalize (2 : Nat) ^ 800 = z at *
    omega
  · show (l.cut q).natAbs < _
    generalize (2 : Nat) ^ 800 = z at *
    omega
  · show 0 < q
    omega
noncomputable def wo : Stt → List (Int × Int) → Except Int (List Lt × Stt)
  | st, [] => .ok ([], st)
  | st, (n, q) :: r => match st n with
    | some (some l) => if l.p < q then .error n else match wo (st.put n (if q = l.p then none else some (l.rest q))) r with
      | .ok (g, st') => .ok (l.got q :: g, st')
      | .error m => .error m
    | _ => .error n
structure StOk (st : Stt) : Prop where
  fit : ∀ n l, st n = some (some l) → l.Fit ∧ l.n = n
theorem StOk.put {st : Stt} (h : StOk st) {n : Int} {o : Option Lt} (ho : ∀ l, o = some l → l.Fit ∧ l.n = n) : StOk (st.put n o) := ⟨fun m l e => by
  unfold Stt.put at e
  split at e
  · rename_i q
    cases e
    rw [q]
    exact ho l rfl
  · exact h.fit m l e⟩
structure Dk (f : Option Lt → D) (kvs : List (Key × D)) (st : Stt) : Prop where
  lk : ∀ n, lkD kvs (.inl n) = (st n).map f
theorem Dk.put {f : Option Lt → D} {kvs : List (Key × D)} {st : Stt} (h : Dk f kvs st) (n : Int) (o : Option Lt) : Dk f (putD kvs (.inl n) (f o)) (st.put n o) := ⟨fun m => by
  rw [lkD_put]
  unfold Stt.put
  by_cases e : m = n
  · subst e
    simp
  · have : ¬ (Sum.inl m : Key) = Sum.inl n := fun z => e (Sum.inl.inj z)
    rw [if_neg this, if_neg e]
    exact h.lk m⟩
end G
set_option Elab.async false
set_option linter.all false
set_option maxRecDepth 100000
set_option exponentiation.threshold 100000
namespace G
open PySem L2 Mir
variable {S : Store}
structure Pk (R : List Lt) (P : List (Int × Int)) : Prop where
  len : P.length ≤ R.length
  nd : (P.map Prod.fst).Nodup
  all : ∀ q ∈ P, ∃ l ∈ R, l.n = q.1 ∧ 1 ≤ q.2 ∧ q.2 ≤ l.p
noncomputable abbrev Rt := Int → Option Lt
noncomputable def Rt.put (r : Rt) (n : Int) (l : Lt) : Rt := fun m => if m = n then some l else r m
noncomputable def Rt.st (r : Rt) : Stt := fun n => (r n).map fun l => if l.p = 0 then none else some l
structure Dr (kvs : List (Key × D)) (r : Rt) : Prop where
  lk : ∀ n, lkD kvs (.inl n) = (r n).map qd
theorem Dr.put {kvs : List (Key × D)} {r : Rt} (h : Dr kvs r) (n : Int) (l : Lt) : Dr (putD kvs (.inl n) (qd l)) (r.put n l) := ⟨fun m => by
  rw [lkD_put]
  unfold Rt.put
  by_cases e : m = n
  · subst e
    simp
  · have : ¬ (Sum.inl m : Key) = Sum.inl n := fun z => e (Sum.inl.inj z)
    rw [if_neg this, if_neg e]
    exact h.lk m⟩
structure RtOk (r : Rt) : Prop where
  all : ∀ n l, r n = some l → l.n = n ∧ 0 ≤ l.p ∧ (0 < l.p → l.Fit)
theorem RtOk.put {r : Rt} (h : RtOk r) {n : Int} {l : Lt} (hl : l.n = n ∧ 0 ≤ l.p ∧ (0 < l.p → l.Fit)) : RtOk (r.put n l) := ⟨fun m l' e => by
  unfold Rt.put at e
  split at e
  · rename_i q
    cases e
    rw [q]
    exact hl
  · exact h.all m l' e⟩
end G
set_option Elab.async false
set_option linter.all false
set_option maxRecDepth 100000
set_option exponentiation.threshold 100000
namespace G
open PySem L2 Mir
variable {S : Store}
noncomputable abbrev sumC (R : List Lt) : Int := (R.map Lt.c).sum
noncomputable abbrev sumP (R : List Lt) : Int := (R.map Lt.p).sum
structure Sml (R : List Lt) : Prop where
  fit : ∀ l ∈ R, l.Fit
  c1 : (sumC R).natAbs < 2 ^ 800
  p1 : (sumP R).natAbs < 2 ^ 800
  len : R.length ≤ 1000
end G
set_option Elab.async false
set_option linter.all false
set_option maxRecDepth 100000
set_option exponentiation.threshold 100000
namespace G
open PySem L2 Mir
variable {S : Store}
theorem digits_l1 : ∀ (bs : List Int), (∀ b ∈ bs, 0 < b ∧ b.natAbs < 2 ^ 250) → ∀ (c : Int) (acc : List Int), acc.length + bs.length ≤ 1000 → ∃ c', forD g_digits_k01_l1 (bs.map D.int) (.fz (.int c), .ow (.lst (acc.map D.int))) S = .ok (.fz (.int c'), .ow (.lst ((acc ++ MirC.digits c bs).map D.int))) S
  | [], _, c, acc, _ => ⟨c, by rw [MirC.digits, List.append_nil]; rfl⟩
  | b :: r, hb, c, acc, ha => by
    obtain ⟨b0, b1⟩ := hb b List.mem_cons_self
    rw [List.length_cons] at ha
    obtain ⟨c', h⟩ := digits_l1 r (fun x hx => hb x (List.mem_cons_of_mem _ hx)) (c / b) (acc ++ [c % b]) (by rw [List.length_append, List.length_singleton]; omega)
    refine ⟨c', ?_⟩
    rw [List.append_assoc] at h
    have m : modOk c b = true := modOk_p b0
    have d : divOk c b = true := divOk_b 250 b0 b1 (by decide) (by decide)
    have sz : szOk (acc.length + 1) = true := szOk_le (by omega)
    rw [List.map_cons, MirC.digits]
    refine (forD_cons ?_).trans h
    simp -implicitDefEqProofs [g_digits_k01_l1, m, d, sz]
theorem digitsk_eq {bs : List Int} (hb : ∀ b ∈ bs, 0 < b ∧ b.natAbs < 2 ^ 250) (hl : bs.length ≤ 1000) (c : Int) : f_digits_k01 [.int c, .lst (bs.map D.int)] S = .ok (.ow (.lst ((MirC.digits c bs).map D.int))) S := by
  obtain ⟨c', h⟩ := digits_l1 (S := S) bs hb c [] (by simpa using hl)
  rw [List.nil_append] at h
  have h : forD g_digits_k01_l1 (bs.map D.int) (.fz (.int c), .ow (.lst [])) S = _ := h
  rw [c_digits_k01]
  simp -implicitDefEqProofs [g_digits_k01, h]
theorem mixedk_eq (c k : Int) (h0 : 0 ≤ k) (h1 : k < 1000) : f_mixed_k01 [.int c, .int k] S = .ok (.fz (.int (MirC.mixed c k))) S := by
  have n0 : 0 ≤ (c + 7919 * k * k + k) * 982451653 % 2305843009213693951 := Int.emod_nonneg _ (by decide)
  have n1 : (c + 7919 * k * k + k) * 982451653 % 2305843009213693951 < 2305843009213693951 := Int.emod_lt_of_pos _ (by decide)
  have o0 : 0 ≤ (c + 7919 * k * k + k) * 982451653 % 2305843009213693951 * 1000003 % 1152921504606846883 := Int.emod_nonneg _ (by decide)
  have o1 : (c + 7919 * k * k + k) * 982451653 % 2305843009213693951 * 1000003 % 1152921504606846883 < 1152921504606846883 := Int.emod_lt_of_pos _ (by decide)
  have m1 : mulOk 7919 k = true := mulOk_l (by decide) (by decide)
  have m2 : mulOk (7919 * k) k = true := mulOk_r (by omega) (by omega)
  have m3 : ∀ x, mulOk x 982451653 = true := fun x => mulOk_r (by decide) (by decide)
  have m4 : ∀ x, mulOk x 1000003 = true := fun x => mulOk_r (by decide) (by decide)
  have d1 : ∀ x, divOk x 4096 = true := fun x => divOk_s (by decide) (by decide)
  have d2 : ∀ x, divOk x 64 = true := fun x => divOk_s (by decide) (by decide)
  have m5 : mulOk ((c + 7919 * k * k + k) * 982451653 % 2305843009213693951) ((c + 7919 * k * k + k) * 982451653 % 2305843009213693951 * 1000003 % 1152921504606846883) = true := mulOk_l (by omega) (by omega)
  have m6 : mulOk (((c + 7919 * k * k + k) * 982451653 % 2305843009213693951) * ((c + 7919 * k * k + k) * 982451653 % 2305843009213693951 * 1000003 % 1152921504606846883)) ((c + 7919 * k * k + k) * 982451653 % 2305843009213693951 / 4096 + (c + 7919 * k * k + k) * 982451653 % 2305843009213693951 * 1000003 % 1152921504606846883 / 64 + 1) = true := mulOk_r (by omega) (by omega)
  have e : MirC.mixed c k = ((c + 7919 * k * k + k) * 982451653 % 2305843009213693951) * ((c + 7919 * k * k + k) * 982451653 % 2305843009213693951 * 1000003 % 1152921504606846883) * ((c + 7919 * k * k + k) * 982451653 % 2305843009213693951 / 4096 + (c + 7919 * k * k + k) * 982451653 % 2305843009213693951 * 1000003 % 1152921504606846883 / 64 + 1) := rfl
  rw [c_mixed_k01, e]
  generalize hn : (c + 7919 * k * k + k) * 982451653 % 2305843009213693951 = n at *
  generalize ho : n * 1000003 % 1152921504606846883 = o at *
  simp -implicitDefEqProofs [g_mixed_k01, modOk, m1, m2, m3, m4, m5, m6, d1, d2, hn, ho]
theorem cellsk_eq (ns : List Int) (hl : ns.length ≤ 63) : f_cells_k01 [.scr ns] S = .ok (.ow (.lst ((MirC.cells ns).map D.int))) S := by
  rw [c_cells_k01]
  cases ns with
  | nil => rfl
  | cons n r =>
    have hl' : r.length + 1 ≤ 63 := hl
    have lp : decide ((0 : Int) < ((n :: r).length : Nat)) = true := decide_eq_true (by rw [List.length_cons]; omega)
    have at0 : atD ((n :: r).map D.int) 0 = some (.int n) := atD_nat (n := 0) rfl
    have o2 : modOk n 2 = true := modOk_p (by decide)
    have o61 : modOk (n / 2) 61 = true := modOk_p (by decide)
    have d2 : divOk n 2 = true := divOk_s (by decide) (by decide)
    have i0 := Int.emod_nonneg (n / 2) (show (61 : Int) ≠ 0 by decide)
    have i1 := Int.emod_lt_of_pos (n / 2) (show (0 : Int) < 61 by decide)
    by_cases h : n % 2 = 1
    · obtain ⟨m, em⟩ : ∃ m : Nat, maxI (minI (((n :: r).length : Nat) : Int) 63) (3 + n / 2 % 61) = (m : Int) := ⟨(maxI (minI (((n :: r).length : Nat) : Int) 63) (3 + n / 2 % 61)).toNat, by unfold maxI minI; split <;> split <;> omega⟩
      have mb : m < 1000 := by
        have : (m : Int) ≤ 63 := by rw [← em]; rw [List.length_cons]; unfold maxI minI; split <;> split <;> omega
        omega
      have lc := lcS_map (S := S) (f := fun k_3 => lcStep (pur true) (dFz (dCall f_mixed_k01 (dCons (dFz (dBin opSub2 (pur (Wv.fz (.scr (n :: r)))) (dBin opMod (pur (Wv.fz k_3)) (bLen [(Wv.fz (.scr (n :: r)))])))) (pur [k_3]))))) (g := fun k : Nat => D.int (MirC.mixed ((n :: r).getD (k % (r.length + 1)) 0) (k : Nat))) (fun i : Nat => D.int (0 + (i : Nat))) (List.range m) (fun k hk => by
        have hk := List.mem_range.mp hk
        have oL : modOk (k : Int) (((n :: r).length : Nat) : Int) = true := modOk_p (by rw [List.length_cons]; omega)
        have e1 : (k : Int) % (((n :: r).length : Nat) : Int) = ((k % (r.length + 1) : Nat) : Int) := by rw [List.length_cons]; omega
        have at1 := MirC.getD_scr (n :: r) (k % (r.length + 1)) (by rw [List.length_cons]; exact Nat.mod_lt _ (by omega))
        have mx := mixedk_eq (S := S) ((n :: r).getD (k % (r.length + 1)) 0) (k : Nat) (by omega) (by omega)
        have sl : bLen [(Wv.fz (.scr (n :: r)))] S = .ok (.fz (.int (((n :: r).length : Nat) : Int))) S := by
          show Mir.R.ok (Wv.fz (.int ((((n :: r).map D.int).length : Nat) : Int))) S = _
          rw [List.length_map]
        rw [Int.zero_add]
        simp -implicitDefEqProofs only [x_lcStep, x_pur, x_noEx, bindR_ok, if_true, x_fz, x_call, x_cons, x_bin, sl, s_mod, oL, e1, s_ixS, at1, s_gotW, s_frz1, mx]) (by rw [List.length_range]; omega)
      have sl : bLen [(Wv.fz (.scr (n :: r)))] S = .ok (.fz (.int (((n :: r).length : Nat) : Int))) S := by
        show Mir.R.ok (Wv.fz (.int ((((n :: r).map D.int).length : Nat) : Int))) S = _
        rw [List.length_map]
      have rg : rng1 [.int (m : Int)] S = .ok ((List.range m).map fun i : Nat => D.int (0 + (i : Nat))) S := by
        rw [s_rng1, if_pos (rngOk_s (by omega) (by omega))]
        rfl
      have ec : MirC.cells (n :: r) = (List.range m).map fun k => MirC.mixed ((n :: r).getD (k % (r.length + 1)) 0) (k : Nat) := by
        unfold MirC.cells
        dsimp only
        rw [if_pos h]
        have : (maxI (minI ((r.length : Int) + 1) 63) (3 + n / 2 % 61)).toNat = m := by
          have e : ((r.length : Int) + 1) = (((n :: r).length : Nat) : Int) := by rw [List.length_cons]; omega
          rw [e, em]
          rfl
        rw [this]
      have el : (((n :: r).map D.int).length) = (n :: r).length := List.length_map _
      rw [ec, List.map_map]
      simp -implicitDefEqProofs only [g_cells_k01, x_ift, x_and, x_bin, sl, bindR_ok, x_pur, s_gt, lp, if_true, s_ixS, at0, s_gotW, s_mod, o2, s_eqI, h, decide_true, x_bnd, x_consB, s_bInt2, s_div, d2, o61, s_add, em, x_cons, x_rdD, rg, lc]
      rfl
    · have hd : decide (n % 2 = 1) = false := decide_eq_false h
      have ct := MirC.cut_script (n :: r) hl
      have q60 : powOk 10 60 = true := by decide
      have e60 : (10 : Int) ^ (60 : Int).toNat = 10 ^ 60 := rfl
      have o60 : ∀ x, modOk x (10 ^ 60) = true := fun x => modOk_p (by decide)
      have lc := lcS_map (S := S) (f := fun cell_5 => lcStep (pur true) (dFz (dBin opMod (pur (Wv.fz cell_5)) (opPow (Wv.fz (D.int 10)) (Wv.fz (D.int 60)))))) (g := fun c : Int => D.int (c % 10 ^ 60)) D.int ((n :: r).take 63) (fun c _ => by
        simp -implicitDefEqProofs only [x_lcStep, x_pur, x_noEx, bindR_ok, if_true, x_fz, x_bin, s_pow, q60, e60, s_mod, o60, s_frz1]) (by rw [List.length_take]; omega)
      have ec : MirC.cells (n :: r) = ((n :: r).take 63).map fun c => c % 10 ^ 60 := by
        unfold MirC.cells
        dsimp only
        rw [if_neg h]
      have sl : bLen [(Wv.fz (.scr (n :: r)))] S = .ok (.fz (.int (((n :: r).length : Nat) : Int))) S := by
        show Mir.R.ok (Wv.fz (.int ((((n :: r).map D.int).length : Nat) : Int))) S = _
        rw [List.length_map]
      rw [ec, List.map_map]
      simp -implicitDefEqProofs only [g_cells_k01, x_ift, x_and, x_bin, sl, bindR_ok, x_pur, s_gt, lp, if_true, s_ixS, at0, s_gotW, s_mod, o2, s_eqI, hd, Bool.false_eq_true, if_false, x_bnd, x_items, x_fz, x_sl, x_part, s_prtW, s_slS, ct, s_frz2, s_itD1, s_itO, lc]
      rfl
theorem cell_atk_eq (ns : List Int) (k : Nat) : f_cell_at_k02 [.scr ns, .int (k : Nat)] S = .ok (.fz (.int (ns.getD k 0))) S := by
  have sl : bLen [(Wv.fz (.scr ns))] S = .ok (.fz (.int ((ns.length : Nat) : Int))) S := by
    show Mir.R.ok (Wv.fz (.int (((ns.map D.int).length : Nat) : Int))) S = _
    rw [List.length_map]
  rw [c_cell_at_k02]
  by_cases h : k < ns.length
  · have a := MirC.getD_scr ns k h
    have hd : decide ((k : Int) < (ns.length : Nat)) = true := decide_eq_true (by omega)
    simp -implicitDefEqProofs only [g_cell_at_k02, x_ift, x_bin, x_pur, bindR_ok, sl, s_lt, hd, if_true, s_ixS, a, s_gotW]
  · have hd : decide ((k : Int) < (ns.length : Nat)) = false := decide_eq_false (by omega)
    have e : ns.getD k 0 = 0 := by rw [List.getD_eq_getElem?_getD, List.getElem?_eq_none (by omega)]; rfl
    simp -implicitDefEqProofs only [g_cell_at_k02, x_ift, x_bin, x_pur, bindR_ok, sl, s_lt, hd, Bool.false_eq_true, if_false, e]
end G
set_option Elab.async false
set_option linter.all false
set_option maxRecDepth 100000
set_option maxHeartbeats 4000000
namespace G
open PySem L2 Mir
noncomputable def m_held_with : CS :=
    (cSeq (cKill [0] (cSet 3 (cBlt bDict (bCons (cBor 0) bNil))))
    (cSeq (cPut 3 (cVar 2) (cVar 1))
    (cSeq (cKill [1, 2] (cIfS (cBin opEq (cBor 2) (cUp (cC (.int 0))))
      (cKill [1, 2] (cMut 3 "dict" mDPop (cCons (cVar 1) cNil)))
      cSkip))
    (cRetV 3))))
noncomputable def f_held_with : Fn := runF 4 m_held_with
noncomputable def m_Buy_held_behind : CS :=
    (cRet (cCall f_held_with (cCons (cVar 1) (cCons (cFld "ware" [12] (cBor 0)) (cCons (cFz (cBin opAdd (cGet2 (cBor 1) (cUp (cFld "ware" [12] (cBor 0))) (cC (.int 0))) (cUp (cFld "pieces" [12] (cBor 0))))) cNil)))))
noncomputable def f_Buy_held_behind : Fn := runF 2 m_Buy_held_behind
noncomputable def m_Sell_held_behind : CS :=
    (cSeq (cKill [] (cIfS (cBin opLt (cGet2 (cBor 1) (cUp (cFld "ware" [13] (cBor 0))) (cC (.int 0))) (cUp (cFld "pieces" [13] (cBor 0))))
      (cRet (cUp (cC .non)))
      cSkip))
    (cRet (cCall f_held_with (cCons (cVar 1) (cCons (cFld "ware" [13] (cBor 0)) (cCons (cFz (cBin opSub (cBin opSub2 (cBor 1) (cUp (cFld "ware" [13] (cBor 0)))) (cUp (cFld "pieces" [13] (cBor 0))))) cNil))))))
noncomputable def f_Sell_held_behind : Fn := runF 2 m_Sell_held_behind
noncomputable def m_Gift_held_behind : CS :=
    (cRet (cCall f_held_with (cCons (cVar 1) (cCons (cFld "ware" [14] (cBor 0)) (cCons (cFz (cBin opAdd (cGet2 (cBor 1) (cUp (cFld "ware" [14] (cBor 0))) (cC (.int 0))) (cUp (cFld "pieces" [14] (cBor 0))))) cNil)))))
noncomputable def f_Gift_held_behind : Fn := runF 2 m_Gift_held_behind
noncomputable def m_Give_held_behind : CS :=
    (cSeq (cKill [] (cIfS (cBin opLt (cGet2 (cBor 1) (cUp (cFld "ware" [15] (cBor 0))) (cC (.int 0))) (cUp (cFld "pieces" [15] (cBor 0))))
      (cRet (cUp (cC .non)))
      cSkip))
    (cRet (cCall f_held_with (cCons (cVar 1) (cCons (cFld "ware" [15] (cBor 0)) (cCons (cFz (cBin opSub (cBin opSub2 (cBor 1) (cUp (cFld "ware" [15] (cBor 0)))) (cUp (cFld "pieces" [15] (cBor 0))))) cNil))))))
noncomputable def f_Give_held_behind : Fn := runF 2 m_Give_held_behind
noncomputable def m_Split_held_behind : CS :=
    (cSeq (cKill [] (cIfS (cBin (notM opIn) (cUp (cFld "ware" [16] (cBor 0))) (cBor 1))
      (cRet (cBlt bDict (bCons (cBor 1) bNil)))
      cSkip))
    (cSeq (cSet 2 (cBin opDiv (cBin opMul (cBin opSub2 (cBor 1) (cUp (cFld "ware" [16] (cBor 0)))) (cUp (cFld "many" [16] (cBor 0)))) (cUp (cFld "of" [16] (cBor 0)))))
    (cSeq (cKill [] (cIfS (cBin opEq (cBor 2) (cUp (cC (.int 0))))
      (cRet (cUp (cC .non)))
      cSkip))
    (cRet (cCall f_held_with (cCons (cVar 1) (cCons (cFld "ware" [16] (cBor 0)) (cCons (cVar 2) cNil))))))))
noncomputable def f_Split_held_behind : Fn := runF 3 m_Split_held_behind
noncomputable def m_Parting_held_behind : CS :=
    (cSeq (cKill [] (cIfS (cBin (notM opIn) (cUp (cFld "ware" [17] (cBor 0))) (cBor 1))
      (cRet (cBlt bDict (bCons (cBor 1) bNil)))
      cSkip))
    (cRet (cCall f_held_with (cCons (cVar 1) (cCons (cFld "other" [17] (cBor 0)) (cCons (cFz (cBin opAdd (cGet2 (cBor 1) (cUp (cFld "other" [17] (cBor 0))) (cC (.int 0))) (cBin opSub2 (cBor 1) (cUp (cFld "ware" [17] (cBor 0)))))) cNil))))))
noncomputable def f_Parting_held_behind : Fn := runF 2 m_Parting_held_behind
end G
set_option Elab.async false
set_option linter.all false
set_option maxRecDepth 100000
set_option maxHeartbeats 4000000
set_option exponentiation.threshold 100000
namespace G
open PySem L2 Mir
variable {S : Store}
noncomputable def abc : Str := "abcdefghijklmnopqrstuvwxyz"
structure IsW (w : Str) : Prop where
  lo : 1 ≤ w.cps.toList.length
  hi : w.cps.toList.length ≤ 8
  al : ∀ c ∈ w.cps.toList, c ∈ abc.cps.toList
theorem str_len (w : Str) : w.length = w.cps.toList.length := by
  show w.cps.size = _
  rw [Array.length_toList]
theorem lenS_eq {w : Str} (h : szOk w.length = true) : bLen [.fz (.str w)] S = .ok (.fz (.int (w.length : Nat))) S := by
  show (if szOk w.length then Mir.R.ok (Wv.fz (.int (w.length : Nat))) S else .bad) = _
  rw [if_pos h]
theorem sign_in (c : Nat) : opIn (.fz (.str ⟨#[c]⟩)) (.fz (.str abc)) S = .ok (decide (c ∈ abc.cps.toList)) S := rfl
theorem rng_ok {a b c : Int} (h1 : b ≤ a) (h2 : a ≤ c) : f_check_range [.int a, .int b, .int c] S = .ok (.fz .non) S := by
  rw [c_check_range]
  have q1 : decide (b ≤ a) = true := decide_eq_true h1
  have q2 : decide (a ≤ c) = true := decide_eq_true h2
  simp -implicitDefEqProofs [g_check_range, q1, q2]
theorem blsD_rep : ∀ n : Nat, blsD (List.replicate n (D.bl true)) = some (List.replicate n true)
  | 0 => rfl
  | n + 1 => by rw [List.replicate_succ, blsD, blsD_rep n]; rfl
theorem all_rep : ∀ n : Nat, (List.replicate n true).all id = true
  | 0 => rfl
  | n + 1 => by rw [List.replicate_succ, List.all_cons, all_rep n]; rfl
theorem isw_eq {w : Str} (h : IsW w) : f_is_ware [.str w] S = .ok (.fz (.bl true)) S := by
  have hl := str_len w
  have sz : szOk w.length = true := szOk_le (by rw [hl]; have := h.hi; omega)
  have sl := lenS_eq (S := S) sz
  have lc := lcS_map (S := S) (f := fun sign_2 => lcStep (pur true) (dFz (dBl (opIn (Wv.fz sign_2) (Wv.fz (D.str "abcdefghijklmnopqrstuvwxyz")))))) (g := fun _ : Nat => D.bl true) (fun c : Nat => D.str ⟨#[c]⟩) w.cps.toList (fun c hc => by
    have e := sign_in (S := S) c
    rw [decide_eq_true (h.al c hc)] at e
    have e : opIn (.fz (.str ⟨#[c]⟩)) (.fz (.str "abcdefghijklmnopqrstuvwxyz")) S = .ok true S := e
    simp -implicitDefEqProofs [e]) (by have := h.hi; omega)
  have q1 : decide ((1 : Int) ≤ (w.length : Nat)) = true := decide_eq_true (by have := h.lo; omega)
  have q2 : decide (((w.length : Nat) : Int) ≤ 8) = true := decide_eq_true (by have := h.hi; omega)
  rw [c_is_ware]
  have mp : w.cps.toList.map (fun _ : Nat => D.bl true) = List.replicate w.cps.toList.length (D.bl true) := by rw [List.map_const']
  rw [mp] at lc
  simp -implicitDefEqProofs [g_is_ware, sz, q1, q2, lc, blsD_rep, all_rep]
theorem ware_ok {w : Str} (h : IsW w) : f_check_ware [.str w] S = .ok (.fz .non) S := by
  have e := isw_eq (S := S) h
  rw [c_check_ware]
  simp -implicitDefEqProofs [g_check_ware, e]
noncomputable def iPut (f : Str) (d : D) (fl : List (Str × D)) (S : Store) : R (List (Str × D)) := if fl.length < 1000 then .ok (putN f d fl) S else .bad
theorem r_iSet {f : Str} {fe : Mir.Env → M D} {ds : Mir.Env} {fl : List (Str × D)} : iSet f fe ds fl S = bindR (fe ds S) fun d S => iPut f d fl S := rfl
theorem r_iSeq {a b : CI} {ds : Mir.Env} {fl : List (Str × D)} : iSeq a b ds fl S = bindR (a ds fl S) fun fl S => b ds fl S := rfl
theorem r_iDrop {fe : CE} {ds : Mir.Env} {fl : List (Str × D)} : iDrop fe ds fl S = bindR (fe ds S) fun _ S => .ok fl S := rfl
theorem r_iNil {ds : Mir.Env} {fl : List (Str × D)} : iNil ds fl S = .ok fl S := rfl
theorem r_iBase {m : FnI} {fs : Mir.Env → M (List D)} {ds : Mir.Env} {fl : List (Str × D)} : iBase m fs ds fl S = bindR (fs ds S) fun args S => m args fl S := rfl
theorem r_iIf {t : Mir.Env → M Bool} {a b : CI} {ds : Mir.Env} {fl : List (Str × D)} : iIf t a b ds fl S = bindR (t ds S) fun k S => if k then a ds fl S else b ds fl S := rfl
noncomputable def ent3 (d n : Int) (w : Str) : List (Str × D) := [("day", .int d), ("number", .int n), ("ware", .str w)]
structure Base (d n : Int) (w : Str) : Prop where
  d0 : 0 ≤ d
  d1 : d ≤ 1000000
  n0 : 0 ≤ n
  n1 : n ≤ 1000000
  w : IsW w
theorem Entry_init_eq {d n : Int} {w : Str} (b : Base d n w) : f_Entry_init [.int d, .int n, .str w] [] S = .ok (ent3 d n w) S := by
  have r1 := fun S => rng_ok (S := S) b.d0 b.d1
  have r2 := fun S => rng_ok (S := S) b.n0 b.n1
  have r3 := fun S => ware_ok (S := S) b.w
  show m_Entry_init [none, some (.fz (.int d)), some (.fz (.int n)), some (.fz (.str w))] [] S = _
  simp -implicitDefEqProofs [m_Entry_init, r_iSeq, r_iDrop, r_iSet, r_iNil, r1, r2, r3]
  rfl
theorem Buy_init_eq {d n p pr f : Int} {w : Str} (b : Base d n w) (p0 : 1 ≤ p) (p1 : p ≤ 1000000000) (q0 : 0 ≤ pr) (q1 : pr ≤ 1000000000) (f0 : 0 ≤ f) (f1 : f ≤ 1000000000) :
    f_Buy_init [.int d, .int n, .str w, .int p, .int pr, .int f] [] S = .ok [("day", .int d), ("number", .int n), ("ware", .str w), ("pieces", .int p), ("price", .int pr), ("fee", .int f), ("cost", .int (p * pr + f))] S := by
  have e := fun S => Entry_init_eq (S := S) b
  have r1 := fun S => rng_ok (S := S) p0 p1
  have r2 := fun S => rng_ok (S := S) q0 q1
  have r3 := fun S => rng_ok (S := S) f0 f1
  have m : mulOk p pr = true := mulOk_r (by omega) (by omega)
  show m_Buy_init [none, some (.fz (.int d)), some (.fz (.int n)), some (.fz (.str w)), some (.fz (.int p)), some (.fz (.int pr)), some (.fz (.int f))] [] S = _
  simp -implicitDefEqProofs [m_Buy_init, r_iSeq, r_iDrop, r_iSet, r_iBase, r_iNil, e, r1, r2, r3, m]
  rfl
theorem Gift_init_eq {d n p c si : Int} {w : Str} (b : Base d n w) (p0 : 1 ≤ p) (p1 : p ≤ 1000000000) (c0 : 0 ≤ c) (c1 : c ≤ 1000000000000000000) (s0 : 0 ≤ si) (s1 : si ≤ d) :
    f_Gift_init [.int d, .int n, .str w, .int p, .int c, .int si] [] S = .ok [("day", .int d), ("number", .int n), ("ware", .str w), ("pieces", .int p), ("cost", .int c), ("since", .int si)] S := by
  have e := fun S => Entry_init_eq (S := S) b
  have r1 := fun S => rng_ok (S := S) p0 p1
  have r2 := fun S => rng_ok (S := S) c0 c1
  have r3 := fun S => rng_ok (S := S) s0 s1
  show m_Gift_init [none, some (.fz (.int d)), some (.fz (.int n)), some (.fz (.str w)), some (.fz (.int p)), some (.fz (.int c)), some (.fz (.int si))] [] S = _
  simp -implicitDefEqProofs [m_Gift_init, r_iSeq, r_iDrop, r_iSet, r_iBase, r_iNil, e, r1, r2, r3]
  rfl
theorem Split_init_eq {d n m o : Int} {w : Str} (b : Base d n w) (m0 : 1 ≤ m) (m1 : m ≤ 1000) (o0 : 1 ≤ o) (o1 : o ≤ 1000) :
    f_Split_init [.int d, .int n, .str w, .int m, .int o] [] S = .ok [("day", .int d), ("number", .int n), ("ware", .str w), ("many", .int m), ("of", .int o)] S := by
  have e := fun S => Entry_init_eq (S := S) b
  have r1 := fun S => rng_ok (S := S) m0 m1
  have r2 := fun S => rng_ok (S := S) o0 o1
  show m_Split_init [none, some (.fz (.int d)), some (.fz (.int n)), some (.fz (.str w)), some (.fz (.int m)), some (.fz (.int o))] [] S = _
  simp -implicitDefEqProofs [m_Split_init, r_iSeq, r_iDrop, r_iSet, r_iBase, r_iNil, e, r1, r2]
  rfl
theorem Parting_init_eq {d n sh wh : Int} {w ot : Str} (b : Base d n w) (ho : IsW ot) (hne : ot ≠ w) (w0 : 1 ≤ wh) (w1 : wh ≤ 1000000) (s0 : 0 ≤ sh) (s1 : sh ≤ wh) :
    f_Parting_init [.int d, .int n, .str w, .str ot, .int sh, .int wh] [] S = .ok [("day", .int d), ("number", .int n), ("ware", .str w), ("other", .str ot), ("share", .int sh), ("whole", .int wh)] S := by
  have e := fun S => Entry_init_eq (S := S) b
  have r0 := fun S => ware_ok (S := S) ho
  have r1 := fun S => rng_ok (S := S) w0 w1
  have r2 := fun S => rng_ok (S := S) s0 s1
  have pw : ∀ S : Store, opPow (.fz (.int 10)) (.fz (.int 6)) S = .ok (.fz (.int 1000000)) S := fun _ => rfl
  show m_Parting_init [none, some (.fz (.int d)), some (.fz (.int n)), some (.fz (.str w)), some (.fz (.str ot)), some (.fz (.int sh)), some (.fz (.int wh))] [] S = _
  simp -implicitDefEqProofs [m_Parting_init, r_iSeq, r_iDrop, r_iSet, r_iBase, r_iIf, r_iNil, e, r0, r1, r2, pw, hne]
  rfl
inductive Kd where
  | buy (p pr f : Int) | sell (p pr f : Int) | gift (p c s : Int) | give (p : Int) | split (m o : Int) | part (ot : Str) (sh wh : Int)
structure En where
  d : Int
  n : Int
  w : Str
  k : Kd
noncomputable def En.told (e : En) : D := match e.k with
  | .buy p pr f => .tup [.str "buy", .int e.d, .int e.n, .str e.w, .int p, .int pr, .int f]
  | .sell p pr f => .tup [.str "sell", .int e.d, .int e.n, .str e.w, .int p, .int pr, .int f, .non]
  | .gift p c s => .tup [.str "gift", .int e.d, .int e.n, .str e.w, .int p, .int c, .int s]
  | .give p => .tup [.str "give", .int e.d, .int e.n, .str e.w, .int p, .non]
  | .split m o => .tup [.str "split", .int e.d, .int e.n, .str e.w, .int m, .int o]
  | .part ot sh wh => .tup [.str "part", .int e.d, .int e.n, .str e.w, .str ot, .int sh, .int wh]
noncomputable def En.cls (e : En) : Nat := match e.k with
  | .buy .. => 12 | .sell .. => 13 | .gift .. => 14 | .give .. => 15 | .split .. => 16 | .part .. => 17
noncomputable def En.fs (e : En) : List (Str × D) := match e.k with
  | .buy p pr f => [("day", .int e.d), ("number", .int e.n), ("ware", .str e.w), ("pieces", .int p), ("price", .int pr), ("fee", .int f), ("cost", .int (p * pr + f))]
  | .sell p pr f => [("day", .int e.d), ("number", .int e.n), ("ware", .str e.w), ("pieces", .int p), ("price", .int pr), ("fee", .int f), ("named", .non), ("proceeds", .int (p * pr - f))]
  | .gift p c s => [("day", .int e.d), ("number", .int e.n), ("ware", .str e.w), ("pieces", .int p), ("cost", .int c), ("since", .int s)]
  | .give p => [("day", .int e.d), ("number", .int e.n), ("ware", .str e.w), ("pieces", .int p), ("named", .non)]
  | .split m o => [("day", .int e.d), ("number", .int e.n), ("ware", .str e.w), ("many", .int m), ("of", .int o)]
  | .part ot sh wh => [("day", .int e.d), ("number", .int e.n), ("ware", .str e.w), ("other", .str ot), ("share", .int sh), ("whole", .int wh)]
noncomputable def En.dat (e : En) : D := .ins e.cls e.fs
structure En.Ok (e : En) : Prop where
  b : Base e.d e.n e.w
  k : match e.k with
    | .buy p pr f => (1 ≤ p ∧ p ≤ 1000000000) ∧ (0 ≤ pr ∧ pr ≤ 1000000000) ∧ 0 ≤ f ∧ f ≤ 1000000000
    | .sell p pr f => (1 ≤ p ∧ p ≤ 1000000000) ∧ (0 ≤ pr ∧ pr ≤ 1000000000) ∧ 0 ≤ f ∧ f ≤ 1000000000
    | .gift p c s => (1 ≤ p ∧ p ≤ 1000000000) ∧ (0 ≤ c ∧ c ≤ 1000000000000000000) ∧ 0 ≤ s ∧ s ≤ e.d
    | .give p => 1 ≤ p ∧ p ≤ 1000000000
    | .split m o => (1 ≤ m ∧ m ≤ 1000) ∧ 1 ≤ o ∧ o ≤ 1000
    | .part ot sh wh => (IsW ot ∧ ot ≠ e.w) ∧ (1 ≤ wh ∧ wh ≤ 1000000) ∧ 0 ≤ sh ∧ sh ≤ wh
end G
set_option Elab.async false
set_option linter.all false
set_option maxRecDepth 100000
set_option maxHeartbeats 4000000
set_option exponentiation.threshold 100000
namespace G
open PySem L2 Mir
variable {S : Store}
noncomputable abbrev Hl := List (Str × Int)
noncomputable def hk (h : Hl) : List (Key × D) := h.map fun p => (.inr p.1, .int p.2)
noncomputable def hlk (h : Hl) (w : Str) : Option Int := (h.find? fun p => decide (p.1 = w)).map (·.2)
noncomputable def hget (h : Hl) (w : Str) : Int := (hlk h w).getD 0
noncomputable def hput (h : Hl) (w : Str) (v : Int) : Hl := if h.any fun p => decide (p.1 = w) then h.map fun p => if p.1 = w then (p.1, v) else p else h ++ [(w, v)]
noncomputable def hdel (h : Hl) (w : Str) : Hl := h.filter fun p => decide (p.1 ≠ w)
noncomputable def hwith (h : Hl) (w : Str) (v : Int) : Hl := if v = 0 then hdel (hput h w v) w else hput h w v
structure HOk (h : Hl) : Prop where
  nd : (h.map (·.1)).Nodup
  pos : ∀ p ∈ h, 0 < p.2
theorem inr_eq {a b : Str} : decide ((Sum.inr a : Key) = Sum.inr b) = decide (a = b) := by
  by_cases h : a = b
  · subst h; simp
  · have : (Sum.inr a : Key) ≠ Sum.inr b := fun z => h (Sum.inr.inj z)
    rw [decide_eq_false h, decide_eq_false this]
theorem hlk_pos {p : Str × Int} {r : Hl} {w : Str} (e : p.1 = w) : hlk (p :: r) w = some p.2 := by simp [hlk, List.find?_cons, e]
theorem hlk_neg {p : Str × Int} {r : Hl} {w : Str} (e : ¬ p.1 = w) : hlk (p :: r) w = hlk r w := by simp [hlk, List.find?_cons, e]
theorem lk_pos {p : Key × D} {r : List (Key × D)} {k : Key} (e : p.1 = k) : lkD (p :: r) k = some p.2 := by simp [lkD, List.find?_cons, e]
theorem lk_neg {p : Key × D} {r : List (Key × D)} {k : Key} (e : ¬ p.1 = k) : lkD (p :: r) k = lkD r k := by simp [lkD, List.find?_cons, e]
theorem lk_hk : ∀ (h : Hl) (w : Str), lkD (hk h) (.inr w) = (hlk h w).map D.int
  | [], w => rfl
  | p :: r, w => by
    have ih := lk_hk r w
    show lkD ((Sum.inr p.1, D.int p.2) :: hk r) (.inr w) = _
    by_cases e : p.1 = w
    · rw [hlk_pos e, lk_pos (by rw [e])]
      rfl
    · rw [hlk_neg e, lk_neg (fun z => e (Sum.inr.inj z))]
      exact ih
theorem lkd_hk (h : Hl) (w : Str) : (lkD (hk h) (.inr w)).getD (.int 0) = .int (hget h w) := by
  rw [lk_hk]
  unfold hget
  cases hlk h w <;> rfl
theorem any_hk (h : Hl) (w : Str) : ((hk h).any fun kv => decide (kv.1 = (.inr w : Key))) = h.any fun p => decide (p.1 = w) := by
  induction h with
  | nil => rfl
  | cons p r ih =>
    show ((hk (p :: r)).any _) = _
    rw [show hk (p :: r) = (.inr p.1, .int p.2) :: hk r from rfl, List.any_cons, List.any_cons, ih, inr_eq]
theorem put_hk (h : Hl) (w : Str) (v : Int) : putD (hk h) (.inr w) (.int v) = hk (hput h w v) := by
  unfold putD hput
  rw [any_hk]
  split
  · unfold hk
    rw [List.map_map, List.map_map]
    refine List.map_congr_left fun p _ => ?_
    show (if (Sum.inr p.1 : Key) = Sum.inr w then ((Sum.inr p.1 : Key), D.int v) else (Sum.inr p.1, D.int p.2)) = (fun p : Str × Int => ((Sum.inr p.1 : Key), D.int p.2)) (if p.1 = w then (p.1, v) else p)
    by_cases e : p.1 = w
    · rw [if_pos e, if_pos (by rw [e])]
    · rw [if_neg e, if_neg (fun z => e (Sum.inr.inj z))]
  · unfold hk
    rw [List.map_append]
    rfl
theorem hlk_mem {h : Hl} (nd : (h.map (·.1)).Nodup) {p : Str × Int} (hp : p ∈ h) : hlk h p.1 = some p.2 := by
  induction h with
  | nil => cases hp
  | cons q r ih =>
    rw [List.map_cons, List.nodup_cons] at nd
    by_cases e : q.1 = p.1
    · rw [hlk_pos e]
      rcases List.mem_cons.mp hp with rfl | hp
      · rfl
      · exact (nd.1 (e ▸ List.mem_map_of_mem hp)).elim
    · rw [hlk_neg e]
      rcases List.mem_cons.mp hp with rfl | hp
      · exact (e rfl).elim
      · exact ih nd.2 hp
noncomputable def En.behind (e : En) (h : Hl) : Option Hl := match e.k with
  | .buy p _ _ => some (hwith h e.w (hget h e.w + p))
  | .gift p _ _ => some (hwith h e.w (hget h e.w + p))
  | .sell p _ _ => if hget h e.w < p then none else some (hwith h e.w (hget h e.w - p))
  | .give p => if hget h e.w < p then none else some (hwith h e.w (hget h e.w - p))
  | .split m o => match hlk h e.w with
    | none => some h
    | some t => if t * m / o = 0 then none else some (hwith h e.w (t * m / o))
  | .part ot _ _ => match hlk h e.w with
    | none => some h
    | some t => some (hwith h ot (hget h ot + t))
noncomputable def En.hb (e : En) : Fn := match e.k with
  | .buy .. => f_Buy_held_behind | .sell .. => f_Sell_held_behind | .gift .. => f_Gift_held_behind | .give .. => f_Give_held_behind | .split .. => f_Split_held_behind | .part .. => f_Parting_held_behind
theorem hlk_none {h : Hl} {w : Str} : hlk h w = none ↔ w ∉ h.map (·.1) := by
  induction h with
  | nil => exact ⟨fun _ z => (nomatch z), fun _ => rfl⟩
  | cons p r ih =>
    by_cases e : p.1 = w
    · rw [hlk_pos e]
      exact ⟨fun z => (nomatch z), fun z => (z (by rw [List.map_cons, e]; exact List.mem_cons_self)).elim⟩
    · rw [hlk_neg e, ih, List.map_cons, List.mem_cons, not_or]
      exact ⟨fun z => ⟨fun q => e q.symm, z⟩, fun z => z.2⟩
theorem any_mem {h : Hl} {w : Str} : (h.any fun p => decide (p.1 = w)) = true ↔ w ∈ h.map (·.1) := by
  rw [List.any_eq_true]
  constructor
  · rintro ⟨p, hp, q⟩
    exact (of_decide_eq_true q) ▸ List.mem_map_of_mem hp
  · intro hm
    obtain ⟨p, hp, rfl⟩ := List.mem_map.mp hm
    exact ⟨p, hp, decide_eq_true rfl⟩
theorem hput_keys (h : Hl) (w : Str) (v : Int) : (hput h w v).map (·.1) = if w ∈ h.map (·.1) then h.map (·.1) else h.map (·.1) ++ [w] := by
  unfold hput
  by_cases e : w ∈ h.map (·.1)
  · rw [if_pos e, if_pos (any_mem.mpr e), List.map_map]
    refine List.map_congr_left fun p _ => ?_
    show (if p.1 = w then (p.1, v) else p).1 = p.1
    split <;> rfl
  · rw [if_neg e, if_neg (fun z => e (any_mem.mp z)), List.map_append]
    rfl
theorem hput_ok {h : Hl} (ok : HOk h) (w : Str) {v : Int} (hv : 0 < v) : HOk (hput h w v) := by
  refine ⟨?_, ?_⟩
  · rw [hput_keys]
    split
    · exact ok.nd
    · rename_i e
      rw [List.nodup_append]
      exact ⟨ok.nd, List.nodup_cons.mpr ⟨List.not_mem_nil, List.nodup_nil⟩, fun a ha b hb z => e ((List.mem_singleton.mp hb) ▸ z ▸ ha)⟩
  · intro p hp
    unfold hput at hp
    split at hp
    · obtain ⟨q, hq, rfl⟩ := List.mem_map.mp hp
      split
      · exact hv
      · exact ok.pos q hq
    · rcases List.mem_append.mp hp with hp | hp
      · exact ok.pos p hp
      · rw [List.mem_singleton.mp hp]
        exact hv
theorem hget_ge {h : Hl} (ok : HOk h) (w : Str) : 0 ≤ hget h w := by
  unfold hget
  cases e : hlk h w with
  | none => exact Int.le_refl 0
  | some t =>
    have hm : w ∈ h.map (·.1) := Classical.byContradiction fun z => by rw [hlk_none.mpr z] at e; cases e
    obtain ⟨p, hp, rfl⟩ := List.mem_map.mp hm
    rw [hlk_mem ok.nd hp] at e
    cases e
    have := ok.pos p hp
    show 0 ≤ p.2
    omega
end G
set_option Elab.async false
set_option linter.all false
set_option maxRecDepth 100000
set_option maxHeartbeats 4000000
set_option exponentiation.threshold 100000
namespace G
open PySem L2 Mir
variable {S : Store}
theorem abc_at : ∀ c : Fin 26, atI abc.cps.toList ((c : Nat) : Int) = some (97 + (c : Nat)) ∧ 97 + (c : Nat) ∈ abc.cps.toList := by decide +kernel
theorem abc_sz : szOk abc.length = true := by decide +kernel
theorem let_eq {c : Int} (h0 : 0 ≤ c) (h1 : c < 26) : opSub2 (.fz (.str "abcdefghijklmnopqrstuvwxyz")) (.fz (.int c)) S = .ok (.fz (.str ⟨#[97 + c.toNat]⟩)) S := by
  obtain ⟨n, rfl⟩ := Int.eq_ofNat_of_zero_le h0
  have q := (abc_at ⟨n, by omega⟩).1
  dsimp only at q
  show (if szOk abc.length then (match atI abc.cps.toList ((n : Nat) : Int) with
    | some c => Mir.R.ok (Wv.fz (D.str ⟨#[c]⟩)) S
    | none => .bad) else .bad) = _
  rw [abc_sz, if_pos rfl, q]
  rfl
theorem app_cps (a b : Str) : (a ++ b).cps.toList = a.cps.toList ++ b.cps.toList := by
  show (a.cps ++ b.cps).toList = _
  rw [Array.toList_append]
theorem word_go : ∀ (cs : List Int), (∀ c ∈ cs, 0 ≤ c ∧ c < 26) → ∀ (w : Str), w.cps.toList.length + cs.length ≤ 100 → (∀ c ∈ w.cps.toList, c ∈ abc.cps.toList) →
    ∃ w' : Str, (∀ S : Store, forD g_wares_k10_l1 (cs.map D.int) (.fz (.str w)) S = .ok (.fz (.str w')) S) ∧ w'.cps.toList.length = w.cps.toList.length + cs.length ∧ ∀ c ∈ w'.cps.toList, c ∈ abc.cps.toList
  | [], _, w, _, ha => ⟨w, fun _ => rfl, rfl, ha⟩
  | c :: r, hc, w, hl, ha => by
    obtain ⟨c0, c1⟩ := hc c List.mem_cons_self
    have le := fun S => let_eq (S := S) c0 c1
    have ap := app_cps w ⟨#[97 + c.toNat]⟩
    have ap : (w ++ (⟨#[97 + c.toNat]⟩ : Str)).cps.toList = w.cps.toList ++ [97 + c.toNat] := ap
    rw [List.length_cons] at hl
    obtain ⟨w', h1, h2, h3⟩ := word_go r (fun x hx => hc x (List.mem_cons_of_mem _ hx)) (w ++ ⟨#[97 + c.toNat]⟩) (by rw [ap, List.length_append, List.length_singleton]; omega) (fun x hx => by
      rw [ap] at hx
      rcases List.mem_append.mp hx with hx | hx
      · exact ha x hx
      · rw [List.mem_singleton.mp hx]
        have q := (abc_at ⟨c.toNat, by omega⟩).2
        exact q)
    refine ⟨w', fun S => ?_, by rw [h2, ap, List.length_append, List.length_singleton, List.length_cons]; omega, h3⟩
    rw [List.map_cons]
    refine (forD_cons ?_).trans (h1 S)
    have l1 : (⟨#[97 + c.toNat]⟩ : Str).length = 1 := rfl
    have sz : szOk (w.length + (⟨#[97 + c.toNat]⟩ : Str).length) = true := szOk_le (by rw [str_len, l1]; omega)
    simp -implicitDefEqProofs only [g_wares_k10_l1, x_bnd, x_bin, x_rd, x_rdo, bindR_ok, le, s_addS, sz, if_true, x_pur]
noncomputable def nms : List Str := ["cup", "pot", "zz", "a", "teapots", "b"]
theorem nms_w : ∀ w ∈ nms, IsW w := by
  intro w hw
  simp only [nms, List.mem_cons, List.not_mem_nil, or_false] at hw
  rcases hw with rfl | rfl | rfl | rfl | rfl | rfl <;> exact ⟨by decide, by decide, by decide⟩
theorem nms_nd : nms.Nodup := by decide
theorem filter_len {α : Type} [DecidableEq α] (w : α) : ∀ l : List α, l.Nodup → l.length ≤ (l.filter fun x => decide (x ≠ w)).length + 1
  | [], _ => by simp
  | p :: r, nd => by
    rw [List.nodup_cons] at nd
    by_cases e : p = w
    · have q : r.filter (fun x => decide (x ≠ w)) = r := List.filter_eq_self.mpr fun x hx => decide_eq_true fun z => nd.1 (by rw [e, ← z]; exact hx)
      rw [List.filter_cons_of_neg (by simpa using e), q, List.length_cons]
      exact Nat.le_refl _
    · rw [List.filter_cons_of_pos (by simpa using e), List.length_cons, List.length_cons]
      have := filter_len w r nd.2
      omega
structure Wrs (ws : List Str) : Prop where
  len : 3 ≤ ws.length
  le : ws.length ≤ 6
  nd : ws.Nodup
  w : ∀ w ∈ ws, IsW w
theorem digits_all {b : Int} (hb : 0 < b) : ∀ (bs : List Int), (∀ x ∈ bs, x = b) → ∀ (c : Int), ∀ d ∈ MirC.digits c bs, 0 ≤ d ∧ d < b
  | [], _, _, d, h => by cases h
  | b0 :: r, hbs, c, d, h => by
    have e := hbs b0 List.mem_cons_self
    subst e
    rw [MirC.digits] at h
    rcases List.mem_cons.mp h with rfl | h
    · exact ⟨Int.emod_nonneg _ (by omega), Int.emod_lt_of_pos _ hb⟩
    · exact digits_all hb r (fun x hx => hbs x (List.mem_cons_of_mem _ hx)) _ d h
theorem wares_eq (ns : List Int) : ∃ ws, Wrs ws ∧ ∀ S : Store, f_wares_k10 [.scr ns] S = .ok (.ow (.lst (ws.map D.str))) S := by
  obtain ⟨b, hb⟩ : ∃ b, b = ns.getD 1 0 := ⟨_, rfl⟩
  obtain ⟨a, hA⟩ : ∃ a, a = ns.getD 0 0 := ⟨_, rfl⟩
  obtain ⟨k, hk⟩ : ∃ k : Nat, 1 + b % 8 = (k : Int) := ⟨(1 + b % 8).toNat, by omega⟩
  have k1 : 1 ≤ k ∧ k ≤ 8 := by omega
  obtain ⟨cs, hcs⟩ : ∃ cs, cs = (MirC.digits (b / 8) (List.replicate 8 26)).take k := ⟨_, rfl⟩
  have cl : cs.length = k := by rw [hcs, List.length_take, MirC.digits_len, List.length_replicate]; omega
  have cb : ∀ c ∈ cs, 0 ≤ c ∧ c < 26 := fun c hc => digits_all (b := 26) (by decide) (List.replicate 8 26) (fun x hx => List.eq_of_mem_replicate hx) _ c (List.mem_of_mem_take (hcs ▸ hc))
  obtain ⟨w, hw, wl, wa⟩ := word_go cs cb "" (by rw [cl]; show 0 + k ≤ 100; omega) (fun c hc => by cases hc)
  have wl : w.cps.toList.length = k := by rw [wl, cl]; exact Nat.zero_add k
  have isw : IsW w := ⟨by omega, by omega, wa⟩
  obtain ⟨m, hm, hm2⟩ : ∃ m : Nat, (m = 2 ∨ m = 5) ∧ (if a / 122 % 8 = 3 then (5 : Int) else 2) = (m : Int) := by
    by_cases q : a / 122 % 8 = 3
    · exact ⟨5, .inr rfl, by rw [if_pos q]; rfl⟩
    · exact ⟨2, .inl rfl, by rw [if_neg q]; rfl⟩
  obtain ⟨fl, hfl⟩ : ∃ fl, fl = nms.filter fun x => decide (x ≠ w) := ⟨_, rfl⟩
  have fll : 5 ≤ fl.length := by have := filter_len w nms nms_nd; rw [hfl]; have : nms.length = 6 := rfl; omega
  refine ⟨w :: fl.take m, ⟨?_, ?_, ?_, ?_⟩, fun S => ?_⟩
  · rw [List.length_cons, List.length_take]; omega
  · rw [List.length_cons, List.length_take]; omega
  · rw [List.nodup_cons]
    refine ⟨fun z => ?_, ?_⟩
    · have z := List.mem_of_mem_take z
      rw [hfl, List.mem_filter] at z
      exact (of_decide_eq_true z.2) rfl
    · exact ((nms_nd.sublist (hfl ▸ List.filter_sublist)).sublist (List.take_sublist m fl))
  · intro x hx
    rcases List.mem_cons.mp hx with rfl | hx
    · exact isw
    · have z := List.mem_of_mem_take hx
      rw [hfl, List.mem_filter] at z
      exact nms_w x z.1
  · have c1 : f_cell_at_k02 [.scr ns, .int 1] S = .ok (.fz (.int b)) S := by rw [hb]; exact cell_atk_eq ns 1
    have c0 : f_cell_at_k02 [.scr ns, .int 0] S = .ok (.fz (.int a)) S := by rw [hA]; exact cell_atk_eq ns 0
    have dg := digitsk_eq (S := S) (bs := List.replicate 8 26) (fun x hx => by rw [List.eq_of_mem_replicate hx]; exact ⟨by decide, by decide⟩) (by decide) (b / 8)
    have rp : opMul (.ow (.lst [.int 26])) (.fz (.int 8)) S = .ok (.ow (.lst ((List.replicate 8 (26 : Int)).map D.int))) S := rfl
    have d8 : divOk b 8 = true := divOk_s (by decide) (by decide)
    have o8 : modOk b 8 = true := modOk_p (by decide)
    have d122 : divOk a 122 = true := divOk_s (by decide) (by decide)
    have o82 : modOk (a / 122) 8 = true := modOk_p (by decide)
    have ct : cutD ((MirC.digits (b / 8) (List.replicate 8 26)).map D.int) none (some (k : Int)) = cs.map D.int := by rw [cutD_take, ← List.map_take, hcs]
    have hw := hw S
    have ct2 : cutD (fl.map D.str) none (some (m : Int)) = (fl.take m).map D.str := by rw [cutD_take, ← List.map_take]
    have lc : lcS (fun name_11 => lcStep (dBin (Mir.notM opEq) (pur (Wv.fz name_11)) (rd (.fz (.str w)))) (pur name_11)) [D.str "cup", D.str "pot", D.str "zz", D.str "a", D.str "teapots", D.str "b"] [] S = .ok (.ow (.lst (fl.map D.str))) S := by
      rw [hfl]
      refine lcS_filter (g := D.str) (t := fun x => decide (x ≠ w)) D.str nms (fun x _ => ?_) (by decide)
      by_cases e : x = w
      · simp -implicitDefEqProofs [e]
      · simp -implicitDefEqProofs [e]
    have sz : szOk (1 + ((fl.take m).map D.str).length) = true := szOk_le (by rw [List.length_map, List.length_take]; omega)
    have q5 : atD [D.int 2, D.int 5] 1 = some (.int 5) := rfl
    have q2 : atD [D.int 2, D.int 5] 0 = some (.int 2) := rfl
    rw [c_wares_k10]
    by_cases q : a / 122 % 8 = 3
    · rw [if_pos q] at hm2
      rw [← hm2] at ct2
      simp -implicitDefEqProofs only [g_wares_k10, x_bnd, x_pur, bindR_ok, x_items, x_fz, x_sl, x_call, x_cons, x_bin, c1, c0, s_div, d8, if_true, s_frz1, x_lst, List.length_cons, List.length_nil, rp, s_frz2, dg, x_part, s_mod, o8, s_add, hk, s_slO, ct, s_itD1, s_itO, hw, x_rdD, x_rd, x_rdo, lc, ct2, show szOk (0 + 1) = true from rfl, show szOk (0 + 1 + 1) = true from rfl, show szOk (0 + 1 + 1 + 1 + 1 + 1 + 1) = true from rfl, s_addLL, sz, s_prtW, x_consB, x_bl, s_eqI, q, decide_true, d122, o82, s_int2b, s_ixO, q5, s_gotW]
      rfl
    · rw [if_neg q] at hm2
      rw [← hm2] at ct2
      simp -implicitDefEqProofs only [g_wares_k10, x_bnd, x_pur, bindR_ok, x_items, x_fz, x_sl, x_call, x_cons, x_bin, c1, c0, s_div, d8, if_true, s_frz1, x_lst, List.length_cons, List.length_nil, rp, s_frz2, dg, x_part, s_mod, o8, s_add, hk, s_slO, ct, s_itD1, s_itO, hw, x_rdD, x_rd, x_rdo, lc, ct2, show szOk (0 + 1) = true from rfl, show szOk (0 + 1 + 1) = true from rfl, show szOk (0 + 1 + 1 + 1 + 1 + 1 + 1) = true from rfl, s_addLL, sz, s_prtW, x_consB, x_bl, s_eqI, q, decide_false, if_false, Bool.false_eq_true, d122, o82, s_int2b, s_ixO, q2, s_gotW]
      rfl
theorem pick3 {a b c i : Int} {B : Int} (ha : 0 ≤ a ∧ a ≤ B) (hb : 0 ≤ b ∧ b ≤ B) (hc : 0 ≤ c ∧ c ≤ B) (h0 : 0 ≤ i) (h1 : i < 3) : ∃ v, atD [D.int a, D.int b, D.int c] i = some (.int v) ∧ 0 ≤ v ∧ v ≤ B := by
  rcases (show i = 0 ∨ i = 1 ∨ i = 2 by omega) with rfl | rfl | rfl
  · exact ⟨a, rfl, ha⟩
  · exact ⟨b, rfl, hb⟩
  · exact ⟨c, rfl, hc⟩
theorem pick4 {a b c d i : Int} {B : Int} (ha : 0 ≤ a ∧ a ≤ B) (hb : 0 ≤ b ∧ b ≤ B) (hc : 0 ≤ c ∧ c ≤ B) (hd : 0 ≤ d ∧ d ≤ B) (h0 : 0 ≤ i) (h1 : i < 4) : ∃ v, atD [D.int a, D.int b, D.int c, D.int d] i = some (.int v) ∧ 0 ≤ v ∧ v ≤ B := by
  rcases (show i = 0 ∨ i = 1 ∨ i = 2 ∨ i = 3 by omega) with rfl | rfl | rfl | rfl
  · exact ⟨a, rfl, ha⟩
  · exact ⟨b, rfl, hb⟩
  · exact ⟨c, rfl, hc⟩
  · exact ⟨d, rfl, hd⟩
theorem pickW {ws : List Str} {i : Int} (h0 : 0 ≤ i) (h1 : i < ws.length) : ∃ w, ws[i.toNat]? = some w ∧ atD (ws.map D.str) i = some (.str w) := by
  obtain ⟨n, rfl⟩ := Int.eq_ofNat_of_zero_le h0
  have hn : n < ws.length := by omega
  refine ⟨ws[n], List.getElem?_eq_getElem hn, atD_nat ?_⟩
  rw [List.getElem?_map, List.getElem?_eq_getElem hn]
  rfl
noncomputable def EnW (ws : List Str) (e : En) : Prop := e.w ∈ ws ∧ ∀ ot sh wh, e.k = .part ot sh wh → ot ∈ ws
theorem entry_go {ws : List Str} (W : Wrs ws) {h : Hl} (hh : HOk h) {c day n k at_ sz p0 pr0 ex0 : Int} (hd0 : 0 ≤ day) (hd1 : day ≤ 1000000) (hn0 : 0 ≤ n) (hn1 : n ≤ 1000000)
    (k0 : 0 ≤ k) (k1 : k < 16) (a0 : 0 ≤ at_) (a1 : at_ < 6) (s0 : 0 ≤ sz) (s1 : sz < 4) (p00 : 0 ≤ p0) (p01 : p0 < 1000000000) (r0 : 0 ≤ pr0) (r1 : pr0 < 1000000001) (x0 : 0 ≤ ex0) (x1 : ex0 < 1000000001)
    (dg : ∀ S : Store, f_digits_k01 [.int c, .lst [.int 16, .int 6, .int 4, .int 1000000000, .int (1000000000 + 1), .int (1000000000 + 1)]] S = .ok (.ow (.lst [.int k, .int at_, .int sz, .int p0, .int pr0, .int ex0])) S) :
    ∃ e : En, e.Ok ∧ e.d = day ∧ e.n = n ∧ EnW ws e ∧ ∀ S : Store, f_entry_k10 [.int c, .int day, .int n, .lst (ws.map D.str), .dct (hk h)] S = .ok (.fz e.told) S := by
  have l3 := W.len
  have l6 := W.le
  have m0 : 0 ≤ at_ % (ws.length : Int) := Int.emod_nonneg _ (by omega)
  have m1 : at_ % (ws.length : Int) < ws.length := Int.emod_lt_of_pos _ (by omega)
  obtain ⟨w, gw, aw⟩ := pickW m0 m1
  have wm : w ∈ ws := List.mem_of_getElem? gw
  have ww := W.w w wm
  have gt := lkd_hk h w
  obtain ⟨t, ht⟩ : ∃ t, t = hget h w := ⟨_, rfl⟩
  have t0 : 0 ≤ t := ht ▸ hget_ge hh w
  rw [← ht] at gt
  obtain ⟨p, ap, pp0, pp1⟩ := pick4 (B := 999999999) (a := p0 % 4) (b := p0 % 50) (c := p0 % 3000) (d := p0) (i := sz) (by omega) (by omega) (by omega) (by omega) s0 s1
  obtain ⟨pr, apr, pr1, pr2⟩ := pick3 (B := 1000000000) (a := pr0 % 9) (b := pr0 % 500) (c := pr0) (i := (p + 1) % 3) (by omega) (by omega) (by omega) (by omega) (by omega)
  obtain ⟨ex, aex, ex1, ex2⟩ := pick3 (B := 1000000000) (a := 0) (b := ex0 % 30) (c := ex0) (i := (p + 1) / 3 % 3) (by omega) (by omega) (by omega) (by omega) (by omega)
  have pw : ∀ S : Store, opPow (.fz (.int 10)) (.fz (.int 9)) S = .ok (.fz (.int 1000000000)) S := fun _ => rfl
  have pw6 : ∀ S : Store, opPow (.fz (.int 10)) (.fz (.int 6)) S = .ok (.fz (.int 1000000)) S := fun _ => rfl
  have sl : ∀ S : Store, bLen [.fz (.lst (ws.map D.str))] S = .ok (.fz (.int (ws.length : Nat))) S := fun S => by
    show Mir.R.ok (Wv.fz (.int (((ws.map D.str).length : Nat) : Int))) S = _
    rw [List.length_map]
  have o1 : modOk at_ (ws.length : Int) = true := modOk_p (by omega)
  have o2 : ∀ x : Int, modOk p0 4 = true ∧ modOk p0 50 = true ∧ modOk p0 3000 = true ∧ modOk pr0 9 = true ∧ modOk pr0 500 = true ∧ modOk ex0 30 = true ∧ modOk x 3 = true := fun x => ⟨modOk_p (by decide), modOk_p (by decide), modOk_p (by decide), modOk_p (by decide), modOk_p (by decide), modOk_p (by decide), modOk_p (by decide)⟩
  obtain ⟨oa, ob, oc, od, oe, og, _⟩ := o2 0
  have o3 : ∀ x : Int, modOk x 3 = true := fun x => modOk_p (by decide)
  have d3 : ∀ x : Int, divOk x 3 = true := fun x => divOk_s (by decide) (by decide)
  have b : Base day n w := ⟨hd0, hd1, hn0, hn1, ww⟩
  by_cases k15 : k = 15
  · subst k15
    have c1 : (5 : Int) < 15 := by decide
    have c2 : ¬ (15 : Int) < 12 := by decide
    have w0 := Int.emod_nonneg ex (show (1000000 : Int) ≠ 0 by decide)
    have w1 := Int.emod_lt_of_pos ex (show (0 : Int) < 1000000 by decide)
    have z0 := Int.emod_nonneg sz (show (ws.length : Int) - 1 ≠ 0 by omega)
    have z1 := Int.emod_lt_of_pos sz (show (0 : Int) < (ws.length : Int) - 1 by omega)
    have j0 := Int.emod_nonneg (at_ % (ws.length : Int) + 1 + sz % ((ws.length : Int) - 1)) (show (ws.length : Int) ≠ 0 by omega)
    have j1 := Int.emod_lt_of_pos (at_ % (ws.length : Int) + 1 + sz % ((ws.length : Int) - 1)) (show (0 : Int) < (ws.length : Int) by omega)
    obtain ⟨ot, go, ao⟩ := pickW j0 j1
    have ne : ot ≠ w := fun z => by
      have hi1 := (List.getElem?_eq_some_iff.mp go)
      have hi2 := (List.getElem?_eq_some_iff.mp gw)
      obtain ⟨b1, e1⟩ := hi1
      obtain ⟨b2, e2⟩ := hi2
      have pw := List.pairwise_iff_getElem.mp W.nd
      have q : (((at_ % (ws.length : Int) + 1 + sz % ((ws.length : Int) - 1)) % (ws.length : Int)).toNat) = (at_ % (ws.length : Int)).toNat := by
        rcases Nat.lt_trichotomy (((at_ % (ws.length : Int) + 1 + sz % ((ws.length : Int) - 1)) % (ws.length : Int)).toNat) ((at_ % (ws.length : Int)).toNat) with h | h | h
        · exact (pw _ _ b1 b2 h (by rw [e1, e2, z])).elim
        · exact h
        · exact (pw _ _ b2 b1 h (by rw [e1, e2, z])).elim
      generalize at_ % (ws.length : Int) = i at *
      generalize sz % ((ws.length : Int) - 1) = s at *
      rcases (show ws.length = 3 ∨ ws.length = 4 ∨ ws.length = 5 ∨ ws.length = 6 by omega) with q1 | q1 | q1 | q1 <;> rw [q1] at j0 j1 q m1 z1 <;> omega
    have om : modOk ex 1000000 = true := modOk_p (by decide)
    have os : modOk sz ((ws.length : Int) - 1) = true := modOk_p (by omega)
    have ol : ∀ x : Int, modOk x (ws.length : Int) = true := fun x => modOk_p (by omega)
    have ow : modOk pr (ex % 1000000 + 1 + 1) = true := modOk_p (by omega)
    have v0 := Int.emod_nonneg pr (show ex % 1000000 + 1 + 1 ≠ 0 by omega)
    have v1 := Int.emod_lt_of_pos pr (show 0 < ex % 1000000 + 1 + 1 by omega)
    refine ⟨⟨day, n, w, .part ot (pr % (ex % 1000000 + 1 + 1)) (ex % 1000000 + 1)⟩, ⟨b, ⟨W.w ot (List.mem_of_getElem? go), ne⟩, ⟨by omega, by omega⟩, v0, by omega⟩, rfl, rfl, ⟨wm, fun _ _ _ e => by cases e; exact List.mem_of_getElem? go⟩, fun S => ?_⟩
    rw [c_entry_k10]
    simp -implicitDefEqProofs only [g_entry_k10, x_bnd, x_call, x_cons, x_pur, bindR_ok, x_fz, x_lst, x_bin, pw, pw6, s_add, s_sub, s_frz1, s_frz2, List.length_cons, List.length_nil, show szOk (0 + 1) = true from rfl, show szOk (0 + 1 + 1 + 1) = true from rfl, show szOk (0 + 1 + 1 + 1 + 1) = true from rfl, show szOk (0 + 1 + 1 + 1 + 1 + 1) = true from rfl, show szOk (0 + 1 + 1 + 1 + 1 + 1 + 1) = true from rfl, show szOk (0 + 1 + 1 + 1 + 1 + 1 + 1 + 1) = true from rfl, show szOk (0 + 1 + 1 + 1 + 1 + 1 + 1 + 1 + 1) = true from rfl, if_true, dg, x_uno6, sl, o1, oa, ob, oc, od, oe, og, s_mod, aw, s_ixF, s_gotW, x_get2, s_vK1, Option.isSome_some, s_keyS, x_get2O, x_rd, x_rdo, x_rdD, gt, s_ixO, ap, o3, apr, s_div, d3, aex, x_ift, x_and, x_or, s_gt, s_lt, s_eqI, x_up, x_tup, x_consB, decide_true, decide_false, if_false, Bool.false_eq_true, c1, c2, om, os, ol, ow, ao]
    try rfl
  by_cases k12 : 11 < k
  · have c1 : 5 < k := by omega
    have c2 : ¬ k < 12 := by omega
    obtain ⟨m1_, am, mp0, mp1⟩ : ∃ v, atD [D.int 3, D.int 3, D.int 10, D.int 1000] sz = some (.int v) ∧ 1 ≤ v ∧ v ≤ 1000 := by
      rcases (show sz = 0 ∨ sz = 1 ∨ sz = 2 ∨ sz = 3 by omega) with rfl | rfl | rfl | rfl
      · exact ⟨3, rfl, by decide, by decide⟩
      · exact ⟨3, rfl, by decide, by decide⟩
      · exact ⟨10, rfl, by decide, by decide⟩
      · exact ⟨1000, rfl, by decide, by decide⟩
    obtain ⟨m2_, am2, mq0, mq1⟩ : ∃ v, atD [D.int 3, D.int 5, D.int 10, D.int 1000] sz = some (.int v) ∧ 1 ≤ v ∧ v ≤ 1000 := by
      rcases (show sz = 0 ∨ sz = 1 ∨ sz = 2 ∨ sz = 3 by omega) with rfl | rfl | rfl | rfl
      · exact ⟨3, rfl, by decide, by decide⟩
      · exact ⟨5, rfl, by decide, by decide⟩
      · exact ⟨10, rfl, by decide, by decide⟩
      · exact ⟨1000, rfl, by decide, by decide⟩
    have om : modOk pr m1_ = true := modOk_p (by omega)
    have on : modOk ex m2_ = true := modOk_p (by omega)
    have u0 := Int.emod_nonneg pr (show m1_ ≠ 0 by omega)
    have u1 := Int.emod_lt_of_pos pr (show 0 < m1_ by omega)
    have v0 := Int.emod_nonneg ex (show m2_ ≠ 0 by omega)
    have v1 := Int.emod_lt_of_pos ex (show 0 < m2_ by omega)
    refine ⟨⟨day, n, w, .split (1 + pr % m1_) (1 + ex % m2_)⟩, ⟨b, ⟨by omega, by omega⟩, by omega, by omega⟩, rfl, rfl, ⟨wm, fun _ _ _ e => (nomatch e)⟩, fun S => ?_⟩
    rw [c_entry_k10]
    simp -implicitDefEqProofs only [g_entry_k10, x_bnd, x_call, x_cons, x_pur, bindR_ok, x_fz, x_lst, x_bin, pw, pw6, s_add, s_sub, s_frz1, s_frz2, List.length_cons, List.length_nil, show szOk (0 + 1) = true from rfl, show szOk (0 + 1 + 1 + 1) = true from rfl, show szOk (0 + 1 + 1 + 1 + 1) = true from rfl, show szOk (0 + 1 + 1 + 1 + 1 + 1) = true from rfl, show szOk (0 + 1 + 1 + 1 + 1 + 1 + 1) = true from rfl, show szOk (0 + 1 + 1 + 1 + 1 + 1 + 1 + 1) = true from rfl, show szOk (0 + 1 + 1 + 1 + 1 + 1 + 1 + 1 + 1) = true from rfl, if_true, dg, x_uno6, sl, o1, oa, ob, oc, od, oe, og, s_mod, aw, s_ixF, s_gotW, x_get2, s_vK1, Option.isSome_some, s_keyS, x_get2O, x_rd, x_rdo, x_rdD, gt, s_ixO, ap, o3, apr, s_div, d3, aex, x_ift, x_and, x_or, s_gt, s_lt, s_eqI, x_up, x_tup, x_consB, decide_true, decide_false, if_false, Bool.false_eq_true, k15, k12, c1, c2, am, am2, om, on]
    try rfl
  obtain ⟨q, hq⟩ : ∃ q, q = 1 + (p + 1) % minI t 1000000000 := ⟨_, rfl⟩
  have mn : ∀ S : Store, bInt2 minI [.fz (.int t), .fz (.int 1000000000)] S = .ok (.fz (.int (minI t 1000000000))) S := fun _ => rfl
  have qb : 0 < t → 1 ≤ q ∧ q ≤ 1000000000 := fun tp => by
    have b1 : 0 < minI t 1000000000 := by unfold minI; split <;> omega
    have b2 : minI t 1000000000 ≤ 1000000000 := by unfold minI; split <;> omega
    have := Int.emod_nonneg (p + 1) (show minI t 1000000000 ≠ 0 by omega)
    have := Int.emod_lt_of_pos (p + 1) b1
    omega
  have om : 0 < t → modOk (p + 1) (minI t 1000000000) = true := fun tp => modOk_p (by unfold minI; split <;> omega)
  have odd : modOk ex (day + 1) = true := modOk_p (by omega)
  have sd0 := Int.emod_nonneg ex (show day + 1 ≠ 0 by omega)
  have sd1 := Int.emod_lt_of_pos ex (show 0 < day + 1 by omega)
  have mul : mulOk pr ex = true := mulOk_r (by omega) (by omega)
  have pe0 : 0 ≤ pr * ex := Int.mul_nonneg pr1 ex1
  have pe1 : pr * ex ≤ 1000000000000000000 := by
    have := Int.mul_le_mul pr2 ex2 ex1 (by decide)
    omega
  by_cases k6 : k = 6
  · subst k6
    have c1 : (5 : Int) < 6 := by decide
    have c2 : (6 : Int) < 12 := by decide
    have c3 : ¬ (6 : Int) = 15 := by decide
    have c4 : ¬ (11 : Int) < 6 := by decide
    by_cases tp : 0 < t
    · have om := om tp
      obtain ⟨q0, q1⟩ := qb tp
      refine ⟨⟨day, n, w, .gift q (pr * ex) (day - ex % (day + 1))⟩, ⟨b, ⟨q0, q1⟩, ⟨pe0, pe1⟩, by omega, (show day - ex % (day + 1) ≤ day by omega)⟩, rfl, rfl, ⟨wm, fun _ _ _ e => (nomatch e)⟩, fun S => ?_⟩
      rw [c_entry_k10]
      simp -implicitDefEqProofs only [g_entry_k10, x_bnd, x_call, x_cons, x_pur, bindR_ok, x_fz, x_lst, x_bin, pw, pw6, s_add, s_sub, s_frz1, s_frz2, List.length_cons, List.length_nil, show szOk (0 + 1) = true from rfl, show szOk (0 + 1 + 1 + 1) = true from rfl, show szOk (0 + 1 + 1 + 1 + 1) = true from rfl, show szOk (0 + 1 + 1 + 1 + 1 + 1) = true from rfl, show szOk (0 + 1 + 1 + 1 + 1 + 1 + 1) = true from rfl, show szOk (0 + 1 + 1 + 1 + 1 + 1 + 1 + 1) = true from rfl, show szOk (0 + 1 + 1 + 1 + 1 + 1 + 1 + 1 + 1) = true from rfl, if_true, dg, x_uno6, sl, o1, oa, ob, oc, od, oe, og, s_mod, aw, s_ixF, s_gotW, x_get2, s_vK1, Option.isSome_some, s_keyS, x_get2O, x_rd, x_rdo, x_rdD, gt, s_ixO, ap, o3, apr, s_div, d3, aex, x_ift, x_and, x_or, s_gt, s_lt, s_eqI, x_up, x_tup, x_consB, decide_true, decide_false, if_false, Bool.false_eq_true, c1, c2, c3, c4, tp, mn, om, ← hq, odd, s_mul, mul]
      try rfl
    · refine ⟨⟨day, n, w, .gift (p + 1) (pr * ex) (day - ex % (day + 1))⟩, ⟨b, ⟨by omega, by omega⟩, ⟨pe0, pe1⟩, by omega, (show day - ex % (day + 1) ≤ day by omega)⟩, rfl, rfl, ⟨wm, fun _ _ _ e => (nomatch e)⟩, fun S => ?_⟩
      rw [c_entry_k10]
      simp -implicitDefEqProofs only [g_entry_k10, x_bnd, x_call, x_cons, x_pur, bindR_ok, x_fz, x_lst, x_bin, pw, pw6, s_add, s_sub, s_frz1, s_frz2, List.length_cons, List.length_nil, show szOk (0 + 1) = true from rfl, show szOk (0 + 1 + 1 + 1) = true from rfl, show szOk (0 + 1 + 1 + 1 + 1) = true from rfl, show szOk (0 + 1 + 1 + 1 + 1 + 1) = true from rfl, show szOk (0 + 1 + 1 + 1 + 1 + 1 + 1) = true from rfl, show szOk (0 + 1 + 1 + 1 + 1 + 1 + 1 + 1) = true from rfl, show szOk (0 + 1 + 1 + 1 + 1 + 1 + 1 + 1 + 1) = true from rfl, if_true, dg, x_uno6, sl, o1, oa, ob, oc, od, oe, og, s_mod, aw, s_ixF, s_gotW, x_get2, s_vK1, Option.isSome_some, s_keyS, x_get2O, x_rd, x_rdo, x_rdD, gt, s_ixO, ap, o3, apr, s_div, d3, aex, x_ift, x_and, x_or, s_gt, s_lt, s_eqI, x_up, x_tup, x_consB, decide_true, decide_false, if_false, Bool.false_eq_true, c1, c2, c3, c4, tp, odd, s_mul, mul]
      try rfl
  by_cases k5 : k < 6
  · have c1 : ¬ 5 < k := by omega
    refine ⟨⟨day, n, w, .buy (p + 1) pr ex⟩, ⟨b, ⟨by omega, by omega⟩, ⟨pr1, pr2⟩, ex1, ex2⟩, rfl, rfl, ⟨wm, fun _ _ _ e => (nomatch e)⟩, fun S => ?_⟩
    rw [c_entry_k10]
    simp -implicitDefEqProofs only [g_entry_k10, x_bnd, x_call, x_cons, x_pur, bindR_ok, x_fz, x_lst, x_bin, pw, pw6, s_add, s_sub, s_frz1, s_frz2, List.length_cons, List.length_nil, show szOk (0 + 1) = true from rfl, show szOk (0 + 1 + 1 + 1) = true from rfl, show szOk (0 + 1 + 1 + 1 + 1) = true from rfl, show szOk (0 + 1 + 1 + 1 + 1 + 1) = true from rfl, show szOk (0 + 1 + 1 + 1 + 1 + 1 + 1) = true from rfl, show szOk (0 + 1 + 1 + 1 + 1 + 1 + 1 + 1) = true from rfl, show szOk (0 + 1 + 1 + 1 + 1 + 1 + 1 + 1 + 1) = true from rfl, if_true, dg, x_uno6, sl, o1, oa, ob, oc, od, oe, og, s_mod, aw, s_ixF, s_gotW, x_get2, s_vK1, Option.isSome_some, s_keyS, x_get2O, x_rd, x_rdo, x_rdD, gt, s_ixO, ap, o3, apr, s_div, d3, aex, x_ift, x_and, x_or, s_gt, s_lt, s_eqI, x_up, x_tup, x_consB, decide_true, decide_false, if_false, Bool.false_eq_true, k15, k12, k6, k5, c1]
    try rfl
  have c1 : 5 < k := by omega
  have c2 : k < 12 := by omega
  by_cases tp : 0 < t
  · have om := om tp
    obtain ⟨q0, q1⟩ := qb tp
    have tz : ¬ t = 0 := by omega
    by_cases k10 : k < 10
    · refine ⟨⟨day, n, w, .sell q pr ex⟩, ⟨b, ⟨q0, q1⟩, ⟨pr1, pr2⟩, ex1, ex2⟩, rfl, rfl, ⟨wm, fun _ _ _ e => (nomatch e)⟩, fun S => ?_⟩
      rw [c_entry_k10]
      simp -implicitDefEqProofs only [g_entry_k10, x_bnd, x_call, x_cons, x_pur, bindR_ok, x_fz, x_lst, x_bin, pw, pw6, s_add, s_sub, s_frz1, s_frz2, List.length_cons, List.length_nil, show szOk (0 + 1) = true from rfl, show szOk (0 + 1 + 1 + 1) = true from rfl, show szOk (0 + 1 + 1 + 1 + 1) = true from rfl, show szOk (0 + 1 + 1 + 1 + 1 + 1) = true from rfl, show szOk (0 + 1 + 1 + 1 + 1 + 1 + 1) = true from rfl, show szOk (0 + 1 + 1 + 1 + 1 + 1 + 1 + 1) = true from rfl, show szOk (0 + 1 + 1 + 1 + 1 + 1 + 1 + 1 + 1) = true from rfl, if_true, dg, x_uno6, sl, o1, oa, ob, oc, od, oe, og, s_mod, aw, s_ixF, s_gotW, x_get2, s_vK1, Option.isSome_some, s_keyS, x_get2O, x_rd, x_rdo, x_rdD, gt, s_ixO, ap, o3, apr, s_div, d3, aex, x_ift, x_and, x_or, s_gt, s_lt, s_eqI, x_up, x_tup, x_consB, decide_true, decide_false, if_false, Bool.false_eq_true, k15, k12, k6, k5, k10, c1, c2, tp, tz, mn, om, ← hq]
      try rfl
    · refine ⟨⟨day, n, w, .give q⟩, ⟨b, q0, q1⟩, rfl, rfl, ⟨wm, fun _ _ _ e => (nomatch e)⟩, fun S => ?_⟩
      rw [c_entry_k10]
      simp -implicitDefEqProofs only [g_entry_k10, x_bnd, x_call, x_cons, x_pur, bindR_ok, x_fz, x_lst, x_bin, pw, pw6, s_add, s_sub, s_frz1, s_frz2, List.length_cons, List.length_nil, show szOk (0 + 1) = true from rfl, show szOk (0 + 1 + 1 + 1) = true from rfl, show szOk (0 + 1 + 1 + 1 + 1) = true from rfl, show szOk (0 + 1 + 1 + 1 + 1 + 1) = true from rfl, show szOk (0 + 1 + 1 + 1 + 1 + 1 + 1) = true from rfl, show szOk (0 + 1 + 1 + 1 + 1 + 1 + 1 + 1) = true from rfl, show szOk (0 + 1 + 1 + 1 + 1 + 1 + 1 + 1 + 1) = true from rfl, if_true, dg, x_uno6, sl, o1, oa, ob, oc, od, oe, og, s_mod, aw, s_ixF, s_gotW, x_get2, s_vK1, Option.isSome_some, s_keyS, x_get2O, x_rd, x_rdo, x_rdD, gt, s_ixO, ap, o3, apr, s_div, d3, aex, x_ift, x_and, x_or, s_gt, s_lt, s_eqI, x_up, x_tup, x_consB, decide_true, decide_false, if_false, Bool.false_eq_true, k15, k12, k6, k5, k10, c1, c2, tp, tz, mn, om, ← hq]
      try rfl
  · have tz : t = 0 := by omega
    subst tz
    refine ⟨⟨day, n, w, .buy (p + 1) pr ex⟩, ⟨b, ⟨by omega, by omega⟩, ⟨pr1, pr2⟩, ex1, ex2⟩, rfl, rfl, ⟨wm, fun _ _ _ e => (nomatch e)⟩, fun S => ?_⟩
    rw [c_entry_k10]
    simp -implicitDefEqProofs only [g_entry_k10, x_bnd, x_call, x_cons, x_pur, bindR_ok, x_fz, x_lst, x_bin, pw, pw6, s_add, s_sub, s_frz1, s_frz2, List.length_cons, List.length_nil, show szOk (0 + 1) = true from rfl, show szOk (0 + 1 + 1 + 1) = true from rfl, show szOk (0 + 1 + 1 + 1 + 1) = true from rfl, show szOk (0 + 1 + 1 + 1 + 1 + 1) = true from rfl, show szOk (0 + 1 + 1 + 1 + 1 + 1 + 1) = true from rfl, show szOk (0 + 1 + 1 + 1 + 1 + 1 + 1 + 1) = true from rfl, show szOk (0 + 1 + 1 + 1 + 1 + 1 + 1 + 1 + 1) = true from rfl, if_true, dg, x_uno6, sl, o1, oa, ob, oc, od, oe, og, s_mod, aw, s_ixF, s_gotW, x_get2, s_vK1, Option.isSome_some, s_keyS, x_get2O, x_rd, x_rdo, x_rdD, gt, s_ixO, ap, o3, apr, s_div, d3, aex, x_ift, x_and, x_or, s_gt, s_lt, s_eqI, x_up, x_tup, x_consB, decide_true, decide_false, if_false, Bool.false_eq_true, k15, k12, k6, k5, c1, c2, Int.lt_irrefl]
    try rfl
theorem entry_eq {ws : List Str} (W : Wrs ws) {h : Hl} (hh : HOk h) (c : Int) {day n : Int} (hd0 : 0 ≤ day) (hd1 : day ≤ 1000000) (hn0 : 0 ≤ n) (hn1 : n ≤ 1000000) :
    ∃ e : En, e.Ok ∧ e.d = day ∧ e.n = n ∧ EnW ws e ∧ ∀ S : Store, f_entry_k10 [.int c, .int day, .int n, .lst (ws.map D.str), .dct (hk h)] S = .ok (.fz e.told) S := by
  refine entry_go (k := c % 16) (at_ := c / 16 % 6) (sz := c / 16 / 6 % 4) (p0 := c / 16 / 6 / 4 % 1000000000) (pr0 := c / 16 / 6 / 4 / 1000000000 % 1000000001) (ex0 := c / 16 / 6 / 4 / 1000000000 / 1000000001 % 1000000001) W hh hd0 hd1 hn0 hn1
    (Int.emod_nonneg _ (by decide)) (Int.emod_lt_of_pos _ (by decide)) (Int.emod_nonneg _ (by decide)) (Int.emod_lt_of_pos _ (by decide)) (Int.emod_nonneg _ (by decide)) (Int.emod_lt_of_pos _ (by decide)) (Int.emod_nonneg _ (by decide)) (Int.emod_lt_of_pos _ (by decide)) (Int.emod_nonneg _ (by decide)) (Int.emod_lt_of_pos _ (by decide)) (Int.emod_nonneg _ (by decide)) (Int.emod_lt_of_pos _ (by decide)) fun S => ?_
  have q := digitsk_eq (S := S) (bs := [16, 6, 4, 1000000000, 1000000001, 1000000001]) (fun b hb => by
    simp only [List.mem_cons, List.not_mem_nil, or_false] at hb
    rcases hb with rfl | rfl | rfl | rfl | rfl | rfl <;> exact ⟨by decide, by decide⟩) (by decide) c
  exact q
theorem merge_hk (l : Hl) : mergeD (hk l) = hk (l.foldl (fun h p => hput h p.1 p.2) []) := by
  unfold mergeD
  have go : ∀ (l h : Hl), (hk l).foldl (fun acc kv => putD acc kv.1 kv.2) (hk h) = hk (l.foldl (fun h p => hput h p.1 p.2) h) := by
    intro l
    induction l with
    | nil => exact fun _ => rfl
    | cons p r ih =>
      intro h
      show (hk r).foldl (fun acc kv => putD acc kv.1 kv.2) (putD (hk h) (.inr p.1) (.int p.2)) = _
      rw [put_hk, ih]
      rfl
  exact go l []
theorem fold_ok : ∀ (l h : Hl), HOk h → (∀ p ∈ l, 0 < p.2) → HOk (l.foldl (fun h p => hput h p.1 p.2) h)
  | [], h, ok, _ => ok
  | p :: r, h, ok, hp => fold_ok r _ (hput_ok ok p.1 (hp p List.mem_cons_self)) fun q hq => hp q (List.mem_cons_of_mem _ hq)
theorem hok_nil : HOk [] := ⟨List.nodup_nil, fun _ z => (nomatch z)⟩
end G
set_option Elab.async false
set_option linter.all false
set_option maxRecDepth 100000
set_option maxHeartbeats 4000000
set_option exponentiation.threshold 100000
namespace G
open PySem L2 Mir
variable {S : Store}
noncomputable def runH : List En → Hl → Option Hl
  | [], h => some h
  | e :: r, h => match e.behind h with
    | some h' => runH r h'
    | none => none
structure HI (low step : Int) (k : Nat) (ws : List Str) (es : List En) (h : Hl) (d : Int) : Prop where
  ok : ∀ e ∈ es, e.Ok
  run : runH es [] = some h
  hok : HOk h
  hl : h.length ≤ k
  len : es.length ≤ k
  d0 : 0 ≤ d
  d1 : d ≤ 16000 * k
  ds : ∀ e ∈ es, e.d ≤ d
  ns : ∀ e ∈ es, e.n < low + step * k
  ord : es.Pairwise fun a b => a.d ≤ b.d ∧ a.n < b.n
  wm : ∀ e ∈ es, EnW ws e
theorem cutD_midG {xs : List D} (i j : Nat) : cutD xs (some (i : Int)) (some (j : Int)) = (xs.drop i).take (j - i) := by
  by_cases hj : j ≤ xs.length
  · exact cutD_mid i j hj
  · unfold cutD
    rw [show HT.sIx xs.length 0 (some (i : Int)) = min i xs.length from HT.sIx_nat _ _ i, show HT.sIx xs.length xs.length (some (j : Int)) = min j xs.length from HT.sIx_nat _ _ j, Nat.min_eq_right (by omega)]
    by_cases h : i ≤ xs.length
    · rw [Nat.min_eq_left h, List.take_of_length_le (by rw [List.length_drop]; exact Nat.le_refl _), List.take_of_length_le (by rw [List.length_drop]; omega)]
    · rw [Nat.min_eq_right (by omega), List.drop_of_length_le (Nat.le_refl _), List.drop_of_length_le (by omega)]
      simp
theorem enum_ints (cs : List Int) : enumD (cs.map D.int) = ((List.range' 0 cs.length).zip cs).map fun p => D.tup [.int (p.1 : Nat), .int p.2] := by
  unfold enumD
  rw [List.length_map, List.range_eq_range', List.zip, List.map_zipWith, List.zipWith_map_right]
end G
set_option Elab.async false
set_option linter.all false
set_option maxRecDepth 100000
set_option exponentiation.threshold 100000
namespace G
open PySem L2 Mir
variable {S : Store}
noncomputable abbrev kyL (x : Lt) : List Int := [x.s, x.n]
noncomputable abbrev kyD (x : Lt) : D := .tup [.int x.s, .int x.n]
noncomputable instance {a b : Lt} : Decidable (a.Bef b) := by unfold Lt.Bef; exact inferInstance
structure Ord (R : List Lt) : Prop where
  nd : (R.map Lt.n).Nodup
  pw : R.Pairwise Lt.Bef
theorem Lt.Bef.trans {a b c : Lt} (h1 : a.Bef b) (h2 : b.Bef c) : a.Bef c := by
  unfold Lt.Bef at *
  omega
end G
set_option Elab.async false
set_option linter.all false
set_option maxRecDepth 100000
set_option maxHeartbeats 4000000
set_option exponentiation.threshold 100000
namespace G
open PySem L2 Mir
variable {S : Store}
noncomputable abbrev Pe := Nat × En
noncomputable abbrev peD (p : Pe) : D := .ref p.1
noncomputable abbrev kyE (p : Pe) : List Int := [p.2.d, p.2.n]
structure AtN (S : Store) (p : Pe) : Prop where
  num : dFld "number" [12, 13, 14, 15, 16, 17] (pur (.fz (.ref p.1))) S = .ok (.int p.2.n) S
  day : dFld "day" [12, 13, 14, 15, 16, 17] (pur (.fz (.ref p.1))) S = .ok (.int p.2.d) S
end G
set_option Elab.async false
set_option linter.all false
set_option maxRecDepth 100000
set_option maxHeartbeats 4000000
set_option exponentiation.threshold 100000
namespace G
open PySem L2 Mir
variable {S : Store}
noncomputable def IsE (S : Store) (x : D) (e : En) : Prop := insW S (.fz x) = some (e.cls, e.fs)
section
variable {x : D} {e : En}
theorem IsE.fld (h : IsE S x e) (f : Str) (cs : List Nat) : dFld f cs (pur (.fz x)) S = fldO f cs S (some (e.cls, e.fs)) := by
  rw [x_fld]
  show fldO f cs S (insW S (.fz x)) = _
  rw [h]
theorem IsE.meth (h : IsE S x e) (m : Str) (disp : Nat → Option Fn) (ml : M (List D)) : dMeth m disp (pur x) ml S = methD (dispO m disp (some (e.cls, e.fs))) ml x S := by
  rw [x_meth]
  show methD (dispO m disp (insW S (.fz x))) ml x S = _
  rw [h]
noncomputable def En.word (e : En) : Str := match e.k with
  | .buy .. => "buy" | .sell .. => "sell" | .gift .. => "gift" | .give .. => "give" | .split .. => "split" | .part .. => "part"
theorem Entry_told_eq (h : IsE S x e) : f_Entry_told [x] S = .ok (.fz (.tup [.str e.word, .int e.d, .int e.n, .str e.w])) S := by
  have m := h.meth "word" (tabF [(11, f_Entry_word), (12, f_Buy_word), (13, f_Sell_word), (14, f_Gift_word), (15, f_Give_word), (16, f_Split_word), (17, f_Parting_word)]) (pur [])
  have f1 := h.fld "day" [11, 12, 13, 14, 15, 16, 17]
  have f2 := h.fld "number" [11, 12, 13, 14, 15, 16, 17]
  have f3 := h.fld "ware" [11, 12, 13, 14, 15, 16, 17]
  have mw : dMeth "word" (tabF [(11, f_Entry_word), (12, f_Buy_word), (13, f_Sell_word), (14, f_Gift_word), (15, f_Give_word), (16, f_Split_word), (17, f_Parting_word)]) (pur x) (pur []) S = .ok (.fz (.str e.word)) S := by
    rw [m]
    obtain ⟨d, n, w, k⟩ := e
    cases k
    · exact (c_Buy_word x S).trans rfl
    · exact (c_Sell_word x S).trans rfl
    · exact (c_Gift_word x S).trans rfl
    · exact (c_Give_word x S).trans rfl
    · exact (c_Split_word x S).trans rfl
    · exact (c_Parting_word x S).trans rfl
  have g1 : fldO "day" [11, 12, 13, 14, 15, 16, 17] S (some (e.cls, e.fs)) = .ok (.int e.d) S := by
    obtain ⟨d, n, w, k⟩ := e
    cases k <;> rfl
  have g2 : fldO "number" [11, 12, 13, 14, 15, 16, 17] S (some (e.cls, e.fs)) = .ok (.int e.n) S := by
    obtain ⟨d, n, w, k⟩ := e
    cases k <;> rfl
  have g3 : fldO "ware" [11, 12, 13, 14, 15, 16, 17] S (some (e.cls, e.fs)) = .ok (.str e.w) S := by
    obtain ⟨d, n, w, k⟩ := e
    cases k <;> rfl
  rw [g1] at f1
  rw [g2] at f2
  rw [g3] at f3
  rw [c_Entry_told]
  simp -implicitDefEqProofs [g_Entry_told, -x_fld, -x_meth, mw, f1, f2, f3]
theorem named_told_non : f_named_told [.non] S = .ok (.fz .non) S := by
  rw [c_named_told]
  rfl
theorem etold_eq (h : IsE S x e) : dMeth "told" (tabF [(12, f_Buy_told), (13, f_Sell_told), (14, f_Gift_told), (15, f_Give_told), (16, f_Split_told), (17, f_Parting_told)]) (pur x) (pur []) S = .ok (.fz e.told) S := by
  have m := h.meth "told" (tabF [(12, f_Buy_told), (13, f_Sell_told), (14, f_Gift_told), (15, f_Give_told), (16, f_Split_told), (17, f_Parting_told)]) (pur [])
  rw [m]
  have b := Entry_told_eq h
  have nt := named_told_non (S := S)
  have fl := h.fld
  obtain ⟨d, n, w, k⟩ := e
  cases k with
  | buy p pr f =>
    show f_Buy_told [x] S = _
    rw [c_Buy_told]
    have f1 : dFld "pieces" [12] (pur (.fz x)) S = .ok (.int p) S := fl "pieces" [12]
    have f2 : dFld "price" [12] (pur (.fz x)) S = .ok (.int pr) S := fl "price" [12]
    have f3 : dFld "fee" [12] (pur (.fz x)) S = .ok (.int f) S := fl "fee" [12]
    simp -implicitDefEqProofs [g_Buy_told, -x_fld, b, f1, f2, f3]
    rfl
  | sell p pr f =>
    show f_Sell_told [x] S = _
    rw [c_Sell_told]
    have f1 : dFld "pieces" [13] (pur (.fz x)) S = .ok (.int p) S := fl "pieces" [13]
    have f2 : dFld "price" [13] (pur (.fz x)) S = .ok (.int pr) S := fl "price" [13]
    have f3 : dFld "fee" [13] (pur (.fz x)) S = .ok (.int f) S := fl "fee" [13]
    have f4 : dFld "named" [13] (pur (.fz x)) S = .ok .non S := fl "named" [13]
    simp -implicitDefEqProofs [g_Sell_told, -x_fld, b, f1, f2, f3, f4, nt]
    rfl
  | gift p c s =>
    show f_Gift_told [x] S = _
    rw [c_Gift_told]
    have f1 : dFld "pieces" [14] (pur (.fz x)) S = .ok (.int p) S := fl "pieces" [14]
    have f2 : dFld "cost" [14] (pur (.fz x)) S = .ok (.int c) S := fl "cost" [14]
    have f3 : dFld "since" [14] (pur (.fz x)) S = .ok (.int s) S := fl "since" [14]
    simp -implicitDefEqProofs [g_Gift_told, -x_fld, b, f1, f2, f3]
    rfl
  | give p =>
    show f_Give_told [x] S = _
    rw [c_Give_told]
    have f1 : dFld "pieces" [15] (pur (.fz x)) S = .ok (.int p) S := fl "pieces" [15]
    have f4 : dFld "named" [15] (pur (.fz x)) S = .ok .non S := fl "named" [15]
    simp -implicitDefEqProofs [g_Give_told, -x_fld, b, f1, f4, nt]
    rfl
  | split p q =>
    show f_Split_told [x] S = _
    rw [c_Split_told]
    have f1 : dFld "many" [16] (pur (.fz x)) S = .ok (.int p) S := fl "many" [16]
    have f4 : dFld "of" [16] (pur (.fz x)) S = .ok (.int q) S := fl "of" [16]
    simp -implicitDefEqProofs [g_Split_told, -x_fld, b, f1, f4]
    rfl
  | part ot sh wh =>
    show f_Parting_told [x] S = _
    rw [c_Parting_told]
    have f1 : dFld "other" [17] (pur (.fz x)) S = .ok (.str ot) S := fl "other" [17]
    have f2 : dFld "share" [17] (pur (.fz x)) S = .ok (.int sh) S := fl "share" [17]
    have f3 : dFld "whole" [17] (pur (.fz x)) S = .ok (.int wh) S := fl "whole" [17]
    simp -implicitDefEqProofs [g_Parting_told, -x_fld, b, f1, f2, f3]
    rfl
end
noncomputable abbrev kyT (e : En) : List Int := [e.d, e.n]
theorem abc_lt : ∀ c ∈ abc.cps.toList, c < 1114112 := by decide +kernel
theorem strOk_w {w : Str} (h : IsW w) : PyData.strOk w = true := by
  unfold PyData.strOk
  rw [Array.all_eq_true]
  intro i hi
  exact decide_eq_true (abc_lt _ (h.al _ (by rw [Array.mem_toList_iff]; exact Array.getElem_mem hi)))
end G
set_option Elab.async false
set_option linter.all false
set_option maxRecDepth 100000
set_option maxHeartbeats 4000000
set_option exponentiation.threshold 100000
namespace G
open PySem L2 Mir
variable {S : Store}
theorem forO_to {σ : Type} {body : D → σ → M (Out σ)} {d : D} {r : List D} {s s' : σ} {S S' : Store} (h : body d s S = .ok (.nx s') S') : forO body (d :: r) s S = forO body r s' S' := by
  show bindR (body d s S) (onO (forO body r)) = _
  rw [h]
  rfl
theorem forO_rt {σ : Type} {body : D → σ → M (Out σ)} {d : D} {r : List D} {s : σ} {w : Wv} {S S' : Store} (h : body d s S = .ok (.rt w) S') : forO body (d :: r) s S = .ok (.rt w) S' := by
  show bindR (body d s S) (onO (forO body r)) = _
  rw [h]
  rfl
theorem rngD_eq (n : Nat) : rngD 0 n = (List.range' 0 n).map fun i => D.int (i : Nat) := by
  unfold rngD
  rw [← List.range_eq_range']
  simp
end G
set_option Elab.async false
set_option linter.all false
set_option maxRecDepth 100000
set_option maxHeartbeats 4000000
set_option exponentiation.threshold 100000
namespace G
open PySem L2 Mir
variable {S : Store}
theorem rngE (a b c : Int) : f_check_range [.int a, .int b, .int c] S = if b ≤ a ∧ a ≤ c then .ok (.fz .non) S else .ex (2, none) S := by
  by_cases h : b ≤ a ∧ a ≤ c
  · rw [if_pos h]
    exact rng_ok h.1 h.2
  · rw [if_neg h, c_check_range]
    by_cases h1 : b ≤ a
    · have q1 : decide (b ≤ a) = true := decide_eq_true h1
      have q2 : decide (a ≤ c) = false := decide_eq_false fun z => h ⟨h1, z⟩
      simp -implicitDefEqProofs [g_check_range, q1, q2]
    · have q1 : decide (b ≤ a) = false := decide_eq_false h1
      simp -implicitDefEqProofs [g_check_range, q1]
noncomputable abbrev M6 : Int := 1000000
noncomputable abbrev M9 : Int := 1000000000
noncomputable def Rg (a b c : Int) : Prop := b ≤ a ∧ a ≤ c
noncomputable instance (a b c : Int) : Decidable (Rg a b c) := inferInstanceAs (Decidable (_ ∧ _))
theorem rngR (a b c : Int) : f_check_range [.int a, .int b, .int c] S = if Rg a b c then .ok (.fz .non) S else .ex (2, none) S := rngE a b c
noncomputable def EntOk (d n : Int) (wb : Bool) : Prop := (Rg d 0 1000000 ∧ Rg n 0 1000000) ∧ wb = true
noncomputable instance (d n : Int) (wb : Bool) : Decidable (EntOk d n wb) := inferInstanceAs (Decidable (_ ∧ _))
section
variable {d n p pr f : Int} {w : Str} {wb : Bool}
noncomputable abbrev nmD (q : Int × Int) : D := .tup [.int q.1, .int q.2]
noncomputable def NmIn (prs : List (Int × Int)) : Prop := ∀ q ∈ prs, Rg q.1 0 1000000 ∧ Rg q.2 1 1000000000
noncomputable def NmOk (prs : List (Int × Int)) (p : Int) : Prop := NmIn prs ∧ (setU (prs.map (·.1))).length = prs.length ∧ (prs.map (·.2)).sum = p
theorem nm_in_go : ∀ prs : List (Int × Int), NmIn prs → forD g_checked_named_l1 (prs.map nmD) () S = .ok () S
  | [], _ => rfl
  | q :: r, h => by
    have hq := h q List.mem_cons_self
    have r1 := rngR (S := S) q.1 0 1000000
    have r2 := rngR (S := S) q.2 1 1000000000
    rw [if_pos hq.1] at r1
    rw [if_pos hq.2] at r2
    rw [List.map_cons]
    refine (forD_cons (s' := ()) ?_).trans (nm_in_go r fun x hx => h x (List.mem_cons_of_mem _ hx))
    simp -implicitDefEqProofs [g_checked_named_l1, r1, r2]
theorem lenset_o (ns : List Int) (h : ns.length < 4000) : opLenSet (.ow (.lst (ns.map D.int))) S = .ok (.fz (.int ((setU ns).length : Nat))) S := by
  have e : setLO S (.ow (.lst (ns.map D.int))) = some ns := by
    show (match intsD (ns.map D.int) with
      | some ns => if ns.length < 4000 then some ns else none
      | none => none) = _
    rw [s_ints]
    dsimp only
    rw [if_pos h]
  unfold opLenSet
  rw [e]
end
end G
set_option Elab.async false
set_option linter.all false
set_option maxRecDepth 100000
set_option maxHeartbeats 4000000
set_option exponentiation.threshold 100000
namespace G
open PySem L2 Mir
variable {S : Store}
noncomputable abbrev Nm := Option (List (Int × Int))
structure En2 where
  e : En
  nm : Nm
noncomputable def En2.told (x : En2) : D := match x.nm with
  | none => x.e.told
  | some prs => match x.e.k with
    | .sell p pr f => .tup [.str "sell", .int x.e.d, .int x.e.n, .str x.e.w, .int p, .int pr, .int f, .tup (prs.map nmD)]
    | .give p => .tup [.str "give", .int x.e.d, .int x.e.n, .str x.e.w, .int p, .tup (prs.map nmD)]
    | _ => x.e.told
noncomputable def En2.fs (x : En2) : List (Str × D) := match x.nm with
  | none => x.e.fs
  | some prs => match x.e.k with
    | .sell p pr f => [("day", .int x.e.d), ("number", .int x.e.n), ("ware", .str x.e.w), ("pieces", .int p), ("price", .int pr), ("fee", .int f), ("named", .lst (prs.map nmD)), ("proceeds", .int (p * pr - f))]
    | .give p => [("day", .int x.e.d), ("number", .int x.e.n), ("ware", .str x.e.w), ("pieces", .int p), ("named", .lst (prs.map nmD))]
    | _ => x.e.fs
structure En2.Ok (x : En2) : Prop where
  e : x.e.Ok
  nm : match x.nm with
    | none => True
    | some prs => prs.length ≤ 100 ∧ match x.e.k with
      | .sell p _ _ => NmOk prs p
      | .give p => NmOk prs p
      | _ => False
noncomputable def IsE2 (S : Store) (d : D) (x : En2) : Prop := insW S (.fz d) = some (x.e.cls, x.fs)
section
variable {d : D} {x : En2}
theorem IsE2.fld (h : IsE2 S d x) (f : Str) (cs : List Nat) : dFld f cs (pur (.fz d)) S = fldO f cs S (some (x.e.cls, x.fs)) := by
  rw [x_fld]
  show fldO f cs S (insW S (.fz d)) = _
  rw [h]
theorem IsE2.meth (h : IsE2 S d x) (m : Str) (disp : Nat → Option Fn) (ml : M (List D)) : dMeth m disp (pur d) ml S = methD (dispO m disp (some (x.e.cls, x.fs))) ml d S := by
  rw [x_meth]
  show methD (dispO m disp (insW S (.fz d))) ml d S = _
  rw [h]
theorem num2 (h : IsE2 S d x) : dFld "number" [12, 13, 14, 15, 16, 17] (pur (.fz d)) S = .ok (.int x.e.n) S := by
  rw [h.fld]
  obtain ⟨⟨d, n, w, k⟩, nm⟩ := x
  cases nm <;> cases k <;> rfl
theorem day2 (h : IsE2 S d x) : dFld "day" [12, 13, 14, 15, 16, 17] (pur (.fz d)) S = .ok (.int x.e.d) S := by
  rw [h.fld]
  obtain ⟨⟨d, n, w, k⟩, nm⟩ := x
  cases nm <;> cases k <;> rfl
theorem Entry_told2 (h : IsE2 S d x) : f_Entry_told [d] S = .ok (.fz (.tup [.str x.e.word, .int x.e.d, .int x.e.n, .str x.e.w])) S := by
  have m := h.meth "word" (tabF [(11, f_Entry_word), (12, f_Buy_word), (13, f_Sell_word), (14, f_Gift_word), (15, f_Give_word), (16, f_Split_word), (17, f_Parting_word)]) (pur [])
  have f1 := h.fld "day" [11, 12, 13, 14, 15, 16, 17]
  have f2 := h.fld "number" [11, 12, 13, 14, 15, 16, 17]
  have f3 := h.fld "ware" [11, 12, 13, 14, 15, 16, 17]
  have mw : dMeth "word" (tabF [(11, f_Entry_word), (12, f_Buy_word), (13, f_Sell_word), (14, f_Gift_word), (15, f_Give_word), (16, f_Split_word), (17, f_Parting_word)]) (pur d) (pur []) S = .ok (.fz (.str x.e.word)) S := by
    rw [m]
    obtain ⟨⟨_, n, w, k⟩, nm⟩ := x
    cases nm <;> cases k <;> first | exact (c_Buy_word d S).trans rfl | exact (c_Sell_word d S).trans rfl | exact (c_Gift_word d S).trans rfl | exact (c_Give_word d S).trans rfl | exact (c_Split_word d S).trans rfl | exact (c_Parting_word d S).trans rfl
  have g1 : fldO "day" [11, 12, 13, 14, 15, 16, 17] S (some (x.e.cls, x.fs)) = .ok (.int x.e.d) S := by
    obtain ⟨⟨_, n, w, k⟩, nm⟩ := x
    cases nm <;> cases k <;> rfl
  have g2 : fldO "number" [11, 12, 13, 14, 15, 16, 17] S (some (x.e.cls, x.fs)) = .ok (.int x.e.n) S := by
    obtain ⟨⟨_, n, w, k⟩, nm⟩ := x
    cases nm <;> cases k <;> rfl
  have g3 : fldO "ware" [11, 12, 13, 14, 15, 16, 17] S (some (x.e.cls, x.fs)) = .ok (.str x.e.w) S := by
    obtain ⟨⟨_, n, w, k⟩, nm⟩ := x
    cases nm <;> cases k <;> rfl
  rw [g1] at f1
  rw [g2] at f2
  rw [g3] at f3
  rw [c_Entry_told]
  simp -implicitDefEqProofs [g_Entry_told, -x_fld, -x_meth, mw, f1, f2, f3]
theorem named_told2 (prs : List (Int × Int)) : f_named_told [.lst (prs.map nmD)] S = .ok (.fz (.tup (prs.map nmD))) S := by
  rw [c_named_told]
  rfl
theorem told2_eq (h : IsE2 S d x) : dMeth "told" (tabF [(12, f_Buy_told), (13, f_Sell_told), (14, f_Gift_told), (15, f_Give_told), (16, f_Split_told), (17, f_Parting_told)]) (pur d) (pur []) S = .ok (.fz x.told) S := by
  have b := Entry_told2 h
  have m := h.meth "told" (tabF [(12, f_Buy_told), (13, f_Sell_told), (14, f_Gift_told), (15, f_Give_told), (16, f_Split_told), (17, f_Parting_told)]) (pur [])
  have fl := h.fld
  obtain ⟨e, nm⟩ := x
  cases nm with
  | none => exact etold_eq (x := d) (e := e) h
  | some prs =>
    have nt := named_told2 (S := S) prs
    obtain ⟨dd, n, w, k⟩ := e
    rw [m]
    cases k with
    | buy p pr f => exact (m.symm.trans (etold_eq (x := d) (e := ⟨dd, n, w, .buy p pr f⟩) h))
    | gift p c s => exact (m.symm.trans (etold_eq (x := d) (e := ⟨dd, n, w, .gift p c s⟩) h))
    | split p o => exact (m.symm.trans (etold_eq (x := d) (e := ⟨dd, n, w, .split p o⟩) h))
    | part ot sh wh => exact (m.symm.trans (etold_eq (x := d) (e := ⟨dd, n, w, .part ot sh wh⟩) h))
    | sell p pr f =>
      show f_Sell_told [d] S = _
      rw [c_Sell_told]
      have f1 : dFld "pieces" [13] (pur (.fz d)) S = .ok (.int p) S := fl "pieces" [13]
      have f2 : dFld "price" [13] (pur (.fz d)) S = .ok (.int pr) S := fl "price" [13]
      have f3 : dFld "fee" [13] (pur (.fz d)) S = .ok (.int f) S := fl "fee" [13]
      have f4 : dFld "named" [13] (pur (.fz d)) S = .ok (.lst (prs.map nmD)) S := fl "named" [13]
      simp -implicitDefEqProofs [g_Sell_told, -x_fld, b, f1, f2, f3, f4, nt]
      rfl
    | give p =>
      show f_Give_told [d] S = _
      rw [c_Give_told]
      have f1 : dFld "pieces" [15] (pur (.fz d)) S = .ok (.int p) S := fl "pieces" [15]
      have f4 : dFld "named" [15] (pur (.fz d)) S = .ok (.lst (prs.map nmD)) S := fl "named" [15]
      simp -implicitDefEqProofs [g_Give_told, -x_fld, b, f1, f4, nt]
      rfl
end
end G
set_option Elab.async false
set_option linter.all false
set_option maxRecDepth 100000
set_option maxHeartbeats 4000000
set_option exponentiation.threshold 100000
namespace G
open PySem L2 Mir
variable {S : Store}
structure Nmd (p base stp : Int) (k : Nat) (left : Int) (prs : List (Int × Int)) : Prop where
  len : prs.length = k
  lo : ∀ q ∈ prs, base ≤ q.1
  hi : ∀ q ∈ prs, q.1 < base + k * stp
  pc : ∀ q ∈ prs, 1 ≤ q.2 ∧ q.2 ≤ p
  inc : (prs.map (·.1)).Pairwise (· < ·)
  sum : (prs.map (·.2)).sum + left = p
theorem Nmd.snoc {p base stp : Int} {k : Nat} {left some_ : Int} {prs : List (Int × Int)} (h : Nmd p base stp k left prs) (hs : 1 ≤ stp) (s0 : 1 ≤ some_) (s1 : some_ ≤ left) : Nmd p base stp (k + 1) (left - some_) (prs ++ [(base + k * stp, some_)]) := by
  have nn : 0 ≤ (prs.map (·.2)).sum := by
    have : ∀ l : List Int, (∀ x ∈ l, 0 ≤ x) → 0 ≤ l.sum := by
      intro l
      induction l with
      | nil => exact fun _ => Int.le_refl _
      | cons x r ih =>
        intro h
        have := ih fun y hy => h y (List.mem_cons_of_mem _ hy)
        have := h x List.mem_cons_self
        rw [List.sum_cons]
        omega
    refine this _ fun x hx => ?_
    obtain ⟨q, hq, rfl⟩ := List.mem_map.mp hx
    have := (h.pc q hq).1
    omega
  have sm := h.sum
  have ks : (((k + 1 : Nat)) : Int) * stp = k * stp + stp := by push_cast; rw [Int.add_mul, Int.one_mul]
  have k0 : (0 : Int) ≤ (k : Int) * stp := Int.mul_nonneg (by omega) (by omega)
  refine ⟨by rw [List.length_append, h.len]; rfl, fun q hq => ?_, fun q hq => ?_, fun q hq => ?_, ?_, ?_⟩
  · rcases List.mem_append.mp hq with m | m
    · exact h.lo q m
    · rw [List.mem_singleton.mp m]; show base ≤ base + k * stp; omega
  · rw [ks]
    rcases List.mem_append.mp hq with m | m
    · have := h.hi q m; omega
    · rw [List.mem_singleton.mp m]; show base + k * stp < _; omega
  · rcases List.mem_append.mp hq with m | m
    · exact h.pc q m
    · rw [List.mem_singleton.mp m]; exact ⟨s0, by show some_ ≤ p; omega⟩
  · rw [List.map_append, List.pairwise_append]
    refine ⟨h.inc, List.pairwise_singleton _ _, fun a ha b hb => ?_⟩
    obtain ⟨q, hq, rfl⟩ := List.mem_map.mp ha
    rw [List.mem_singleton.mp hb]
    exact h.hi q hq
  · rw [List.map_append, List.sum_append]
    show _ + (some_ + 0) + (left - some_) = p
    omega
theorem named_step {xs : List D} {c : Int} (hx : ∀ (d : D) (S : Store), opAdd (.fz (.tup (cutD xs none (some (-1))))) (.fz (.tup [d])) S = .ok (.fz (.tup (cutD xs none (some (-1)) ++ [d]))) S) (n k : Nat) (hn : c / 3 % 5 = (n : Int)) (hk : k ≤ n) (base stp : Int) (hb : base = c % 100000) (hst : stp = 1 + c / 11 % 9) {left : Int} (l0 : 1 ≤ left) {prs : List (Int × Int)} (pl : prs.length ≤ 100) :
    ∃ sm, 1 ≤ sm ∧ sm ≤ left ∧ (k = n → sm = left) ∧ ∀ S : Store, g_with_named_k10_l1 (.tup xs) (.int c) (.int (k : Nat)) (.fz (.int left), .ow (.lst (prs.map nmD))) S =
      if left - sm = 0 then .ok (.rt (.fz (.tup (cutD xs none (some (-1)) ++ [.tup ((prs ++ [(base + k * stp, sm)]).map nmD)])))) S else .ok (.nx (.fz (.int (left - sm)), .ow (.lst ((prs ++ [(base + k * stp, sm)]).map nmD)))) S := by
  have n1 := Int.emod_lt_of_pos (c / 3) (show (0 : Int) < 5 by decide)
  have st0 := Int.emod_nonneg (c / 11) (show (9 : Int) ≠ 0 by decide)
  have st1 := Int.emod_lt_of_pos (c / 11) (show (0 : Int) < 9 by decide)
  have i0 := Int.emod_nonneg (c / (7 * (k : Int) + 5)) (show left ≠ 0 by omega)
  have i1 := Int.emod_lt_of_pos (c / (7 * (k : Int) + 5)) (show 0 < left by omega)
  have m7 : mulOk 7 (k : Int) = true := mulOk_l (by decide) (by decide)
  have dv : divOk c (7 * (k : Int) + 5) = true := divOk_s (by omega) (by omega)
  have ml : modOk (c / (7 * (k : Int) + 5)) left = true := modOk_p (by omega)
  have d3 : divOk c 3 = true := divOk_s (by decide) (by decide)
  have o5 : modOk (c / 3) 5 = true := modOk_p (by decide)
  have d11 : divOk c 11 = true := divOk_s (by decide) (by decide)
  have o9 : modOk (c / 11) 9 = true := modOk_p (by decide)
  have p5 : ∀ S : Store, opPow (.fz (.int 10)) (.fz (.int 5)) S = .ok (.fz (.int 100000)) S := fun _ => rfl
  have o10 : modOk c 100000 = true := modOk_p (by decide)
  have mk : mulOk (k : Int) (1 + c / 11 % 9) = true := mulOk_r (by omega) (by omega)
  have sz : szOk ((prs.map nmD).length + 1) = true := szOk_le (by rw [List.length_map]; omega)
  have s2 : szOk 2 = true := rfl
  have s1 : szOk 1 = true := rfl
  have ng : ∀ S : Store, opNeg (.fz (.int 1)) S = .ok (.fz (.int (-1))) S := fun _ => rfl
  have bt : ∀ (ys : List D) (S : Store), bTuple [.ow (.lst ys)] S = .ok (.fz (.tup ys)) S := fun _ _ => rfl
  obtain ⟨sm, hsm⟩ : ∃ sm, sm = if (k : Int) = (n : Int) then left else 1 + c / (7 * (k : Int) + 5) % left := ⟨_, rfl⟩
  have b0 : 1 ≤ sm := by rw [hsm]; split <;> omega
  have b1 : sm ≤ left := by rw [hsm]; split <;> omega
  refine ⟨sm, b0, b1, fun e => by rw [hsm, if_pos (by omega)], fun S => ?_⟩
  have g0 : left > 0 := by omega
  rw [List.map_append, List.map_singleton, hb, hst]
  by_cases e : (k : Int) = (n : Int)
  · rw [if_pos e] at hsm
    obtain rfl : k = n := by omega
    have z : sm - sm = 0 := by omega
    subst hsm
    rw [if_pos z]
    simp -implicitDefEqProofs only [g_with_named_k10_l1, x_bnd, x_bin, x_pur, bindR_ok, s_mul, m7, if_true, s_add, s_div, dv, x_rd, s_mod, ml, x_ift, d3, o5, hn, s_eqI, decide_true, z, x_up, x_rdD, s_gt, g0, decide_true, x_mut, x_tyW1, x_cons, x_tup, x_fz, p5, o10, d11, o9, mk, s_frz1, List.length_cons, List.length_nil, Nat.zero_add, Nat.reduceAdd, s2, x_mutW, s_app, sz, x_mutR1, s_sub, x_bnO, x_sl, x_part, ng, s_prtW, s_slT, x_consB, x_rdo, bt, s1, hx, x_onO]
    rfl
  · rw [if_neg e] at hsm
    by_cases z : left - sm = 0
    · rw [if_pos z]
      simp -implicitDefEqProofs only [g_with_named_k10_l1, x_bnd, x_bin, x_pur, bindR_ok, s_mul, m7, if_true, s_add, s_div, dv, x_rd, s_mod, ml, x_ift, d3, o5, hn, s_eqI, e, decide_false, Bool.false_eq_true, if_false, ← hsm, z, x_up, x_rdD, s_gt, g0, decide_true, x_mut, x_tyW1, x_cons, x_tup, x_fz, p5, o10, d11, o9, mk, s_frz1, List.length_cons, List.length_nil, Nat.zero_add, Nat.reduceAdd, s2, x_mutW, s_app, sz, x_mutR1, s_sub, x_bnO, x_sl, x_part, ng, s_prtW, s_slT, x_consB, x_rdo, bt, s1, hx, x_onO]
      rfl
    · rw [if_neg z]
      simp -implicitDefEqProofs only [g_with_named_k10_l1, x_bnd, x_bin, x_pur, bindR_ok, s_mul, m7, if_true, s_add, s_div, dv, x_rd, s_mod, ml, x_ift, d3, o5, hn, s_eqI, e, decide_false, Bool.false_eq_true, if_false, ← hsm, z, x_up, x_rdD, s_gt, g0, decide_true, x_mut, x_tyW1, x_cons, x_tup, x_fz, p5, o10, d11, o9, mk, s_frz1, List.length_cons, List.length_nil, Nat.zero_add, Nat.reduceAdd, s2, x_mutW, s_app, sz, x_mutR1, s_sub, x_bnO, x_sl, x_part, ng, s_prtW, s_slT, x_consB, x_rdo, bt, s1, hx, x_onO]
theorem named_loop {xs : List D} {c p : Int} (hx : ∀ (d : D) (S : Store), opAdd (.fz (.tup (cutD xs none (some (-1))))) (.fz (.tup [d])) S = .ok (.fz (.tup (cutD xs none (some (-1)) ++ [d]))) S) (n : Nat) (hn : c / 3 % 5 = (n : Int)) (base stp : Int) (hb : base = c % 100000) (hst : stp = 1 + c / 11 % 9) : ∀ (m k : Nat) (left : Int) (prs : List (Int × Int)), k + m = n → 1 ≤ left → Nmd p base stp k left prs →
    ∃ prs', (∃ k', k' ≤ n + 1 ∧ Nmd p base stp k' 0 prs') ∧ ∀ S : Store, forO (g_with_named_k10_l1 (.tup xs) (.int c)) ((List.range' k (m + 1)).map fun i => D.int (i : Nat)) (.fz (.int left), .ow (.lst (prs.map nmD))) S = .ok (.rt (.fz (.tup (cutD xs none (some (-1)) ++ [.tup (prs'.map nmD)])))) S := by
  have st0 := Int.emod_nonneg (c / 11) (show (9 : Int) ≠ 0 by decide)
  have n1 := Int.emod_lt_of_pos (c / 3) (show (0 : Int) < 5 by decide)
  intro m
  induction m with
  | zero =>
    intro k left prs hk l0 I
    obtain ⟨sm, b0, b1, b2, f⟩ := named_step hx n k hn (by omega) base stp hb hst l0 (prs := prs) (by rw [I.len]; omega)
    have z : left - sm = 0 := by rw [b2 (by omega)]; omega
    have I2 := I.snoc (by omega) b0 b1
    rw [z] at I2
    refine ⟨_, ⟨k + 1, by omega, I2⟩, fun S => ?_⟩
    rw [List.range'_succ, List.map_cons]
    refine forO_rt ?_
    rw [f S, if_pos z]
  | succ m ih =>
    intro k left prs hk l0 I
    obtain ⟨sm, b0, b1, b2, f⟩ := named_step hx n k hn (by omega) base stp hb hst l0 (prs := prs) (by rw [I.len]; omega)
    have I2 := I.snoc (by omega) b0 b1
    by_cases z : left - sm = 0
    · rw [z] at I2
      refine ⟨_, ⟨k + 1, by omega, I2⟩, fun S => ?_⟩
      rw [List.range'_succ, List.map_cons]
      refine forO_rt ?_
      rw [f S, if_pos z]
    · obtain ⟨prs', hp, g⟩ := ih (k + 1) (left - sm) _ (by omega) (by omega) I2
      refine ⟨prs', hp, fun S => ?_⟩
      rw [List.range'_succ, List.map_cons]
      refine (forO_to ?_).trans (g S)
      rw [f S, if_neg z]
theorem nmd_ok {p base stp : Int} {k : Nat} {prs : List (Int × Int)} (h : Nmd p base stp k 0 prs) (p1 : p ≤ 1000000000) (k5 : k ≤ 5) (b0 : 0 ≤ base) (b1 : base < 100000) (s1 : stp ≤ 9) (s0 : 1 ≤ stp) : prs.length ≤ 100 ∧ NmOk prs p := by
  refine ⟨by rw [h.len]; omega, fun q hq => ⟨⟨?_, ?_⟩, ?_, ?_⟩, ?_, ?_⟩
  · have := h.lo q hq; omega
  · have := h.hi q hq
    have : (k : Int) * stp ≤ 5 * 9 := Int.mul_le_mul (by omega) s1 (by omega) (by decide)
    omega
  · exact (h.pc q hq).1
  · have := (h.pc q hq).2; omega
  · have nd : (prs.map (·.1)).Nodup := h.inc.imp fun z => by omega
    rw [setU_len_nodup nd, List.length_map]
  · have := h.sum; omega
theorem with_named_eq {e : En} (ok : e.Ok) (c : Int) : ∃ nm, (⟨e, nm⟩ : En2).Ok ∧ ∀ S : Store, f_with_named_k10 [e.told, .int c] S = .ok (.fz (⟨e, nm⟩ : En2).told) S := by
  have d3 : divOk c 3 = true := divOk_s (by decide) (by decide)
  have o3 : modOk c 3 = true := modOk_p (by decide)
  have o5 : modOk (c / 3) 5 = true := modOk_p (by decide)
  have s2 : szOk 2 = true := rfl
  have s0 : szOk 0 = true := rfl
  have st0 := Int.emod_nonneg (c / 11) (show (9 : Int) ≠ 0 by decide)
  have st1 := Int.emod_lt_of_pos (c / 11) (show (0 : Int) < 9 by decide)
  have n0 := Int.emod_nonneg (c / 3) (show (5 : Int) ≠ 0 by decide)
  have n1 := Int.emod_lt_of_pos (c / 3) (show (0 : Int) < 5 by decide)
  have b0 := Int.emod_nonneg c (show (100000 : Int) ≠ 0 by decide)
  have b1 := Int.emod_lt_of_pos c (show (0 : Int) < 100000 by decide)
  obtain ⟨n, hn⟩ : ∃ n : Nat, c / 3 % 5 = (n : Int) := ⟨_, (Int.toNat_of_nonneg n0).symm⟩
  have none_ok : (⟨e, none⟩ : En2).Ok := ⟨ok, trivial⟩
  -- a kind without names, or none wanted
  have plain : ∀ xs : List D, e.told = .tup xs → (∀ S : Store, (dOr (dBin (notM opIn) (opSub2 (Wv.fz (.tup xs)) (Wv.fz (D.int 0))) (dUp (dTup (pur ((D.str "sell") :: [(D.str "give")]))))) (dBin opEq (opMod (Wv.fz (.int c)) (Wv.fz (D.int 3))) (pur (Wv.fz (D.int 0))))) S = .ok true S) → ∀ S : Store, f_with_named_k10 [e.told, .int c] S = .ok (.fz (⟨e, none⟩ : En2).told) S := fun xs ex h S => by
    have t : (⟨e, none⟩ : En2).told = .tup xs := ex
    rw [t, ex, c_with_named_k10]
    have h := h S
    simp -implicitDefEqProofs only [g_with_named_k10, x_ift, h, bindR_ok, if_true, x_rd]
  have named : ∀ (xs : List D) (p : Int), 1 ≤ p → p ≤ 1000000000 → ¬ c % 3 = 0 → (∀ S : Store, opIn (.fz (.str e.word)) (.fz (.tup [.str "sell", .str "give"])) S = .ok true S) → (∀ S : Store, opSub2 (.fz (.tup xs)) (.fz (.int 0)) S = .ok (.fz (.str e.word)) S) → (∀ S : Store, opSub2 (.fz (.tup xs)) (.fz (.int 4)) S = .ok (.fz (.int p)) S) → (∀ (d : D) (S : Store), opAdd (.fz (.tup (cutD xs none (some (-1))))) (.fz (.tup [d])) S = .ok (.fz (.tup (cutD xs none (some (-1)) ++ [d]))) S) →
      ∃ prs, (prs.length ≤ 100 ∧ NmOk prs p) ∧ ∀ S : Store, f_with_named_k10 [.tup xs, .int c] S = .ok (.fz (.tup (cutD xs none (some (-1)) ++ [.tup (prs.map nmD)]))) S := fun xs p p0 p1 c3 hin h0 h4 hx => by
    obtain ⟨prs, ⟨k', hk', I⟩, f⟩ := named_loop (p := p) hx n hn (c % 100000) (1 + c / 11 % 9) rfl rfl n 0 p [] (by omega) p0 ⟨rfl, fun _ z => (nomatch z), fun _ z => (nomatch z), fun _ z => (nomatch z), List.Pairwise.nil, by simp⟩
    refine ⟨prs, nmd_ok I p1 (by omega) b0 b1 (by omega) (by omega), fun S => ?_⟩
    have f := f S
    have rg : rng1 [.int (1 + (n : Int))] S = .ok ((List.range' 0 (n + 1)).map fun i => D.int (i : Nat)) S := by
      rw [← rngD_eq, show (1 + (n : Int)) = ((n + 1 : Nat) : Int) by omega]
      unfold rng1
      dsimp only
      rw [if_pos (by unfold rngOk; rw [decide_eq_true (by omega), decide_eq_true (by omega)]; rfl)]
      rfl
    have hin := hin S
    have h0 := h0 S
    have h4 := h4 S
    have f : forO (g_with_named_k10_l1 (.tup xs) (.int c)) ((List.range' 0 (n + 1)).map fun i => D.int (i : Nat)) (.fz (.int p), .ow (.lst [])) S = _ := f
    rw [c_with_named_k10]
    simp -implicitDefEqProofs only [g_with_named_k10, x_ift, x_or, x_bin, h0, x_up, x_tup, x_pur, bindR_ok, List.length_cons, List.length_nil, Nat.zero_add, Nat.reduceAdd, s2, if_true, s_notM, hin, Bool.not_true, Bool.false_eq_true, if_false, s_mod, o3, s_eqI, c3, decide_false, x_bnd, h4, x_lst, s0, x_bnT, x_cons, x_fz, s_div, d3, o5, hn, s_add, s_frz1, rg, f]
    rfl
  have cd3 : ∀ S : Store, opMod (.fz (.int c)) (.fz (.int 3)) S = .ok (.fz (.int (c % 3))) S := fun S => by rw [s_mod, o3]; rfl
  obtain ⟨d, nn, w, k⟩ := e
  have other : ∀ xs : List D, (⟨d, nn, w, k⟩ : En).told = .tup xs → (∀ S : Store, opSub2 (.fz (.tup xs)) (.fz (.int 0)) S = .ok (.fz (.str (⟨d, nn, w, k⟩ : En).word)) S) → (∀ S : Store, opIn (.fz (.str (⟨d, nn, w, k⟩ : En).word)) (.fz (.tup [.str "sell", .str "give"])) S = .ok false S) → ∃ nm, (⟨⟨d, nn, w, k⟩, nm⟩ : En2).Ok ∧ ∀ S : Store, f_with_named_k10 [(⟨d, nn, w, k⟩ : En).told, .int c] S = .ok (.fz (⟨⟨d, nn, w, k⟩, nm⟩ : En2).told) S := fun xs ex h0 hin =>
    ⟨none, none_ok, plain xs ex fun S => by
      have h0 := h0 S
      have hin := hin S
      simp -implicitDefEqProofs only [x_or, x_bin, h0, x_up, x_tup, x_pur, bindR_ok, List.length_cons, List.length_nil, Nat.zero_add, Nat.reduceAdd, s2, if_true, s_notM, hin, Bool.not_false]⟩
  have nonamed : ∀ xs : List D, (⟨d, nn, w, k⟩ : En).told = .tup xs → c % 3 = 0 → (∀ S : Store, opSub2 (.fz (.tup xs)) (.fz (.int 0)) S = .ok (.fz (.str (⟨d, nn, w, k⟩ : En).word)) S) → (∀ S : Store, opIn (.fz (.str (⟨d, nn, w, k⟩ : En).word)) (.fz (.tup [.str "sell", .str "give"])) S = .ok true S) → ∃ nm, (⟨⟨d, nn, w, k⟩, nm⟩ : En2).Ok ∧ ∀ S : Store, f_with_named_k10 [(⟨d, nn, w, k⟩ : En).told, .int c] S = .ok (.fz (⟨⟨d, nn, w, k⟩, nm⟩ : En2).told) S := fun xs ex c3 h0 hin =>
    ⟨none, none_ok, plain xs ex fun S => by
      have h0 := h0 S
      have hin := hin S
      have cd := cd3 S
      rw [c3] at cd
      simp -implicitDefEqProofs only [x_or, x_bin, h0, x_up, x_tup, x_pur, bindR_ok, List.length_cons, List.length_nil, Nat.zero_add, Nat.reduceAdd, s2, if_true, s_notM, hin, Bool.not_true, Bool.false_eq_true, if_false, cd, s_eqI, decide_true]⟩
  cases k with
  | buy p pr f => exact other _ rfl (fun _ => rfl) (fun _ => rfl)
  | gift p c s => exact other _ rfl (fun _ => rfl) (fun _ => rfl)
  | split m o => exact other _ rfl (fun _ => rfl) (fun _ => rfl)
  | part ot sh wh => exact other _ rfl (fun _ => rfl) (fun _ => rfl)
  | sell p pr f =>
    by_cases c3 : c % 3 = 0
    · exact nonamed _ rfl c3 (fun _ => rfl) (fun _ => rfl)
    · obtain ⟨⟨p0, p1⟩, _⟩ := ok.k
      obtain ⟨prs, no, h⟩ := named [.str "sell", .int d, .int nn, .str w, .int p, .int pr, .int f, .non] p p0 p1 c3 (fun _ => rfl) (fun _ => rfl) (fun _ => rfl) (fun _ _ => rfl)
      exact ⟨some prs, ⟨ok, no⟩, h⟩
  | give p =>
    by_cases c3 : c % 3 = 0
    · exact nonamed _ rfl c3 (fun _ => rfl) (fun _ => rfl)
    · obtain ⟨p0, p1⟩ := ok.k
      obtain ⟨prs, no, h⟩ := named [.str "give", .int d, .int nn, .str w, .int p, .non] p p0 p1 c3 (fun _ => rfl) (fun _ => rfl) (fun _ => rfl) (fun _ _ => rfl)
      exact ⟨some prs, ⟨ok, no⟩, h⟩
end G
set_option Elab.async false
set_option linter.all false
set_option maxRecDepth 100000
set_option maxHeartbeats 4000000
set_option exponentiation.threshold 100000
namespace G
open PySem L2 Mir
variable {S : Store}
noncomputable def sI (i : Int) : Str := toString i
noncomputable def Sm (i : Int) : Prop := i.natAbs ≤ 1000000000000000000
noncomputable def restS (e : En) : List Str := match e.k with
  | .buy p pr f => [sI p, sI pr, sI f]
  | .sell p pr f => [sI p, sI pr, sI f]
  | .gift p c s => [sI p, sI c, sI s]
  | .give p => [sI p]
  | .split m o => [sI m, sI o]
  | .part ot sh wh => [ot, sI sh, sI wh]
noncomputable def colon : Str := ":"
noncomputable def nmW (q : Int × Int) : Str := sI q.1 ++ colon ++ sI q.2
noncomputable def nmS : Nm → List Str
  | none => []
  | some prs => prs.map nmW
noncomputable def wordsX (x : En2) : List Str := [sI x.e.d, sI x.e.n, x.e.word, x.e.w] ++ restS x.e ++ nmS x.nm
noncomputable def SmD (d : D) (w : Str) : Prop := (∃ i, d = .int i ∧ Sm i ∧ w = sI i) ∨ (d = .str w)
section
variable {r : D} {kd w : Str} {d n : Int} {rest : List D} {rs : List Str}
end
end G
set_option Elab.async false
set_option linter.all false
set_option maxRecDepth 100000
set_option maxHeartbeats 4000000
set_option exponentiation.threshold 100000
namespace G
open PySem L2 Mir
variable {S : Store}
noncomputable def nmV : Nm → D
  | none => .non
  | some prs => .tup (prs.map nmD)
section
variable {r : D} {kd w : Str} {d n : Int} {rest : List D} {rs : List Str} {nm : Nm}
end
structure Parts (x : En2) (rest : List D) (rs : List Str) (b : Bool) : Prop where
  told : x.told = .tup (.str x.e.word :: .int x.e.d :: .int x.e.n :: .str x.e.w :: (rest ++ if b then [nmV x.nm] else []))
  word : ∀ S : Store, opIn (.fz (.str x.e.word)) (.fz (.tup [.str "sell", .str "give"])) S = .ok b S
  eqs : ∀ S : Store, opEq (.fz (.str x.e.word)) (.fz (.str "sell")) S = .ok (decide (x.e.word = "sell")) S
  b_eq : b = (decide (x.e.word = "sell") || decide (x.e.word = "give"))
  words : wordsX x = [sI x.e.d, sI x.e.n, x.e.word, x.e.w] ++ rs ++ (if b then nmS x.nm else [])
  len : rest.length = rs.length
  l10 : rest.length ≤ 3
  sm : ∀ (i : Nat) (d : D) (w : Str), rest[i]? = some d → rs[i]? = some w → SmD d w
  sd : Sm x.e.d
  sn : Sm x.e.n
  nm : ∀ prs, x.nm = some prs → prs.length ≤ 100 ∧ ∀ q ∈ prs, Sm q.1 ∧ Sm q.2
end G
set_option Elab.async false
set_option linter.all false
set_option maxRecDepth 100000
set_option maxHeartbeats 4000000
set_option exponentiation.threshold 100000
namespace G
open PySem L2 Mir
variable {S : Store}
noncomputable abbrev Pe2 := Nat × En2
noncomputable abbrev toPe (q : Pe2) : Pe := (q.1, q.2.e)
noncomputable abbrev kyX (x : En2) : List Int := [x.e.d, x.e.n]
noncomputable abbrev srtX (xs : List En2) : List En2 := xs.mergeSort fun a b => decide (kyX a ≤ kyX b)
end G
set_option Elab.async false
set_option linter.all false
set_option maxRecDepth 100000
set_option maxHeartbeats 4000000
set_option exponentiation.threshold 100000
namespace G
open PySem L2 Mir
variable {S : Store}
theorem res_nd60 : ∀ b : Fin 60, ((List.range 61).map fun k => (k * ((b : Nat) + 1)) % 61).Nodup := by decide +kernel
theorem res_ne60 {by_ : Int} (b0 : 1 ≤ by_) (b1 : by_ ≤ 60) {i j : Nat} (hij : i < j) (hj : j < 61) : ((i : Nat) : Int) * by_ % 61 ≠ ((j : Nat) : Int) * by_ % 61 := by
  intro e
  obtain ⟨b, rfl⟩ : ∃ b : Nat, by_ = (b : Int) + 1 := ⟨(by_ - 1).toNat, by omega⟩
  have nd := res_nd60 ⟨b, by omega⟩
  have e' : (i * (b + 1)) % 61 = (j * (b + 1)) % 61 := by
    have c1 : ((i : Nat) : Int) * ((b : Int) + 1) % 61 = ((i * (b + 1) % 61 : Nat) : Int) := by push_cast; rfl
    have c2 : ((j : Nat) : Int) * ((b : Int) + 1) % 61 = ((j * (b + 1) % 61 : Nat) : Int) := by push_cast; rfl
    rw [c1, c2] at e
    exact Int.ofNat.inj e
  rw [List.nodup_iff_pairwise_ne, List.pairwise_map] at nd
  have q := List.pairwise_iff_getElem.mp nd i j (by simp; omega) (by simp; omega) hij
  simp only [List.getElem_range] at q
  exact q e'
structure IA (low by_ : Int) (ws : List Str) (k : Nat) (xs : List En2) : Prop where
  len : xs.length = k
  ok : ∀ x ∈ xs, x.Ok
  num : ∀ i x, xs[i]? = some x → x.e.n = low + ((i + 1 : Nat) : Int) * by_ % 61
  w : ∀ x ∈ xs, EnW ws x.e
theorem IA.nd {low by_ : Int} {ws : List Str} (b0 : 1 ≤ by_) (b1 : by_ ≤ 60) {k : Nat} {xs : List En2} (h : IA low by_ ws k xs) (hk : k ≤ 60) : (xs.map fun x => x.e.n).Nodup := by
  rw [List.nodup_iff_pairwise_ne, List.pairwise_map]
  refine List.pairwise_iff_getElem.mpr fun i j hi hj hij e => ?_
  have h1 := h.num i _ (List.getElem?_eq_getElem hi)
  have h2 := h.num j _ (List.getElem?_eq_getElem hj)
  rw [h1, h2] at e
  exact res_ne60 b0 b1 (i := i + 1) (j := j + 1) (by omega) (by have := h.len; omega) (by omega)
theorem IA.snoc {low by_ : Int} {ws : List Str} {k : Nat} {xs : List En2} (I : IA low by_ ws k xs) {x : En2} (ok : x.Ok) (en : x.e.n = low + ((k + 1 : Nat) : Int) * by_ % 61) (ew : EnW ws x.e) : IA low by_ ws (k + 1) (xs ++ [x]) := by
  refine ⟨by rw [List.length_append, I.len]; rfl, fun y hy => ?_, fun i y hy => ?_, fun y hy => ?_⟩
  · rcases List.mem_append.mp hy with hy | hy
    · exact I.ok y hy
    · rw [List.mem_singleton.mp hy]; exact ok
  · by_cases hi : i < xs.length
    · rw [List.getElem?_append_left hi] at hy
      exact I.num i y hy
    · rw [List.getElem?_append_right (by omega)] at hy
      have ei : i - xs.length = 0 := by
        cases q : i - xs.length with
        | zero => rfl
        | succ m => rw [q] at hy; cases hy
      rw [ei] at hy
      cases hy
      rw [en, show i = k by have := I.len; omega]
  · rcases List.mem_append.mp hy with hy | hy
    · exact I.w y hy
    · rw [List.mem_singleton.mp hy]; exact ew
end G
set_option Elab.async false
set_option linter.all false
set_option maxRecDepth 100000
namespace Mir
open PySem L2
section
variable {α β σ τ : Type} {S S' : Store} {w w1 w2 w3 : Wv} {d : D} {a b c : M Wv} {m : M α} {k : α → M β} {md mk : M D} {ml : M (List D)} {p q : M Bool} {x : Xn}
@[simp] theorem x_fldS {f : Str} {cs : List Nat} : dFldS a f cs md S = bindR (md S) fun d S => bindR (a S) fun w S => setFD f cs d w S := rfl
@[simp] theorem x_putX : dPutX a md mk S = bindR (md S) fun v S => bindR (a S) fun w S => bindR (mk S) fun k S => putSD k v w S := rfl
@[simp] theorem x_augX {kop : Wv → Wv → M Wv} : dAugX a mk kop b S = bindR (a S) fun w S => bindR (mk S) fun k S => augGD b kop w k S := rfl
@[simp] theorem x_lcSx {F : D → M (Option D)} : dLcS md F S = bindR (md S) fun d S => match refL d S with
  | some (n, xs) => lcSG (sameL n xs) F xs [] S
  | none => .bad := rfl
noncomputable def itmO (kd : Key × D → D) (S : Store) : D → R (List D)
  | .dct kvs => .ok (kvs.map kd) S
  | _ => .bad
@[simp] theorem x_itemsK {kd : Key × D → D} : dItemsK kd md S = bindR (md S) fun d S => itmO kd S d := by
  show bindR (md S) _ = bindR (md S) _
  refine congrArg (bindR (md S)) (funext fun d => funext fun S => ?_)
  cases d <;> rfl
@[simp] theorem x_itmO {kd : Key × D → D} {kvs : List (Key × D)} : itmO kd S (.dct kvs) = .ok (kvs.map kd) S := rfl
theorem lcSG_map {α : Type} {ck : Store → Bool} {f : D → M (Option D)} {g : α → D} (e : α → D) : ∀ (l : List α) (acc : List D), (∀ x ∈ l, f (e x) S = .ok (some (g x)) S) → acc.length + l.length ≤ 16777216 → ck S = true → lcSG ck f (l.map e) acc S = .ok (.ow (.lst (acc ++ l.map g))) S
  | [], acc, _, _, _ => by rw [List.map_nil, List.map_nil, List.append_nil]; rfl
  | x :: r, acc, h, hl, hc => by
    rw [List.length_cons] at hl
    rw [List.map_cons]
    unfold lcSG
    rw [h x List.mem_cons_self]
    have sz : szOk (acc.length + 1) = true := decide_eq_true (by omega)
    show (if (szOk (acc.length + 1) && ck S) = true then lcSG ck f (r.map e) (acc ++ [g x]) S else .bad) = _
    rw [sz, hc, Bool.and_self, if_pos rfl, lcSG_map e r (acc ++ [g x]) (fun y hy => h y (List.mem_cons_of_mem _ hy)) (by rw [List.length_append, List.length_singleton]; omega) hc, List.map_cons, List.append_assoc]
    rfl
end
end Mir
set_option Elab.async false
set_option linter.all false
set_option maxRecDepth 100000
set_option maxHeartbeats 4000000
set_option exponentiation.threshold 100000
namespace G
open PySem L2 Mir
variable {S : Store}
theorem same_at10 {n : Nat} {xs : List D} (h : S[n]? = some (.lst xs)) : sameL n xs S = true := by
  unfold sameL
  rw [h]
  exact eqDs_self xs
theorem view_at10 {n : Nat} {X : List D} (h : S[n]? = some (.lst X)) : viewR S (.fz (.ref n)) = some X := by
  show viewL S (.fz (.ref n)) = _
  unfold viewL
  simp only [h]
theorem len_at10 {n : Nat} {X : List D} (h : S[n]? = some (.lst X)) : bLen [.fz (.ref n)] S = .ok (.fz (.int X.length)) S := by
  have vr := view_at10 h
  show (match viewR S (Wv.fz (D.ref n)) with
    | some xs => R.ok (Wv.fz (D.int xs.length)) S
    | none => match viewK S (Wv.fz (D.ref n)) with
      | some kvs => R.ok (Wv.fz (D.int kvs.length)) S
      | none => R.bad) = _
  rw [vr]
theorem nm_in_ref {ck : Store → Bool} (hc : ck S = true) : ∀ prs : List (Int × Int), NmIn prs → forD (fun d s => gdB ck (g_checked_named_k10z_l1 d s)) (prs.map nmD) () S = .ok () S
  | [], _ => rfl
  | q :: r, h => by
    have h1 := nm_in_go (S := S) [q] (fun x hx => h x (by rw [List.mem_singleton.mp hx]; exact List.mem_cons_self))
    have h2 : g_checked_named_l1 (nmD q) () S = .ok () S := by
      have z : forD g_checked_named_l1 ([q].map nmD) () S = bindR (g_checked_named_l1 (nmD q) () S) fun s S => .ok s S := rfl
      rw [z] at h1
      cases e : g_checked_named_l1 (nmD q) () S with
      | ok s S' => rw [e] at h1; exact h1
      | ex x S' => rw [e] at h1; cases h1
      | bad => rw [e] at h1; cases h1
    have h3 : gdB ck (g_checked_named_k10z_l1 (nmD q) ()) S = .ok () S := by
      have e : g_checked_named_k10z_l1 (nmD q) () S = .ok () S := h2
      unfold gdB
      rw [e]
      show (if ck S then Mir.R.ok () S else .bad) = _
      rw [hc]
      rfl
    rw [List.map_cons]
    exact (forD_cons h3).trans (nm_in_ref hc r fun x hx => h x (List.mem_cons_of_mem _ hx))
theorem checkedR {n : Nat} {prs : List (Int × Int)} {p : Int} (hn : S[n]? = some (.lst (prs.map nmD))) (hl : prs.length ≤ 100) (h : NmOk prs p) : f_checked_named_k10z [.ref n, .int p] S = .ok (.ow (.lst (prs.map nmD))) S := by
  obtain ⟨hi, hu, hs⟩ := h
  have sm := same_at10 hn
  have rf : refL (.ref n) S = some (n, prs.map nmD) := by
    unfold refL
    dsimp only
    rw [hn]
  have lp := nm_in_ref (S := S) sm prs hi
  have l1 := lcSG_map (S := S) (ck := sameL n (prs.map nmD)) (f := fun d => un2 (.fz d) fun lot_11 some_12 => lcStep (pur true) (pur lot_11)) (g := fun q : Int × Int => D.int q.1) nmD prs [] (fun q hq => by
    simp -implicitDefEqProofs only [x_un2, x_lcStep, x_pur, x_noEx, bindR_ok, if_true]) (by rw [List.length_nil]; omega) sm
  have l2 := lcSG_map (S := S) (ck := sameL n (prs.map nmD)) (f := fun d => un2 (.fz d) fun lot_14 some_15 => lcStep (pur true) (pur some_15)) (g := fun q : Int × Int => D.int q.2) nmD prs [] (fun q hq => by
    simp -implicitDefEqProofs only [x_un2, x_lcStep, x_pur, x_noEx, bindR_ok, if_true]) (by rw [List.length_nil]; omega) sm
  have e1 : (prs.map fun q : Int × Int => D.int q.1) = (prs.map (·.1)).map D.int := by rw [List.map_map]; rfl
  have e2 : (prs.map fun q : Int × Int => D.int q.2) = (prs.map (·.2)).map D.int := by rw [List.map_map]; rfl
  rw [e1, List.nil_append] at l1
  rw [e2, List.nil_append] at l2
  have c1 : dLcS (pur (.ref n)) (fun d => un2 (.fz d) fun lot_11 some_12 => lcStep (pur true) (pur lot_11)) S = .ok (.ow (.lst ((prs.map (·.1)).map D.int))) S := by
    unfold dLcS
    rw [x_pur, bindR_ok, rf]
    exact l1
  have c2 : dLcS (pur (.ref n)) (fun d => un2 (.fz d) fun lot_14 some_15 => lcStep (pur true) (pur some_15)) S = .ok (.ow (.lst ((prs.map (·.2)).map D.int))) S := by
    unfold dLcS
    rw [x_pur, bindR_ok, rf]
    exact l2
  have fr : dForS (pur (D.ref n)) (fun ck items => forD (fun d s => gdB ck (g_checked_named_k10z_l1 d s)) items ()) S = .ok () S := by
    unfold dForS
    rw [x_pur, bindR_ok, rf]
    exact lp
  have ls := lenset_o (S := S) (prs.map (·.1)) (by rw [List.length_map]; omega)
  rw [hu] at ls
  have ln : bLen [.fz (.ref n)] S = .ok (.fz (.int (prs.length : Nat))) S := by
    rw [len_at10 hn, List.length_map]
  have bl : bList [.fz (.ref n)] S = .ok (.ow (.lst (prs.map nmD))) S := by
    have vr := view_at10 hn
    show (match viewR S (Wv.fz (D.ref n)) with
      | some xs => R.ok (Wv.ow (SO.lst xs)) S
      | none => R.bad) = _
    rw [vr]
  have nn : opIsN (.fz (.ref n)) (.fz .non) S = .ok false S := rfl
  generalize prs.map (·.1) = ns1 at *
  generalize prs.map (·.2) = ns2 at *
  rw [c_checked_named_k10z]
  unfold g_checked_named_k10z
  simp -implicitDefEqProofs [-x_lcSx, nn, fr, c1, c2, ls, ln, bl, hs]
theorem namedR_non (p : Int) : f_checked_named_k10z [.non, .int p] S = .ok (.fz .non) S := by
  rw [c_checked_named_k10z]
  rfl
section
variable {d n p pr f : Int} {w : Str}
noncomputable def nmH (S : Store) (i : Nat) : Nm → D × Prop
  | none => (.non, True)
  | some prs => (.ref i, S[i]? = some (.lst (prs.map nmD)))
noncomputable def nmK : Nm → D
  | none => .non
  | some prs => .lst (prs.map nmD)
noncomputable def NmG (nm : Nm) (p : Int) : Prop := match nm with
  | none => True
  | some prs => prs.length ≤ 100 ∧ NmOk prs p
theorem chkR {i : Nat} {nm : Nm} (hn : (nmH S i nm).2) (ok : NmG nm p) : ∃ w, f_checked_named_k10z [(nmH S i nm).1, .int p] S = .ok w S ∧ w.frz = nmK nm := by
  cases nm with
  | none => exact ⟨_, namedR_non p, rfl⟩
  | some prs => exact ⟨_, checkedR hn ok.1 ok.2, rfl⟩
noncomputable def en4 (d n : Int) (w : Str) (p : Int) : List (Str × D) := [("day", .int d), ("number", .int n), ("ware", .str w), ("pieces", .int p)]
noncomputable def en5 (d n : Int) (w : Str) (p pr : Int) : List (Str × D) := [("day", .int d), ("number", .int n), ("ware", .str w), ("pieces", .int p), ("price", .int pr)]
noncomputable def en6 (d n : Int) (w : Str) (p pr f : Int) : List (Str × D) := [("day", .int d), ("number", .int n), ("ware", .str w), ("pieces", .int p), ("price", .int pr), ("fee", .int f)]
theorem SellR {i : Nat} {nm : Nm} (hn : (nmH S i nm).2) (nk : NmG nm p) (b : Base d n w) (p0 : 1 ≤ p) (p1 : p ≤ 1000000000) (q0 : 0 ≤ pr) (q1 : pr ≤ 1000000000) (f0 : 0 ≤ f) (f1 : f ≤ 1000000000) :
    f_Sell_init_k10z [.int d, .int n, .str w, .int p, .int pr, .int f, (nmH S i nm).1] [] S = .ok [("day", .int d), ("number", .int n), ("ware", .str w), ("pieces", .int p), ("price", .int pr), ("fee", .int f), ("named", nmK nm), ("proceeds", .int (p * pr - f))] S := by
  have e := fun S => Entry_init_eq (S := S) b
  have r1 := fun S => rng_ok (S := S) p0 p1
  have r2 := fun S => rng_ok (S := S) q0 q1
  have r3 := fun S => rng_ok (S := S) f0 f1
  obtain ⟨v, r4, hv⟩ := chkR (S := S) hn nk
  have m : mulOk p pr = true := mulOk_r (by omega) (by omega)
  show m_Sell_init_k10z [none, some (.fz (.int d)), some (.fz (.int n)), some (.fz (.str w)), some (.fz (.int p)), some (.fz (.int pr)), some (.fz (.int f)), some (.fz (nmH S i nm).1)] [] S = _
  have l0 : (ent3 d n w).length < 1000 := Nat.lt_of_sub_pos (by show 0 < 997; decide)
  have P1 : putN "pieces" (.int p) (ent3 d n w) = en4 d n w p := rfl
  have P2 : putN "price" (.int pr) (en4 d n w p) = en5 d n w p pr := rfl
  have P3 : putN "fee" (.int f) (en5 d n w p pr) = en6 d n w p pr f := rfl
  have l1 : (en4 d n w p).length < 1000 := Nat.lt_of_sub_pos (by show 0 < 996; decide)
  have l2 : (en5 d n w p pr).length < 1000 := Nat.lt_of_sub_pos (by show 0 < 995; decide)
  have l3 : (en6 d n w p pr f).length < 1000 := Nat.lt_of_sub_pos (by show 0 < 994; decide)
  simp -implicitDefEqProofs only [m_Sell_init_k10z, r_iSeq, r_iDrop, r_iSet, r_iBase, r_iNil]
  simp -implicitDefEqProofs [e, r1, r2, r3, r4, m, hv, iPut, l0, P1, P2, P3, l1, l2, l3]
  rfl
theorem GiveR {i : Nat} {nm : Nm} (hn : (nmH S i nm).2) (nk : NmG nm p) (b : Base d n w) (p0 : 1 ≤ p) (p1 : p ≤ 1000000000) :
    f_Give_init_k10z [.int d, .int n, .str w, .int p, (nmH S i nm).1] [] S = .ok [("day", .int d), ("number", .int n), ("ware", .str w), ("pieces", .int p), ("named", nmK nm)] S := by
  have e := fun S => Entry_init_eq (S := S) b
  have r1 := fun S => rng_ok (S := S) p0 p1
  obtain ⟨v, r4, hv⟩ := chkR (S := S) hn nk
  show m_Give_init_k10z [none, some (.fz (.int d)), some (.fz (.int n)), some (.fz (.str w)), some (.fz (.int p)), some (.fz (nmH S i nm).1)] [] S = _
  have l0 : (ent3 d n w).length < 1000 := Nat.lt_of_sub_pos (by show 0 < 997; decide)
  have P1 : putN "pieces" (.int p) (ent3 d n w) = en4 d n w p := rfl
  have l1 : (en4 d n w p).length < 1000 := Nat.lt_of_sub_pos (by show 0 < 996; decide)
  simp -implicitDefEqProofs only [m_Give_init_k10z, r_iSeq, r_iDrop, r_iSet, r_iBase, r_iNil]
  simp -implicitDefEqProofs [e, r1, r4, hv, iPut, l0, P1, l1]
  rfl
end
end G
set_option Elab.async false
set_option linter.all false
set_option maxRecDepth 100000
set_option maxHeartbeats 400000
set_option exponentiation.threshold 100000
namespace G
open PySem L2 Mir
variable {S : Store} {x : En2}
theorem eqLL {xs : List D} (h : okN 60 (.lst xs) = true) : opEq (.ow (.lst xs)) (.ow (.lst xs)) S = .ok true S := by rw [s_eqOO h h, eqv_same h]
theorem eqNW (a b : Str) (h : decide (a = b) = false) : opEq (.fz (.str a)) (.fz (.str b)) S = .ok false S := by rw [s_eqS, h]
theorem eqYW (a : Str) : opEq (.fz (.str a)) (.fz (.str a)) S = .ok true S := by rw [s_eqS, decide_eq_true rfl]
theorem fields_ok (ok : x.Ok) : f_fields_k10 [.ins x.e.cls x.fs, x.told] S = .ok (.fz (.bl true)) S := by
  have h : IsE2 S (.ins x.e.cls x.fs) x := rfl
  have fl := h.fld
  have n1 := eqNW (S := S) "sell" "buy" (by decide)
  have n2 := eqNW (S := S) "gift" "buy" (by decide)
  have n3 := eqNW (S := S) "gift" "sell" (by decide)
  have n4 := eqNW (S := S) "split" "buy" (by decide)
  have n5 := eqNW (S := S) "split" "sell" (by decide)
  have n6 := eqNW (S := S) "split" "gift" (by decide)
  have n7 := eqNW (S := S) "part" "buy" (by decide)
  have n8 := eqNW (S := S) "part" "sell" (by decide)
  have n9 := eqNW (S := S) "part" "gift" (by decide)
  have n10 := eqNW (S := S) "part" "split" (by decide)
  have n11 := eqNW (S := S) "give" "buy" (by decide)
  have n12 := eqNW (S := S) "give" "sell" (by decide)
  have n13 := eqNW (S := S) "give" "gift" (by decide)
  have n14 := eqNW (S := S) "give" "split" (by decide)
  have n15 := eqNW (S := S) "give" "part" (by decide)
  have ey := fun a => eqYW (S := S) a
  have z4 : szOk 4 = true := rfl
  have z3 : szOk 3 = true := rfl
  have z2 : szOk 2 = true := rfl
  obtain ⟨⟨d, n, w, k⟩, nm⟩ := x
  obtain ⟨⟨b, hk⟩, no⟩ := ok
  rw [c_fields_k10]
  have sellc : ∀ (p pr f : Int) (told : D) (fs : List (Str × D)), (1 ≤ p ∧ p ≤ 1000000000) → opSub2 (.fz told) (.fz (.int 0)) S = .ok (.fz (.str "sell")) S → opSub2 (.fz told) (.fz (.int 4)) S = .ok (.fz (.int p)) S → opSub2 (.fz told) (.fz (.int 5)) S = .ok (.fz (.int pr)) S → opSub2 (.fz told) (.fz (.int 6)) S = .ok (.fz (.int f)) S →
      dFld "pieces" [12, 13, 14, 15] (pur (.fz (.ins 13 fs))) S = .ok (.int p) S → dFld "price" [12, 13] (pur (.fz (.ins 13 fs))) S = .ok (.int pr) S → dFld "fee" [12, 13] (pur (.fz (.ins 13 fs))) S = .ok (.int f) S → dFld "proceeds" [13] (pur (.fz (.ins 13 fs))) S = .ok (.int (p * pr - f)) S → (0 ≤ pr ∧ pr ≤ 1000000000) →
      g_fields_k10 (.ins 13 fs) told S = .ok (.fz (.bl true)) S := fun p pr f told fs hp t0 t4 t5 t6 a1 a2 a3 a4 hpr => by
    have m : mulOk p pr = true := mulOk_r (by omega) (by omega)
    have eq := eqLL (S := S) (xs := [.int p, .int pr, .int f, .int (p * pr - f)]) rfl
    simp -implicitDefEqProofs only [g_fields_k10, x_ift, x_bin, t0, bindR_ok, x_pur, n1, Bool.false_eq_true, if_false, ey, if_true, x_bnd, x_lst, x_cons, x_fz, t4, t5, t6, s_mul, m, s_sub, s_frz1, a1, a2, a3, a4, List.length_cons, List.length_nil, Nat.zero_add, Nat.reduceAdd, z4, x_bl, x_rd, x_rdo, eq]
  have givec : ∀ (p : Int) (told : D) (fs : List (Str × D)), opSub2 (.fz told) (.fz (.int 0)) S = .ok (.fz (.str "give")) S → opSub2 (.fz told) (.fz (.int 4)) S = .ok (.fz (.int p)) S → dFld "pieces" [12, 13, 14, 15] (pur (.fz (.ins 15 fs))) S = .ok (.int p) S → g_fields_k10 (.ins 15 fs) told S = .ok (.fz (.bl true)) S := fun p told fs t0 t4 a1 => by
    have eq : opEq (.fz (.int p)) (.fz (.int p)) S = .ok true S := by rw [s_eqI, decide_eq_true rfl]
    simp -implicitDefEqProofs only [g_fields_k10, x_ift, x_bin, t0, bindR_ok, x_pur, n11, n12, n13, n14, n15, Bool.false_eq_true, if_false, x_bl, x_up, a1, t4, eq]
  cases k with
  | buy p pr f =>
    have eq := eqLL (S := S) (xs := [.int p, .int pr, .int f, .int (p * pr + f)]) rfl
    obtain ⟨⟨p0, p1⟩, ⟨q0, q1⟩, f0, f1⟩ := hk
    have m : mulOk p pr = true := mulOk_r (by omega) (by omega)
    have go : ∀ (told : D) (fs : List (Str × D)), opSub2 (.fz told) (.fz (.int 0)) S = .ok (.fz (.str "buy")) S → opSub2 (.fz told) (.fz (.int 4)) S = .ok (.fz (.int p)) S → opSub2 (.fz told) (.fz (.int 5)) S = .ok (.fz (.int pr)) S → opSub2 (.fz told) (.fz (.int 6)) S = .ok (.fz (.int f)) S →
      dFld "pieces" [12, 13, 14, 15] (pur (.fz (.ins 12 fs))) S = .ok (.int p) S → dFld "price" [12, 13] (pur (.fz (.ins 12 fs))) S = .ok (.int pr) S → dFld "fee" [12, 13] (pur (.fz (.ins 12 fs))) S = .ok (.int f) S → dFld "cost" [12, 14] (pur (.fz (.ins 12 fs))) S = .ok (.int (p * pr + f)) S →
      g_fields_k10 (.ins 12 fs) told S = .ok (.fz (.bl true)) S := fun told fs t0 t4 t5 t6 a1 a2 a3 a4 => by
      simp -implicitDefEqProofs only [g_fields_k10, x_ift, x_bin, t0, bindR_ok, x_pur, ey, if_true, x_bnd, x_lst, x_cons, x_fz, t4, t5, t6, s_mul, m, s_add, s_frz1, a1, a2, a3, a4, List.length_cons, List.length_nil, Nat.zero_add, Nat.reduceAdd, z4, x_bl, x_rd, x_rdo, eq]
    cases nm with
    | none => exact go _ _ rfl rfl rfl rfl rfl rfl rfl rfl
    | some prs => exact no.2.elim
  | sell p pr f =>
    obtain ⟨hp, hpr, f0, f1⟩ := hk
    cases nm with
    | none => exact sellc p pr f _ _ hp rfl rfl rfl rfl rfl rfl rfl rfl hpr
    | some prs => exact sellc p pr f _ _ hp rfl rfl rfl rfl rfl rfl rfl rfl hpr
  | gift p c s =>
    have eq := eqLL (S := S) (xs := [.int p, .int c, .int s]) rfl
    have go : ∀ (told : D) (fs : List (Str × D)), opSub2 (.fz told) (.fz (.int 0)) S = .ok (.fz (.str "gift")) S → opSub2 (.fz told) (.fz (.int 4)) S = .ok (.fz (.int p)) S → opSub2 (.fz told) (.fz (.int 5)) S = .ok (.fz (.int c)) S → opSub2 (.fz told) (.fz (.int 6)) S = .ok (.fz (.int s)) S →
      dFld "pieces" [12, 13, 14, 15] (pur (.fz (.ins 14 fs))) S = .ok (.int p) S → dFld "cost" [12, 14] (pur (.fz (.ins 14 fs))) S = .ok (.int c) S → dFld "since" [14] (pur (.fz (.ins 14 fs))) S = .ok (.int s) S →
      g_fields_k10 (.ins 14 fs) told S = .ok (.fz (.bl true)) S := fun told fs t0 t4 t5 t6 a1 a2 a3 => by
      simp -implicitDefEqProofs only [g_fields_k10, x_ift, x_bin, t0, bindR_ok, x_pur, n2, n3, Bool.false_eq_true, if_false, ey, if_true, x_bnd, x_lst, x_cons, x_fz, t4, t5, t6, s_frz1, a1, a2, a3, List.length_cons, List.length_nil, Nat.zero_add, Nat.reduceAdd, z3, x_bl, eq]
    cases nm with
    | none => exact go _ _ rfl rfl rfl rfl rfl rfl rfl
    | some prs => exact no.2.elim
  | give p =>
    cases nm with
    | none => exact givec p _ _ rfl rfl rfl
    | some prs => exact givec p _ _ rfl rfl rfl
  | split p o =>
    have eq := eqLL (S := S) (xs := [.int p, .int o]) rfl
    have go : ∀ (told : D) (fs : List (Str × D)), opSub2 (.fz told) (.fz (.int 0)) S = .ok (.fz (.str "split")) S → opSub2 (.fz told) (.fz (.int 4)) S = .ok (.fz (.int p)) S → opSub2 (.fz told) (.fz (.int 5)) S = .ok (.fz (.int o)) S →
      dFld "many" [16] (pur (.fz (.ins 16 fs))) S = .ok (.int p) S → dFld "of" [16] (pur (.fz (.ins 16 fs))) S = .ok (.int o) S →
      g_fields_k10 (.ins 16 fs) told S = .ok (.fz (.bl true)) S := fun told fs t0 t4 t5 a1 a2 => by
      simp -implicitDefEqProofs only [g_fields_k10, x_ift, x_bin, t0, bindR_ok, x_pur, n4, n5, n6, Bool.false_eq_true, if_false, ey, if_true, x_bnd, x_lst, x_cons, x_fz, t4, t5, s_frz1, a1, a2, List.length_cons, List.length_nil, Nat.zero_add, Nat.reduceAdd, z2, x_bl, eq]
    cases nm with
    | none => exact go _ _ rfl rfl rfl rfl rfl
    | some prs => exact no.2.elim
  | part ot sh wh =>
    have ho : PyData.strOk ot = true := strOk_w hk.1.1
    have eq := eqLL (S := S) (xs := [.str ot, .int sh, .int wh]) (by simp [okN, okNs, ho])
    have go : ∀ (told : D) (fs : List (Str × D)), opSub2 (.fz told) (.fz (.int 0)) S = .ok (.fz (.str "part")) S → opSub2 (.fz told) (.fz (.int 4)) S = .ok (.fz (.str ot)) S → opSub2 (.fz told) (.fz (.int 5)) S = .ok (.fz (.int sh)) S → opSub2 (.fz told) (.fz (.int 6)) S = .ok (.fz (.int wh)) S →
      dFld "other" [17] (pur (.fz (.ins 17 fs))) S = .ok (.str ot) S → dFld "share" [17] (pur (.fz (.ins 17 fs))) S = .ok (.int sh) S → dFld "whole" [17] (pur (.fz (.ins 17 fs))) S = .ok (.int wh) S →
      g_fields_k10 (.ins 17 fs) told S = .ok (.fz (.bl true)) S := fun told fs t0 t4 t5 t6 a1 a2 a3 => by
      simp -implicitDefEqProofs only [g_fields_k10, x_ift, x_bin, t0, bindR_ok, x_pur, n7, n8, n9, n10, Bool.false_eq_true, if_false, ey, if_true, x_bnd, x_lst, x_cons, x_fz, t4, t5, t6, s_frz1, a1, a2, a3, List.length_cons, List.length_nil, Nat.zero_add, Nat.reduceAdd, z3, x_bl, eq]
    cases nm with
    | none => exact go _ _ rfl rfl rfl rfl rfl rfl rfl
    | some prs => exact no.2.elim
noncomputable def kds (c : Nat) : List D := [.bl (c == 12), .bl (c == 13), .bl (c == 14), .bl (c == 15), .bl (c == 16), .bl (c == 17)]
theorem cls_in (e : En) : e.cls = 12 ∨ e.cls = 13 ∨ e.cls = 14 ∨ e.cls = 15 ∨ e.cls = 16 ∨ e.cls = 17 := by
  obtain ⟨d, n, w, k⟩ := e
  cases k with
  | buy => exact .inl rfl
  | sell => exact .inr (.inl rfl)
  | gift => exact .inr (.inr (.inl rfl))
  | give => exact .inr (.inr (.inr (.inl rfl)))
  | split => exact .inr (.inr (.inr (.inr (.inl rfl))))
  | part => exact .inr (.inr (.inr (.inr (.inr rfl))))
theorem kinds_ok {c : Nat} (h : c = 12 ∨ c = 13 ∨ c = 14 ∨ c = 15 ∨ c = 16 ∨ c = 17) (fs : List (Str × D)) : f_kinds_k10 [.ins c fs] S = .ok (.ow (.lst (kds c))) S := by
  rw [c_kinds_k10]
  rcases h with rfl | rfl | rfl | rfl | rfl | rfl <;> rfl
end G
set_option Elab.async false
set_option linter.all false
set_option maxRecDepth 100000
set_option maxHeartbeats 400000
set_option exponentiation.threshold 100000
namespace G
open PySem L2 Mir
variable {S S1 : Store} {x : En2}
theorem at_end10 (S : Store) (so : SO) : (S ++ [so])[S.length]? = some so := by
  rw [List.getElem?_append_right (Nat.le_refl _), Nat.sub_self]
  rfl
theorem madeR (ok : x.Ok) (S : Store) : ∃ S1, f_made_k10z [x.told] S = .ok (.ow (.ins x.e.cls x.fs)) S1 := by
  obtain ⟨⟨d, n, w, k⟩, nm⟩ := x
  obtain ⟨⟨b, hk⟩, no⟩ := ok
  rw [c_made_k10z]
  cases nm with
  | none =>
    refine ⟨S, ?_⟩
    cases k with
    | buy p pr f =>
      obtain ⟨⟨p0, p1⟩, ⟨q0, q1⟩, f0, f1⟩ := hk
      have g : g_made_k10z (En.told ⟨d, n, w, .buy p pr f⟩) S = mkO 12 (f_Buy_init [.int d, .int n, .str w, .int p, .int pr, .int f] [] S) := rfl
      exact g.trans (by rw [Buy_init_eq b p0 p1 q0 q1 f0 f1]; rfl)
    | sell p pr f =>
      obtain ⟨⟨p0, p1⟩, ⟨q0, q1⟩, f0, f1⟩ := hk
      have g : g_made_k10z (En.told ⟨d, n, w, .sell p pr f⟩) S = mkO 13 (f_Sell_init_k10z [.int d, .int n, .str w, .int p, .int pr, .int f, (nmH S 0 none).1] [] S) := rfl
      exact g.trans (by rw [SellR (nm := none) trivial trivial b p0 p1 q0 q1 f0 f1]; rfl)
    | gift p c s =>
      obtain ⟨⟨p0, p1⟩, ⟨q0, q1⟩, f0, f1⟩ := hk
      have g : g_made_k10z (En.told ⟨d, n, w, .gift p c s⟩) S = mkO 14 (f_Gift_init [.int d, .int n, .str w, .int p, .int c, .int s] [] S) := rfl
      exact g.trans (by rw [Gift_init_eq b p0 p1 q0 q1 f0 f1]; rfl)
    | give p =>
      obtain ⟨p0, p1⟩ := hk
      have g : g_made_k10z (En.told ⟨d, n, w, .give p⟩) S = mkO 15 (f_Give_init_k10z [.int d, .int n, .str w, .int p, (nmH S 0 none).1] [] S) := rfl
      exact g.trans (by rw [GiveR (nm := none) trivial trivial b p0 p1]; rfl)
    | split m o =>
      obtain ⟨⟨p0, p1⟩, f0, f1⟩ := hk
      have g : g_made_k10z (En.told ⟨d, n, w, .split m o⟩) S = mkO 16 (f_Split_init [.int d, .int n, .str w, .int m, .int o] [] S) := rfl
      exact g.trans (by rw [Split_init_eq b p0 p1 f0 f1]; rfl)
    | part ot sh wh =>
      obtain ⟨⟨p0, p1⟩, ⟨q0, q1⟩, f0, f1⟩ := hk
      have g : g_made_k10z (En.told ⟨d, n, w, .part ot sh wh⟩) S = mkO 17 (f_Parting_init [.int d, .int n, .str w, .str ot, .int sh, .int wh] [] S) := rfl
      exact g.trans (by rw [Parting_init_eq b p0 p1 q0 q1 f0 f1]; rfl)
  | some prs =>
    obtain ⟨hl, no⟩ := no
    refine ⟨S ++ [.lst (prs.map nmD)], ?_⟩
    cases k with
    | buy p pr f => exact no.elim
    | gift p c s => exact no.elim
    | split m o => exact no.elim
    | part ot sh wh => exact no.elim
    | sell p pr f =>
      obtain ⟨⟨p0, p1⟩, ⟨q0, q1⟩, f0, f1⟩ := hk
      have g : g_made_k10z (.tup [.str "sell", .int d, .int n, .str w, .int p, .int pr, .int f, .tup (prs.map nmD)]) S = mkO 13 (f_Sell_init_k10z [.int d, .int n, .str w, .int p, .int pr, .int f, (nmH (S ++ [.lst (prs.map nmD)]) S.length (some prs)).1] [] (S ++ [.lst (prs.map nmD)])) := rfl
      exact g.trans (by rw [SellR (nm := some prs) (at_end10 S _) ⟨hl, no⟩ b p0 p1 q0 q1 f0 f1]; rfl)
    | give p =>
      obtain ⟨p0, p1⟩ := hk
      have g : g_made_k10z (.tup [.str "give", .int d, .int n, .str w, .int p, .tup (prs.map nmD)]) S = mkO 15 (f_Give_init_k10z [.int d, .int n, .str w, .int p, (nmH (S ++ [.lst (prs.map nmD)]) S.length (some prs)).1] [] (S ++ [.lst (prs.map nmD)])) := rfl
      exact g.trans (by rw [GiveR (nm := some prs) (at_end10 S _) ⟨hl, no⟩ b p0 p1]; rfl)
theorem bnd_to {α β : Type} {m : M α} {k : α → M β} {a : α} {S S1 : Store} (h : m S = .ok a S1) : bnd m k S = k a S1 := by
  unfold bnd
  rw [h]
  rfl
theorem ift_no {α : Type} {c : M Bool} {a b : M α} {S S1 : Store} (h : c S = .ok false S1) : ift c a b S = b S1 := by
  unfold ift
  rw [h]
  rfl
theorem ift_yes {α : Type} {c : M Bool} {a b : M α} {S S1 : Store} (h : c S = .ok true S1) : ift c a b S = a S1 := by
  unfold ift
  rw [h]
  rfl
theorem ok60X (ok : x.Ok) : okN 60 x.told = true := by
  have hw : PyData.strOk x.e.w = true := strOk_w ok.e.b.w
  have s1 : PyData.strOk "buy" = true := by decide +kernel
  have s2 : PyData.strOk "sell" = true := by decide +kernel
  have s3 : PyData.strOk "gift" = true := by decide +kernel
  have s4 : PyData.strOk "give" = true := by decide +kernel
  have s5 : PyData.strOk "split" = true := by decide +kernel
  have s6 : PyData.strOk "part" = true := by decide +kernel
  obtain ⟨⟨d, n, w, k⟩, nm⟩ := x
  obtain ⟨⟨b, hk⟩, no⟩ := ok
  have hw : PyData.strOk w = true := hw
  have hp : ∀ prs : List (Int × Int), okNs 58 (prs.map nmD) = true := fun prs => okNs_map fun _ _ => rfl
  cases nm with
  | none =>
    cases k with
    | part ot sh wh =>
      have ho : PyData.strOk ot = true := strOk_w hk.1.1
      simp [En2.told, En.told, okN, okNs, hw, ho, s6]
    | _ => simp [En2.told, En.told, okN, okNs, hw, s1, s2, s3, s4, s5]
  | some prs =>
    have hp := hp prs
    cases k with
    | part ot sh wh => exact no.2.elim
    | buy => exact no.2.elim
    | gift => exact no.2.elim
    | split => exact no.2.elim
    | sell p pr f => simp [En2.told, okN, okNs, hw, s2, hp]
    | give p => simp [En2.told, okN, okNs, hw, s4, hp]
theorem told_tup (x : En2) : ∃ r, x.told = .tup (.str x.e.word :: .int x.e.d :: .int x.e.n :: .str x.e.w :: r) := by
  obtain ⟨⟨d, n, w, k⟩, nm⟩ := x
  cases nm <;> cases k <;> exact ⟨_, rfl⟩
end G
set_option Elab.async false
set_option linter.all false
set_option maxRecDepth 100000
set_option maxHeartbeats 400000
set_option exponentiation.threshold 100000
namespace G
open PySem L2 Mir
variable {S S1 : Store} {x : En2}
theorem ware2 {d : D} (h : IsE2 S d x) : dFld "ware" [12, 13, 14, 15, 16, 17] (pur (.fz d)) S = .ok (.str x.e.w) S := by
  rw [h.fld]
  obtain ⟨⟨d, n, w, k⟩, nm⟩ := x
  cases nm <;> cases k <;> rfl
theorem word2 {d : D} (h : IsE2 S d x) : dMeth "word" (tabF [(12, f_Buy_word), (13, f_Sell_word), (14, f_Gift_word), (15, f_Give_word), (16, f_Split_word), (17, f_Parting_word)]) (pur d) (pur []) S = .ok (.fz (.str x.e.word)) S := by
  rw [h.meth]
  obtain ⟨⟨_, n, w, k⟩, nm⟩ := x
  cases nm <;> cases k <;> first | exact (c_Buy_word d S).trans rfl | exact (c_Sell_word d S).trans rfl | exact (c_Gift_word d S).trans rfl | exact (c_Give_word d S).trans rfl | exact (c_Split_word d S).trans rfl | exact (c_Parting_word d S).trans rfl
noncomputable def tail10 (told dat : D) : M Wv :=
 (ift (dAnd (dBin opIn (opSub2 (Wv.fz told) (Wv.fz (D.int 0))) (dUp (dTup (pur ((D.str "sell") :: [(D.str "give")]))))) (dBin (notM opIsN) (dBin opSub2 (pur (Wv.fz told)) (opNeg (Wv.fz (D.int 1)))) (pur (Wv.fz D.non))))
 (ift (dOr (dNot (dTst (dUn (opIsTy "list") (dUp (dFld "named" [13, 15] (rd (Wv.fz dat))))))) (dBin (notM opEq) (dUp (dFld "named" [13, 15] (rd (Wv.fz dat)))) (bnd (dConsB (dBin opSub2 (pur (Wv.fz told)) (opNeg (Wv.fz (D.int 1)))) (pur [])) bList)))
 (pur (Wv.fz (D.bl false)))
 (bnd (dUn opShr (bnd (dConsB (dBin opSub2 (pur (Wv.fz told)) (opNeg (Wv.fz (D.int 1)))) (pur [])) bList)) fun handed_6 =>
 (bnd (dMk 15 (padK 4 [] f_Give_init_k10z) (dApp (dCons (dFz (opSub2 (Wv.fz told) (Wv.fz (D.int 1)))) (dCons (dFz (opSub2 (Wv.fz told) (Wv.fz (D.int 2)))) (dCons (dFz (opSub2 (Wv.fz told) (Wv.fz (D.int 3)))) (dCons (dFz (opSub2 (Wv.fz told) (Wv.fz (D.int 4)))) (pur []))))) (dCons (rdD handed_6) (pur [])))) fun other_7 =>
 (bnd (ift (dBin opEq (opSub2 (Wv.fz told) (Wv.fz (D.int 0))) (pur (Wv.fz (D.str "sell"))))
 (bnd (dMk 13 (padK 5 [] f_Sell_init_k10z) (dApp (dCons (dFz (opSub2 (Wv.fz told) (Wv.fz (D.int 1)))) (dCons (dFz (opSub2 (Wv.fz told) (Wv.fz (D.int 2)))) (dCons (dFz (opSub2 (Wv.fz told) (Wv.fz (D.int 3)))) (dCons (dFz (opSub2 (Wv.fz told) (Wv.fz (D.int 4)))) (dCons (dFz (opSub2 (Wv.fz told) (Wv.fz (D.int 5)))) (pur [])))))) (dCons (dFz (opSub2 (Wv.fz told) (Wv.fz (D.int 6)))) (dCons (rdD handed_6) (pur []))))) fun other_10 => pur other_10)
 (pur other_7)) fun s_9 =>
 (bnd (dMut "list" mAppend handed_6 (dCons (dTup (pur ((D.int 0) :: [(D.int 1)]))) (pur []))) fun handed_11 =>
 (ift (dOr (dBin (notM opEq) (dUp (dFld "named" [13, 15] (rd s_9.fzn))) (bnd (dConsB (dBin opSub2 (pur (Wv.fz told)) (opNeg (Wv.fz (D.int 1)))) (pur [])) bList)) (dBin (notM opEq) (dMeth "told" (tabF [(13, f_Sell_told), (15, f_Give_told)]) (rdD s_9.fzn) (pur [])) (pur (Wv.fz told))))
 (pur (Wv.fz (D.bl false)))
 (bnd (dMut "list" mClear handed_11 (pur [])) fun handed_12 =>
 (dAndV (dBl (dBin opEq (dUp (dFld "named" [13, 15] (rd s_9.fzn))) (bnd (dConsB (dBin opSub2 (pur (Wv.fz told)) (opNeg (Wv.fz (D.int 1)))) (pur [])) bList))) (dBl (dBin opEq (dMeth "told" (tabF [(13, f_Sell_told), (15, f_Give_told)]) (rdD s_9.fzn) (pur [])) (pur (Wv.fz told))))))))))))
 (dOrV (dBl (dBin (notM opIn) (opSub2 (Wv.fz told) (Wv.fz (D.int 0))) (dUp (dTup (pur ((D.str "sell") :: [(D.str "give")])))))) (dBl (dBin opIsN (dUp (dFld "named" [13, 15] (rd (Wv.fz dat)))) (pur (Wv.fz D.non))))))
theorem head_at (t : Str) (r : List D) : opSub2 (.fz (.tup (.str t :: r))) (.fz (.int 0)) S = .ok (.fz (.str t)) S := by
  have a : atD (.str t :: r) 0 = some (.str t) := atD_nat (n := 0) rfl
  simp -implicitDefEqProofs [a]
theorem kd_row {r : List D} (e : En) (S : Store) : (bnd (dItems (rdD (Wv.fz (.lst [D.str "buy", D.str "sell", D.str "gift", D.str "give", D.str "split", D.str "part"])))) fun items => lcS (fun word_4 => lcStep (pur true) (dFz (dBl (dBin opEq (pur (Wv.fz word_4)) (opSub2 (Wv.fz (.tup (.str e.word :: r))) (Wv.fz (D.int 0))))))) items []) S = .ok (.ow (.lst (kds e.cls))) S := by
  have s0 := head_at (S := S) e.word r
  have lc := lcS_map (S := S) (f := fun word_4 => lcStep (pur true) (dFz (dBl (dBin opEq (pur (Wv.fz word_4)) (opSub2 (Wv.fz (.tup (.str e.word :: r))) (Wv.fz (D.int 0))))))) (g := fun z : Str => D.bl (decide (z = e.word))) D.str ["buy", "sell", "gift", "give", "split", "part"] (fun z _ => by
    have q : opEq (.fz (.str z)) (.fz (.str e.word)) S = .ok (decide (z = e.word)) S := s_eqS
    simp -implicitDefEqProofs only [x_lcStep, x_pur, x_fz, x_bl, x_bin, x_noEx, bindR_ok, if_true]
    rw [s0]
    simp -implicitDefEqProofs only [bindR_ok, q, s_frz1, x_noEx]) (by decide)
  refine (bnd_to (a := [D.str "buy", D.str "sell", D.str "gift", D.str "give", D.str "split", D.str "part"]) (S1 := S) rfl).trans (lc.trans ?_)
  obtain ⟨d, n, w, k⟩ := e
  cases k <;> rfl
theorem right_head (ok : x.Ok) (h0 : f_made_k10z [x.told] S = .ok (.ow (.ins x.e.cls x.fs)) S1) : f_right_k10z [x.told] S = tail10 x.told (.ins x.e.cls x.fs) S1 := by
  have ie : IsE2 S1 (.ins x.e.cls x.fs) x := rfl
  have f1 := day2 ie
  have f2 := num2 ie
  have f3 := ware2 ie
  have hf := fields_ok (S := S1) ok
  have hk := kinds_ok (S := S1) (cls_in x.e) x.fs
  have hw := word2 ie
  have ht := told2_eq ie
  have o6 := ok60X ok
  have et : opEq (.fz x.told) (.fz x.told) S1 = .ok true S1 := by rw [s_eqF o6 o6, eqv_same o6]
  have ws : PyData.strOk x.e.w = true := strOk_w ok.e.b.w
  have e3 := eqLL (S := S1) (xs := [.int x.e.d, .int x.e.n, .str x.e.w]) (by simp [okN, okNs, ws])
  have ek := eqLL (S := S1) (xs := kds x.e.cls) (by rcases cls_in x.e with h | h | h | h | h | h <;> rw [h] <;> rfl)
  have ew := eqYW (S := S1) x.e.word
  have io : dIsO (tab [(12, true), (13, true), (14, true), (15, true), (16, true), (17, true)]) (pur (Wv.fz (.ins x.e.cls x.fs))) S1 = .ok (.fz (.bl true)) S1 := by
    rcases cls_in x.e with h | h | h | h | h | h <;> rw [h] <;> rfl
  obtain ⟨r, hr⟩ := told_tup x
  have kr := kd_row (r := .int x.e.d :: .int x.e.n :: .str x.e.w :: r) x.e S1
  rw [← hr] at kr
  have sl : dSl (pur (Wv.fz x.told)) (dPart (pur (Wv.fz (D.int 1)))) (dPart (pur (Wv.fz (D.int 4)))) S1 = .ok (.fz (.tup [.int x.e.d, .int x.e.n, .str x.e.w])) S1 := by
    rw [hr]
    have cu : cutD (D.str x.e.word :: D.int x.e.d :: D.int x.e.n :: D.str x.e.w :: r) (some 1) (some 4) = [.int x.e.d, .int x.e.n, .str x.e.w] := cutD_midG 1 4
    simp -implicitDefEqProofs [cu]
  have s0 : opSub2 (Wv.fz x.told) (Wv.fz (D.int 0)) S1 = .ok (.fz (.str x.e.word)) S1 := by rw [hr]; exact head_at _ _
  have ity : opIsTy "tuple" (.fz x.told) S1 = .ok (.fz (.bl true)) S1 := by rw [hr]; rfl
  have bl : bList [.fz (.tup [.int x.e.d, .int x.e.n, .str x.e.w])] S1 = .ok (.ow (.lst [.int x.e.d, .int x.e.n, .str x.e.w])) S1 := rfl
  have z3 : szOk 3 = true := rfl
  have tw : tstW (Wv.fz (D.bl true)) S1 = .ok true S1 := rfl
  have rdd : ∀ d : D, rdD (.fz d) = pur d := fun _ => rfl
  have rdw : ∀ d : D, rd (.fz d) = pur (.fz d) := fun _ => rfl
  generalize x.told = told at *
  generalize hdat : D.ins x.e.cls x.fs = dat at *
  rw [c_right_k10z]
  unfold g_right_k10z
  refine (bnd_to h0).trans ?_
  have fzd : (Wv.ow (SO.ins x.e.cls x.fs)).fzn = .fz dat := by rw [← hdat]; rfl
  rw [fzd]
  refine (ift_no (S1 := S1) ?_).trans ?_
  · simp -implicitDefEqProofs only [x_or, x_bin, x_lst, x_cons, rdw, f1, f2, f3, x_pur, bindR_ok, List.length_cons, List.length_nil, Nat.zero_add, Nat.reduceAdd, z3, if_true, x_bnd, x_consB, sl, bl, s_notM, e3, Bool.not_true, Bool.false_eq_true, if_false, x_not, x_tst, x_call, x_rdD, hf, tw, Bool.not_true]
  refine (bnd_to (a := Wv.ow (SO.lst [D.str "buy", D.str "sell", D.str "gift", D.str "give", D.str "split", D.str "part"])) (S1 := S1) rfl).trans ?_
  refine (ift_no (S1 := S1) ?_).trans ?_
  · have e0 : (Wv.ow (SO.lst [D.str "buy", D.str "sell", D.str "gift", D.str "give", D.str "split", D.str "part"])).fzn = Wv.fz (D.lst [D.str "buy", D.str "sell", D.str "gift", D.str "give", D.str "split", D.str "part"]) := rfl
    rw [e0]
    simp -implicitDefEqProofs only [x_or, x_not, x_tst, rdw, io, bindR_ok, s_notM, x_bin, x_call, x_cons, x_rdD, x_pur, hk, kr, tw, Bool.not_true, Bool.false_eq_true, if_false, ek]
  refine (ift_no (S1 := S1) ?_).trans ?_
  · simp -implicitDefEqProofs only [x_or, x_not, x_tst, rdd, x_bin, hw, s0, s_notM, ew, bindR_ok, ht, x_un, ity, x_pur, et, tw, Bool.not_true, Bool.false_eq_true, if_false]
  rfl
end G
set_option Elab.async false
set_option linter.all false
set_option maxRecDepth 100000
set_option maxHeartbeats 400000
set_option exponentiation.threshold 100000
namespace G
open PySem L2 Mir
variable {S S1 : Store} {x : En2}
theorem tail_other {told dat : D} {w : Str} (s0 : opSub2 (Wv.fz told) (Wv.fz (D.int 0)) S1 = .ok (.fz (.str w)) S1) (hin : opIn (.fz (.str w)) (.fz (.tup [.str "sell", .str "give"])) S1 = .ok false S1) : tail10 told dat S1 = .ok (.fz (.bl true)) S1 := by
  have z2 : szOk 2 = true := rfl
  unfold tail10
  refine (ift_no (S1 := S1) ?_).trans ?_
  · simp -implicitDefEqProofs only [x_and, x_bin, s0, bindR_ok, x_up, x_tup, x_pur, List.length_cons, List.length_nil, Nat.zero_add, Nat.reduceAdd, z2, if_true, hin, Bool.false_eq_true, if_false]
  · simp -implicitDefEqProofs [s0, z2, hin]
theorem tail_none {told dat : D} {w : Str} (s0 : opSub2 (Wv.fz told) (Wv.fz (D.int 0)) S1 = .ok (.fz (.str w)) S1) (hin : opIn (.fz (.str w)) (.fz (.tup [.str "sell", .str "give"])) S1 = .ok true S1)
    (sm : opSub2 (Wv.fz told) (Wv.fz (D.int (-1))) S1 = .ok (.fz .non) S1) (hf : dFld "named" [13, 15] (pur (.fz dat)) S1 = .ok .non S1) : tail10 told dat S1 = .ok (.fz (.bl true)) S1 := by
  have z2 : szOk 2 = true := rfl
  have ng : ∀ S : Store, opNeg (.fz (.int 1)) S = .ok (.fz (.int (-1))) S := fun _ => rfl
  have nn : opIsN (.fz .non) (.fz .non) S1 = .ok true S1 := rfl
  have rdw : ∀ d : D, rd (.fz d) = pur (.fz d) := fun _ => rfl
  unfold tail10
  refine (ift_no (S1 := S1) ?_).trans ?_
  · simp -implicitDefEqProofs only [x_and, x_bin, s0, bindR_ok, x_up, x_tup, x_pur, List.length_cons, List.length_nil, Nat.zero_add, Nat.reduceAdd, z2, if_true, hin, ng, sm, s_notM, nn, Bool.not_true]
  · rw [rdw]
    simp -implicitDefEqProofs [-x_fld, s0, z2, hin, hf, nn]
theorem tail_named {told : D} {w wa : Str} {c : Nat} {fs : List (Str × D)} {prs : List (Int × Int)} {d n p : Int} (hc : c = 13 ∨ c = 15) (s0 : ∀ S : Store, opSub2 (Wv.fz told) (Wv.fz (D.int 0)) S = .ok (.fz (.str w)) S) (hin : ∀ S : Store, opIn (.fz (.str w)) (.fz (.tup [.str "sell", .str "give"])) S = .ok true S)
    (sm : ∀ S : Store, opSub2 (Wv.fz told) (Wv.fz (D.int (-1))) S = .ok (.fz (.tup (prs.map nmD))) S) (hf : ∀ S : Store, dFld "named" [13, 15] (pur (.fz (.ins c fs))) S = .ok (.lst (prs.map nmD)) S)
    (t1 : ∀ S : Store, opSub2 (Wv.fz told) (Wv.fz (D.int 1)) S = .ok (.fz (.int d)) S) (t2 : ∀ S : Store, opSub2 (Wv.fz told) (Wv.fz (D.int 2)) S = .ok (.fz (.int n)) S) (t3 : ∀ S : Store, opSub2 (Wv.fz told) (Wv.fz (D.int 3)) S = .ok (.fz (.str wa)) S) (t4 : ∀ S : Store, opSub2 (Wv.fz told) (Wv.fz (D.int 4)) S = .ok (.fz (.int p)) S)
    (ht : ∀ S : Store, dMeth "told" (tabF [(13, f_Sell_told), (15, f_Give_told)]) (pur (.ins c fs)) (pur []) S = .ok (.fz told) S) (et : ∀ S : Store, opEq (.fz told) (.fz told) S = .ok true S) (b : Base d n wa) (p0 : 1 ≤ p) (p1 : p ≤ 1000000000) (hl : prs.length ≤ 100) (no : NmOk prs p)
    (mk : ∀ (S2 : Store) (o : Wv) (gf : List (Str × D)), S2[S1.length]? = some (.lst (prs.map nmD)) → o = .ow (.ins 15 gf) → f_Give_init_k10z [.int d, .int n, .str wa, .int p, .ref S1.length] [] S2 = .ok gf S2 → (ift (dBin opEq (opSub2 (Wv.fz told) (Wv.fz (D.int 0))) (pur (Wv.fz (D.str "sell"))))
 (bnd (dMk 13 (padK 5 [] f_Sell_init_k10z) (dApp (dCons (dFz (opSub2 (Wv.fz told) (Wv.fz (D.int 1)))) (dCons (dFz (opSub2 (Wv.fz told) (Wv.fz (D.int 2)))) (dCons (dFz (opSub2 (Wv.fz told) (Wv.fz (D.int 3)))) (dCons (dFz (opSub2 (Wv.fz told) (Wv.fz (D.int 4)))) (dCons (dFz (opSub2 (Wv.fz told) (Wv.fz (D.int 5)))) (pur [])))))) (dCons (dFz (opSub2 (Wv.fz told) (Wv.fz (D.int 6)))) (dCons (rdD (.fz (.ref S1.length))) (pur []))))) fun other_10 => pur other_10)
 (pur o)) S2 = .ok (.ow (.ins c fs)) S2) : ∃ S2, tail10 told (.ins c fs) S1 = .ok (.fz (.bl true)) S2 := by
  have z2 : szOk 2 = true := rfl
  have ng : ∀ S : Store, opNeg (.fz (.int 1)) S = .ok (.fz (.int (-1))) S := fun _ => rfl
  have nn : ∀ S : Store, opIsN (.fz (.tup (prs.map nmD))) (.fz .non) S = .ok false S := fun _ => rfl
  have rdw : ∀ d : D, rd (.fz d) = pur (.fz d) := fun _ => rfl
  have rdd : ∀ d : D, rdD (.fz d) = pur d := fun _ => rfl
  have tw : ∀ S : Store, tstW (Wv.fz (D.bl true)) S = .ok true S := fun _ => rfl
  have il : ∀ S : Store, opIsTy "list" (.fz (.lst (prs.map nmD))) S = .ok (.fz (.bl true)) S := fun _ => rfl
  have bl : ∀ S : Store, bList [.fz (.tup (prs.map nmD))] S = .ok (.ow (.lst (prs.map nmD))) S := fun _ => rfl
  have ok : okN 60 (.lst (prs.map nmD)) = true := okNs_map fun _ _ => rfl
  have el : ∀ S : Store, opEq (.fz (.lst (prs.map nmD))) (.ow (.lst (prs.map nmD))) S = .ok true S := fun S => by rw [s_eqFO ok ok, eqv_same ok]
  have sh : ∀ (so : SO) (S : Store), opShr (.ow so) S = .ok (.fz (.ref S.length)) (S ++ [so]) := fun _ _ => rfl
  have fzn : (Wv.ow (SO.ins c fs)).fzn = .fz (.ins c fs) := rfl
  have at1 := at_end10 S1 (.lst (prs.map nmD))
  unfold tail10
  have c1 : (dAnd (dBin opIn (opSub2 (Wv.fz told) (Wv.fz (D.int 0))) (dUp (dTup (pur ((D.str "sell") :: [(D.str "give")]))))) (dBin (notM opIsN) (dBin opSub2 (pur (Wv.fz told)) (opNeg (Wv.fz (D.int 1)))) (pur (Wv.fz D.non)))) S1 = .ok true S1 := by
    simp -implicitDefEqProofs only [x_and, x_bin, s0, bindR_ok, x_up, x_tup, x_pur, List.length_cons, List.length_nil, Nat.zero_add, Nat.reduceAdd, z2, if_true, hin, ng, sm, s_notM, nn, Bool.not_false]
  have c2 : (dOr (dNot (dTst (dUn (opIsTy "list") (dUp (dFld "named" [13, 15] (rd (Wv.fz (.ins c fs)))))))) (dBin (notM opEq) (dUp (dFld "named" [13, 15] (rd (Wv.fz (.ins c fs))))) (bnd (dConsB (dBin opSub2 (pur (Wv.fz told)) (opNeg (Wv.fz (D.int 1)))) (pur [])) bList))) S1 = .ok false S1 := by
    simp -implicitDefEqProofs only [x_or, x_not, x_tst, x_un, x_up, rdw, hf, bindR_ok, il, tw, Bool.not_true, Bool.false_eq_true, if_false, x_bin, x_bnd, x_consB, x_pur, ng, sm, bl, s_notM, el]
  have c3 : (dUn opShr (bnd (dConsB (dBin opSub2 (pur (Wv.fz told)) (opNeg (Wv.fz (D.int 1)))) (pur [])) bList)) S1 = .ok (.fz (.ref S1.length)) (S1 ++ [.lst (prs.map nmD)]) := by
    simp -implicitDefEqProofs only [x_un, x_bnd, x_consB, x_bin, x_pur, bindR_ok, ng, sm, bl, sh]
  obtain ⟨S2, hS2⟩ : ∃ S2, S2 = S1 ++ [SO.lst (prs.map nmD)] := ⟨_, rfl⟩
  rw [← hS2] at at1 c3
  obtain ⟨gf, gi⟩ : ∃ gf, f_Give_init_k10z [.int d, .int n, .str wa, .int p, .ref S1.length] [] S2 = .ok gf S2 := ⟨_, GiveR (S := S2) (i := S1.length) (nm := some prs) at1 ⟨hl, no⟩ b p0 p1⟩
  have c4 : (dMk 15 (padK 4 [] f_Give_init_k10z) (dApp (dCons (dFz (opSub2 (Wv.fz told) (Wv.fz (D.int 1)))) (dCons (dFz (opSub2 (Wv.fz told) (Wv.fz (D.int 2)))) (dCons (dFz (opSub2 (Wv.fz told) (Wv.fz (D.int 3)))) (dCons (dFz (opSub2 (Wv.fz told) (Wv.fz (D.int 4)))) (pur []))))) (dCons (rdD (.fz (.ref S1.length))) (pur [])))) S2 = .ok (.ow (.ins 15 gf)) S2 := by
    have pk : padK 4 [] f_Give_init_k10z ([.int d, .int n, .str wa, .int p] ++ [.ref S1.length]) [] S2 = .ok gf S2 := gi
    unfold dApp
    simp -implicitDefEqProofs only [x_mk, x_cons, x_fz, t1, t2, t3, t4, bindR_ok, s_frz1, x_pur, rdd, pk]
    rfl
  have c5 := mk S2 _ gf at1 rfl gi
  obtain ⟨S3, m1, S4, m2⟩ : ∃ S3, (dMut "list" mAppend (.fz (.ref S1.length)) (dCons (dTup (pur ((D.int 0) :: [(D.int 1)]))) (pur []))) S2 = .ok (.fz (.ref S1.length)) S3 ∧ ∃ S4, (dMut "list" mClear (.fz (.ref S1.length)) (pur [])) S3 = .ok (.fz (.ref S1.length)) S4 := by
    have sz : szOk ((prs.map nmD).length + 1) = true := szOk_le (by rw [List.length_map]; omega)
    have lt : S1.length < S2.length := by rw [hS2, List.length_append]; exact Nat.lt_succ_self _
    have at2 : (S2.set S1.length (.lst (prs.map nmD ++ [.tup [.int 0, .int 1]])))[S1.length]? = some (.lst (prs.map nmD ++ [.tup [.int 0, .int 1]])) := by rw [List.getElem?_set_self lt]
    refine ⟨S2.set S1.length (.lst (prs.map nmD ++ [.tup [.int 0, .int 1]])), ?_, (S2.set S1.length (.lst (prs.map nmD ++ [.tup [.int 0, .int 1]]))).set S1.length (.lst []), ?_⟩
    · have ty : tyW "list" (.fz (.ref S1.length)) S2 = true := by unfold tyW; simp only [at1]; rfl
      have mw : mutW mAppend (.fz (.ref S1.length)) [.tup [.int 0, .int 1]] S2 = .ok (.fz (.ref S1.length), .non) (S2.set S1.length (.lst (prs.map nmD ++ [.tup [.int 0, .int 1]]))) := by
        unfold mutW mAppend
        simp only [at1, sz, if_true]
      have ar : (dCons (dTup (pur ((D.int 0) :: [(D.int 1)]))) (pur [])) S2 = .ok [.tup [.int 0, .int 1]] S2 := rfl
      rw [x_mut, ty, if_pos rfl, ar, bindR_ok, mw]
      rfl
    · have ty : tyW "list" (.fz (.ref S1.length)) (S2.set S1.length (.lst (prs.map nmD ++ [.tup [.int 0, .int 1]]))) = true := by unfold tyW; simp only [at2]; rfl
      have mw : mutW mClear (.fz (.ref S1.length)) [] (S2.set S1.length (.lst (prs.map nmD ++ [.tup [.int 0, .int 1]]))) = .ok (.fz (.ref S1.length), .non) ((S2.set S1.length (.lst (prs.map nmD ++ [.tup [.int 0, .int 1]]))).set S1.length (.lst [])) := by
        unfold mutW mClear
        simp only [at2]
      rw [x_mut, ty, if_pos rfl, x_pur, bindR_ok, mw]
      rfl
  have c6 : (dOr (dBin (notM opEq) (dUp (dFld "named" [13, 15] (rd (Wv.fz (.ins c fs))))) (bnd (dConsB (dBin opSub2 (pur (Wv.fz told)) (opNeg (Wv.fz (D.int 1)))) (pur [])) bList)) (dBin (notM opEq) (dMeth "told" (tabF [(13, f_Sell_told), (15, f_Give_told)]) (rdD (Wv.fz (.ins c fs))) (pur [])) (pur (Wv.fz told)))) S3 = .ok false S3 := by
    simp -implicitDefEqProofs only [x_or, x_up, rdw, rdd, hf, bindR_ok, x_bin, x_bnd, x_consB, x_pur, ng, sm, bl, s_notM, el, Bool.not_true, Bool.false_eq_true, if_false, ht, et]
  have c7 : (dAndV (dBl (dBin opEq (dUp (dFld "named" [13, 15] (rd (Wv.fz (.ins c fs))))) (bnd (dConsB (dBin opSub2 (pur (Wv.fz told)) (opNeg (Wv.fz (D.int 1)))) (pur [])) bList))) (dBl (dBin opEq (dMeth "told" (tabF [(13, f_Sell_told), (15, f_Give_told)]) (rdD (Wv.fz (.ins c fs))) (pur [])) (pur (Wv.fz told))))) S4 = .ok (.fz (.bl true)) S4 := by
    have a1 : (dBl (dBin opEq (dUp (dFld "named" [13, 15] (rd (Wv.fz (.ins c fs))))) (bnd (dConsB (dBin opSub2 (pur (Wv.fz told)) (opNeg (Wv.fz (D.int 1)))) (pur [])) bList))) S4 = .ok (.fz (.bl true)) S4 := by
      simp -implicitDefEqProofs only [x_bl, x_up, rdw, rdd, hf, bindR_ok, x_bin, x_bnd, x_consB, x_pur, ng, sm, bl, el]
    have a2 : (dBl (dBin opEq (dMeth "told" (tabF [(13, f_Sell_told), (15, f_Give_told)]) (rdD (Wv.fz (.ins c fs))) (pur [])) (pur (Wv.fz told)))) S4 = .ok (.fz (.bl true)) S4 := by
      simp -implicitDefEqProofs only [x_bl, rdd, bindR_ok, x_bin, x_pur, ht, et]
    simp -implicitDefEqProofs [a1, a2, -x_bl, -x_bin]
  refine ⟨S4, ?_⟩
  refine (ift_yes c1).trans ?_
  refine (ift_no c2).trans ?_
  refine (bnd_to c3).trans ?_
  refine (bnd_to c4).trans ?_
  refine (bnd_to c5).trans ?_
  refine (bnd_to m1).trans ?_
  rw [fzn]
  refine (ift_no c6).trans ?_
  refine (bnd_to m2).trans ?_
  exact c7
theorem right_eq (ok : x.Ok) (S : Store) : ∃ S', f_right_k10z [x.told] S = .ok (.fz (.bl true)) S' := by
  obtain ⟨S1, h0⟩ := madeR ok S
  rw [right_head ok h0]
  have ie : ∀ S : Store, IsE2 S (.ins x.e.cls x.fs) x := fun _ => rfl
  have ht := fun S : Store => told2_eq (ie S)
  have hm := fun S : Store => (ie S).meth
  have o6 := ok60X ok
  have et : ∀ S : Store, opEq (.fz x.told) (.fz x.told) S = .ok true S := fun S => by rw [s_eqF o6 o6, eqv_same o6]
  obtain ⟨⟨d, n, w, k⟩, nm⟩ := x
  obtain ⟨⟨b, hk⟩, no⟩ := ok
  cases nm with
  | none =>
    refine ⟨S1, ?_⟩
    cases k with
    | buy p pr f => exact tail_other (w := "buy") rfl rfl
    | gift p c s => exact tail_other (w := "gift") rfl rfl
    | split p o => exact tail_other (w := "split") rfl rfl
    | part ot sh wh => exact tail_other (w := "part") rfl rfl
    | sell p pr f => exact tail_none (w := "sell") rfl rfl rfl rfl
    | give p => exact tail_none (w := "give") rfl rfl rfl rfl
  | some prs =>
    obtain ⟨hl, no⟩ := no
    cases k with
    | buy p pr f => exact no.elim
    | gift p c s => exact no.elim
    | split p o => exact no.elim
    | part ot sh wh => exact no.elim
    | sell p pr f =>
      obtain ⟨⟨p0, p1⟩, ⟨q0, q1⟩, f0, f1⟩ := hk
      have ht2 : ∀ S : Store, dMeth "told" (tabF [(13, f_Sell_told), (15, f_Give_told)]) (pur (.ins 13 (En2.fs ⟨⟨d, n, w, .sell p pr f⟩, some prs⟩))) (pur []) S = .ok (.fz (En2.told ⟨⟨d, n, w, .sell p pr f⟩, some prs⟩)) S := fun S => by
        have q := ht S
        rw [hm] at q
        exact ((hm S) "told" (tabF [(13, f_Sell_told), (15, f_Give_told)]) (pur [])).trans q
      refine tail_named (w := "sell") (p := p) (.inl rfl) (fun _ => rfl) (fun _ => rfl) (fun _ => rfl) (fun _ => rfl) (fun _ => rfl) (fun _ => rfl) (fun _ => rfl) (fun _ => rfl) ht2 et b p0 p1 hl no ?_
      intro S2 o gf at1 ho gi
      have si := SellR (S := S2) (i := S1.length) (nm := some prs) at1 ⟨hl, no⟩ b p0 p1 q0 q1 f0 f1
      have si : padK 5 [] f_Sell_init_k10z ([.int d, .int n, .str w, .int p, .int pr] ++ [.int f, .ref S1.length]) [] S2 = .ok (En2.fs ⟨⟨d, n, w, .sell p pr f⟩, some prs⟩) S2 := si
      have rdd : rdD (.fz (.ref S1.length)) = pur (.ref S1.length) := rfl
      have e0 : (dBin opEq (opSub2 (Wv.fz (En2.told ⟨⟨d, n, w, .sell p pr f⟩, some prs⟩)) (Wv.fz (D.int 0))) (pur (Wv.fz (D.str "sell")))) S2 = .ok true S2 := rfl
      refine (ift_yes e0).trans ?_
      rw [rdd]
      refine (bnd_to (a := .ow (.ins 13 (En2.fs ⟨⟨d, n, w, .sell p pr f⟩, some prs⟩))) (S1 := S2) ?_).trans rfl
      have args : ∀ S : Store, (dApp (dCons (dFz (opSub2 (Wv.fz (En2.told ⟨⟨d, n, w, .sell p pr f⟩, some prs⟩)) (Wv.fz (D.int 1)))) (dCons (dFz (opSub2 (Wv.fz (En2.told ⟨⟨d, n, w, .sell p pr f⟩, some prs⟩)) (Wv.fz (D.int 2)))) (dCons (dFz (opSub2 (Wv.fz (En2.told ⟨⟨d, n, w, .sell p pr f⟩, some prs⟩)) (Wv.fz (D.int 3)))) (dCons (dFz (opSub2 (Wv.fz (En2.told ⟨⟨d, n, w, .sell p pr f⟩, some prs⟩)) (Wv.fz (D.int 4)))) (dCons (dFz (opSub2 (Wv.fz (En2.told ⟨⟨d, n, w, .sell p pr f⟩, some prs⟩)) (Wv.fz (D.int 5)))) (pur [])))))) (dCons (dFz (opSub2 (Wv.fz (En2.told ⟨⟨d, n, w, .sell p pr f⟩, some prs⟩)) (Wv.fz (D.int 6)))) (dCons (pur (.ref S1.length)) (pur [])))) S = .ok ([.int d, .int n, .str w, .int p, .int pr] ++ [.int f, .ref S1.length]) S := fun _ => rfl
      rw [x_mk, args, bindR_ok, si]
      rfl
    | give p =>
      obtain ⟨p0, p1⟩ := hk
      have ht2 : ∀ S : Store, dMeth "told" (tabF [(13, f_Sell_told), (15, f_Give_told)]) (pur (.ins 15 (En2.fs ⟨⟨d, n, w, .give p⟩, some prs⟩))) (pur []) S = .ok (.fz (En2.told ⟨⟨d, n, w, .give p⟩, some prs⟩)) S := fun S => by
        have q := ht S
        rw [hm] at q
        exact ((hm S) "told" (tabF [(13, f_Sell_told), (15, f_Give_told)]) (pur [])).trans q
      refine tail_named (w := "give") (p := p) (.inr rfl) (fun _ => rfl) (fun _ => rfl) (fun _ => rfl) (fun _ => rfl) (fun _ => rfl) (fun _ => rfl) (fun _ => rfl) (fun _ => rfl) ht2 et b p0 p1 hl no ?_
      intro S2 o gf at1 ho gi
      have gr := GiveR (S := S2) (i := S1.length) (nm := some prs) at1 ⟨hl, no⟩ b p0 p1
      have e0 : (dBin opEq (opSub2 (Wv.fz (En2.told ⟨⟨d, n, w, .give p⟩, some prs⟩)) (Wv.fz (D.int 0))) (pur (Wv.fz (D.str "sell")))) S2 = .ok false S2 := rfl
      refine (ift_no e0).trans ?_
      have e1 : gf = En2.fs ⟨⟨d, n, w, .give p⟩, some prs⟩ := by
        have q := gi.symm.trans gr
        injection q
      rw [ho, e1]
      rfl
end G
set_option Elab.async false
set_option linter.all false
set_option maxRecDepth 100000
set_option maxHeartbeats 1000000
set_option exponentiation.threshold 100000
namespace L_k10_entries_made
open PySem L2 Mir G
variable {S : Store}
theorem turn_eq {ws : List Str} (W : Wrs ws) {low : Int} (l0 : 0 ≤ low) (l1 : low < 1000) (k : Nat) (hk60 : k < 100) (c : Int) (S : Store) : ∃ S', g_law_k10z_l1 (.ow (.lst (ws.map D.str))) (.fz (.int low)) (.tup [.int (k : Nat), .int c]) () S = .ok (.nx ()) S' := by
  have l3 := W.len
  obtain ⟨w0, w1, w2, wr, rfl⟩ : ∃ w0 w1 w2 wr, ws = w0 :: w1 :: w2 :: wr := by
    match ws, l3 with
    | w0 :: w1 :: w2 :: wr, _ => exact ⟨w0, w1, w2, wr, rfl⟩
  have a0 : atD ((w0 :: w1 :: w2 :: wr).map D.str) 0 = some (.str w0) := atD_nat (n := 0) rfl
  have a1 : atD ((w0 :: w1 :: w2 :: wr).map D.str) 1 = some (.str w1) := atD_nat (n := 1) rfl
  have a2 : atD ((w0 :: w1 :: w2 :: wr).map D.str) 2 = some (.str w2) := atD_nat (n := 2) rfl
  generalize w0 :: w1 :: w2 :: wr = ws at *
  have d0 := Int.emod_nonneg c (show (1000001 : Int) ≠ 0 by decide)
  have d1 := Int.emod_lt_of_pos c (show (0 : Int) < 1000001 by decide)
  have m0 := Int.emod_nonneg (c / 1000001) (show (7 : Int) ≠ 0 by decide)
  have m1 := Int.emod_lt_of_pos (c / 1000001) (show (0 : Int) < 7 by decide)
  obtain ⟨day, hday⟩ : ∃ x, x = c % 1000001 := ⟨_, rfl⟩
  obtain ⟨mr, hmr⟩ : ∃ x, x = c / 1000001 % 7 := ⟨_, rfl⟩
  rw [← hday] at d0 d1
  rw [← hmr] at m0 m1
  have dg : ∀ S : Store, f_digits_k01 [.int c, .lst [.int 1000001, .int 7]] S = .ok (.ow (.lst [.int day, .int mr])) S := fun S => by
    have q := digitsk_eq (S := S) (bs := [1000001, 7]) (fun b hb => by
      simp only [List.mem_cons, List.not_mem_nil, or_false] at hb
      rcases hb with rfl | rfl <;> exact ⟨by decide, by decide⟩) (by decide) c
    rw [hday, hmr]
    exact q
  obtain ⟨v, hv, v0, v1⟩ : ∃ v : Int, atD [D.int 7, D.int 70, D.int 700, D.int 7000, D.int 70000, D.int 700000, D.int 7000000] mr = some (.int v) ∧ 1 ≤ v ∧ v ≤ 7000000 := by
    rcases (show mr = 0 ∨ mr = 1 ∨ mr = 2 ∨ mr = 3 ∨ mr = 4 ∨ mr = 5 ∨ mr = 6 by omega) with h | h | h | h | h | h | h <;> rw [h] <;> exact ⟨_, rfl, by decide, by decide⟩
  obtain ⟨h, hok, hh⟩ : ∃ h : Hl, HOk h ∧ (if 2 < mr then mergeD [((.inr w0 : Key), D.int 1000000000), (.inr w1, .int 50), (.inr w2, .int (1 + day))] else []) = G.hk h := by
    by_cases q : 2 < mr
    · refine ⟨([(w0, 1000000000), (w1, 50), (w2, 1 + day)] : Hl).foldl (fun h p => hput h p.1 p.2) [], fold_ok _ [] hok_nil (fun p hp => ?_), ?_⟩
      · simp only [List.mem_cons, List.not_mem_nil, or_false] at hp
        rcases hp with rfl | rfl | rfl
        · exact (show (0 : Int) < 1000000000 by decide)
        · exact (show (0 : Int) < 50 by decide)
        · show 0 < 1 + day
          omega
      · rw [if_pos q]
        exact merge_hk [(w0, 1000000000), (w1, 50), (w2, 1 + day)]
    · exact ⟨[], hok_nil, by rw [if_neg q]; rfl⟩
  obtain ⟨e, ok, ed, en, ew, ee⟩ := entry_eq W hok (c / v) (day := day) (n := low + (k : Nat)) d0 (by omega) (by omega) (by omega)
  obtain ⟨nm, nok, wn⟩ := with_named_eq ok (c / 13)
  obtain ⟨S', rt⟩ := right_eq nok S
  have ee := ee S
  have wn := wn S
  have dv : divOk c v = true := divOk_s (by omega) (by omega)
  have d13 : divOk c 13 = true := divOk_s (by decide) (by decide)
  have pw6 : ∀ S : Store, opPow (.fz (.int 10)) (.fz (.int 6)) S = .ok (.fz (.int 1000000)) S := fun _ => rfl
  have pw5 : ∀ S : Store, opPow (.fz (.int 10)) (.fz (.int 5)) S = .ok (.fz (.int 100000)) S := fun _ => rfl
  have pw4 : ∀ S : Store, opPow (.fz (.int 10)) (.fz (.int 4)) S = .ok (.fz (.int 10000)) S := fun _ => rfl
  have pw9 : ∀ S : Store, opPow (.fz (.int 10)) (.fz (.int 9)) S = .ok (.fz (.int 1000000000)) S := fun _ => rfl
  have k4 : mulOk 7 10000 = true := by decide
  have k5 : mulOk 7 100000 = true := by decide
  have k6 : mulOk 7 1000000 = true := by decide
  refine ⟨S', ?_⟩
  generalize En2.told ⟨e, nm⟩ = tx at *
  generalize e.told = te at *
  by_cases q : 2 < mr
  · have gt : opGt (.fz (.int mr)) (.fz (.int 2)) S = .ok true S := by
      show R.ok (decide (2 < mr)) S = _
      rw [decide_eq_true q]
    rw [if_pos q] at hh
    simp -implicitDefEqProofs [g_law_k10z_l1, -s_gt, pw6, pw9, pw5, pw4, dg, a0, a1, a2, gt, hh, hv, dv, d13, k4, k5, k6, ee, wn, rt]
  · have gt : opGt (.fz (.int mr)) (.fz (.int 2)) S = .ok false S := by
      show R.ok (decide (2 < mr)) S = _
      rw [decide_eq_false q]
    rw [if_neg q] at hh
    rw [← hh] at ee
    simp -implicitDefEqProofs [g_law_k10z_l1, -s_gt, pw6, pw9, pw5, pw4, dg, a0, a1, a2, gt, hv, dv, d13, k4, k5, k6, ee, wn, rt]
theorem law_loop {ws : List Str} (W : Wrs ws) {low : Int} (l0 : 0 ≤ low) (l1 : low < 1000) : ∀ (cs : List Int) (k : Nat) (S : Store), k + cs.length ≤ 100 → ∃ S', forO (g_law_k10z_l1 (.ow (.lst (ws.map D.str))) (.fz (.int low))) (((List.range' k cs.length).zip cs).map fun p => D.tup [.int (p.1 : Nat), .int p.2]) () S = .ok (.nx ()) S'
  | [], k, S, _ => ⟨S, rfl⟩
  | c :: r, k, S, hl => by
    rw [List.length_cons] at hl ⊢
    rw [List.range'_succ, List.zip_cons_cons, List.map_cons]
    obtain ⟨S1, e⟩ := turn_eq W l0 l1 k (by omega) c S
    obtain ⟨S2, f⟩ := law_loop W l0 l1 r (k + 1) S1 (by omega)
    exact ⟨S2, (forO_to e).trans f⟩
theorem told13 {told : D} {fs : List (Str × D)} (x : En2) (hx : x.e.cls = 13) (hf : x.fs = fs) (ht : x.told = told) (S : Store) : dMeth "told" (tabF [(13, f_Sell_told)]) (pur (.ins 13 fs)) (pur []) S = .ok (.fz told) S := by
  have ie : IsE2 S (.ins 13 fs) x := by
    show some (13, fs) = some (x.e.cls, x.fs)
    rw [hx, hf]
  have q := told2_eq ie
  rw [ie.meth] at q
  rw [ie.meth, ← ht, ← q, hx, hf]
  rfl
theorem told12 {told : D} {fs : List (Str × D)} (x : En2) (hx : x.e.cls = 12) (hf : x.fs = fs) (ht : x.told = told) (S : Store) : dMeth "told" (tabF [(12, f_Buy_told)]) (pur (.ins 12 fs)) (pur []) S = .ok (.fz told) S := by
  have ie : IsE2 S (.ins 12 fs) x := by
    show some (12, fs) = some (x.e.cls, x.fs)
    rw [hx, hf]
  have q := told2_eq ie
  rw [ie.meth] at q
  rw [ie.meth, ← ht, ← q, hx, hf]
  rfl
noncomputable def endW (w : Wv) : M Wv :=
 (bnd (dMk 12 (padI f_Buy_init [.int 0]) (dCons (pur (D.int 3)) (dCons (pur (D.int 4)) (dCons (dFz (dBin opSub2 (rd w) (pur (Wv.fz (D.int 0))))) (pur ((D.int 5) :: [(D.int 6)])))))) fun one_20 =>
 (bnd (dMk 13 (padK 5 [.int 0] f_Sell_init_k10z) (dApp (dCons (pur (D.int 3)) (dCons (pur (D.int 4)) (dCons (dFz (dBin opSub2 (rd w) (pur (Wv.fz (D.int 0))))) (pur ((D.int 5) :: [(D.int 6)]))))) (dCons (dFz (dUn opShr (dLst (dCons (dTup (pur ((D.int 1) :: [(D.int 2)]))) (dCons (dTup (pur ((D.int 0) :: [(D.int 3)]))) (pur [])))))) (pur [])))) fun other_21 =>
 (ift (dBin (notM opEq) (dMeth "told" (tabF [(13, f_Sell_told)]) (rdD other_21.fzn) (pur [])) (dUp (dTup (dCons (pur (D.str "sell")) (dCons (pur (D.int 3)) (dCons (pur (D.int 4)) (dCons (dFz (dBin opSub2 (rd w) (pur (Wv.fz (D.int 0))))) (dCons (pur (D.int 5)) (dCons (pur (D.int 6)) (dCons (pur (D.int 0)) (dCons (dTup (dCons (dTup (pur ((D.int 1) :: [(D.int 2)]))) (dCons (dTup (pur ((D.int 0) :: [(D.int 3)]))) (pur [])))) (pur []))))))))))))
 (pur (Wv.fz (D.bl false)))
 (bnd (dMk 13 (padI f_Sell_init_k10z [.int 0, .non]) (dCons (pur (D.int 3)) (dCons (pur (D.int 4)) (dCons (dFz (dBin opSub2 (rd w) (pur (Wv.fz (D.int 0))))) (pur ((D.int 5) :: [(D.int 6)])))))) fun other_22 =>
 (dAndV (dBl (dBin opEq (dMeth "told" (tabF [(12, f_Buy_told)]) (rdD one_20.fzn) (pur [])) (dUp (dTup (dCons (pur (D.str "buy")) (dCons (pur (D.int 3)) (dCons (pur (D.int 4)) (dCons (dFz (dBin opSub2 (rd w) (pur (Wv.fz (D.int 0))))) (pur ((D.int 5) :: ((D.int 6) :: [(D.int 0)]))))))))))) (dBl (dBin opEq (dMeth "told" (tabF [(13, f_Sell_told)]) (rdD other_22.fzn) (pur [])) (dUp (dTup (dCons (pur (D.str "sell")) (dCons (pur (D.int 3)) (dCons (pur (D.int 4)) (dCons (dFz (dBin opSub2 (rd w) (pur (Wv.fz (D.int 0))))) (pur ((D.int 5) :: ((D.int 6) :: ((D.int 0) :: [D.non])))))))))))))))))
theorem end_eq {ws : List Str} (W : Wrs ws) (S : Store) : ∃ S', endW (.fz (.lst (ws.map D.str))) S = .ok (.fz (.bl true)) S' := by
  have l3 := W.len
  obtain ⟨w0, wr, rfl⟩ : ∃ w0 wr, ws = w0 :: wr := by
    match ws, l3 with
    | w0 :: wr, _ => exact ⟨w0, wr, rfl⟩
  have hw : IsW w0 := W.w w0 List.mem_cons_self
  have b : Base 3 4 w0 := ⟨by decide, by decide, by decide, by decide, hw⟩
  have a0 : ∀ S : Store, opSub2 (.fz (.lst ((w0 :: wr).map D.str))) (.fz (.int 0)) S = .ok (.fz (.str w0)) S := fun S => by
    have a : atD ((w0 :: wr).map D.str) 0 = some (.str w0) := atD_nat (n := 0) rfl
    simp -implicitDefEqProofs only [s_ixF, a, s_gotW]
  generalize (w0 :: wr).map D.str = wl at *
  have rdw : ∀ d : D, rd (.fz d) = pur (.fz d) := fun _ => rfl
  have rdd : ∀ d : D, rdD (.fz d) = pur d := fun _ => rfl
  have nm : NmG (some [(1, 2), (0, 3)]) 5 := ⟨by decide, fun q hq => by
    simp only [List.mem_cons, List.not_mem_nil, or_false] at hq
    rcases hq with rfl | rfl <;> exact ⟨⟨by decide, by decide⟩, by decide, by decide⟩, by decide, by decide⟩
  have z2 : szOk 2 = true := rfl
  have z7 : szOk 7 = true := rfl
  have z8 : szOk 8 = true := rfl
  -- a buy without a fee
  have bi := fun S : Store => Buy_init_eq (S := S) (p := 5) (pr := 6) (f := 0) b (by decide) (by decide) (by decide) (by decide) (by decide) (by decide)
  have c1 : ∀ S : Store, (dMk 12 (padI f_Buy_init [.int 0]) (dCons (pur (D.int 3)) (dCons (pur (D.int 4)) (dCons (dFz (dBin opSub2 (rd (.fz (.lst wl))) (pur (Wv.fz (D.int 0))))) (pur ((D.int 5) :: [(D.int 6)])))))) S = .ok (.ow (.ins 12 (En2.fs ⟨⟨3, 4, w0, .buy 5 6 0⟩, none⟩))) S := fun S => by
    have pd : padI f_Buy_init [.int 0] [.int 3, .int 4, .str w0, .int 5, .int 6] [] S = .ok (En2.fs ⟨⟨3, 4, w0, .buy 5 6 0⟩, none⟩) S := bi S
    simp -implicitDefEqProofs only [x_mk, x_cons, x_pur, bindR_ok, x_fz, x_bin, rdw, a0, s_frz1, pd]
    rfl
  obtain ⟨S2, hS2⟩ : ∃ S2, S2 = S ++ [SO.lst ([((1 : Int), (2 : Int)), (0, 3)].map nmD)] := ⟨_, rfl⟩
  have at1 := at_end10 S (.lst ([((1 : Int), (2 : Int)), (0, 3)].map nmD))
  rw [← hS2] at at1
  have si := SellR (S := S2) (i := S.length) (nm := some [(1, 2), (0, 3)]) at1 nm b (p := 5) (pr := 6) (f := 0) (by decide) (by decide) (by decide) (by decide) (by decide) (by decide)
  have sn := fun S : Store => SellR (S := S) (i := 0) (nm := none) trivial trivial b (p := 5) (pr := 6) (f := 0) (by decide) (by decide) (by decide) (by decide) (by decide) (by decide)
  have sh : ∀ (so : SO) (S : Store), opShr (.ow so) S = .ok (.fz (.ref S.length)) (S ++ [so]) := fun _ _ => rfl
  have c2 : (dMk 13 (padK 5 [.int 0] f_Sell_init_k10z) (dApp (dCons (pur (D.int 3)) (dCons (pur (D.int 4)) (dCons (dFz (dBin opSub2 (rd (.fz (.lst wl))) (pur (Wv.fz (D.int 0))))) (pur ((D.int 5) :: [(D.int 6)]))))) (dCons (dFz (dUn opShr (dLst (dCons (dTup (pur ((D.int 1) :: [(D.int 2)]))) (dCons (dTup (pur ((D.int 0) :: [(D.int 3)]))) (pur [])))))) (pur [])))) S = .ok (.ow (.ins 13 (En2.fs ⟨⟨3, 4, w0, .sell 5 6 0⟩, some [(1, 2), (0, 3)]⟩))) S2 := by
    have pd : padK 5 [.int 0] f_Sell_init_k10z ([.int 3, .int 4, .str w0, .int 5, .int 6] ++ [.ref S.length]) [] S2 = .ok (En2.fs ⟨⟨3, 4, w0, .sell 5 6 0⟩, some [(1, 2), (0, 3)]⟩) S2 := si
    have li : ∀ S : Store, (dLst (dCons (dTup (pur ((D.int 1) :: [(D.int 2)]))) (dCons (dTup (pur ((D.int 0) :: [(D.int 3)]))) (pur [])))) S = .ok (.ow (.lst ([((1 : Int), (2 : Int)), (0, 3)].map nmD))) S := fun _ => rfl
    unfold dApp
    simp -implicitDefEqProofs only [x_mk, x_cons, x_pur, bindR_ok, x_fz, x_bin, rdw, a0, s_frz1, x_un, li, sh, ← hS2, pd]
    rfl
  have c4 : (dMk 13 (padI f_Sell_init_k10z [.int 0, .non]) (dCons (pur (D.int 3)) (dCons (pur (D.int 4)) (dCons (dFz (dBin opSub2 (rd (.fz (.lst wl))) (pur (Wv.fz (D.int 0))))) (pur ((D.int 5) :: [(D.int 6)])))))) S2 = .ok (.ow (.ins 13 (En2.fs ⟨⟨3, 4, w0, .sell 5 6 0⟩, none⟩))) S2 := by
    have pd : padI f_Sell_init_k10z [.int 0, .non] [.int 3, .int 4, .str w0, .int 5, .int 6] [] S2 = .ok (En2.fs ⟨⟨3, 4, w0, .sell 5 6 0⟩, none⟩) S2 := sn S2
    simp -implicitDefEqProofs only [x_mk, x_cons, x_pur, bindR_ok, x_fz, x_bin, rdw, a0, s_frz1, pd]
    rfl
  have t1 := told12 (told := .tup [.str "buy", .int 3, .int 4, .str w0, .int 5, .int 6, .int 0]) ⟨⟨3, 4, w0, .buy 5 6 0⟩, none⟩ rfl rfl rfl S2
  have t2 := told13 (told := .tup [.str "sell", .int 3, .int 4, .str w0, .int 5, .int 6, .int 0, .tup [.tup [.int 1, .int 2], .tup [.int 0, .int 3]]]) ⟨⟨3, 4, w0, .sell 5 6 0⟩, some [(1, 2), (0, 3)]⟩ rfl rfl rfl S2
  have t3 := told13 (told := .tup [.str "sell", .int 3, .int 4, .str w0, .int 5, .int 6, .int 0, .non]) ⟨⟨3, 4, w0, .sell 5 6 0⟩, none⟩ rfl rfl rfl S2
  have eo : (⟨3, 4, w0, .buy 5 6 0⟩ : En).Ok := ⟨b, ⟨by decide, by decide⟩, ⟨by decide, by decide⟩, by decide, by decide⟩
  have so : (⟨3, 4, w0, .sell 5 6 0⟩ : En).Ok := ⟨b, ⟨by decide, by decide⟩, ⟨by decide, by decide⟩, by decide, by decide⟩
  have q1 : okN 60 (.tup [.str "buy", .int 3, .int 4, .str w0, .int 5, .int 6, .int 0]) = true := ok60X (x := ⟨⟨3, 4, w0, .buy 5 6 0⟩, none⟩) ⟨eo, trivial⟩
  have q2 : okN 60 (.tup [.str "sell", .int 3, .int 4, .str w0, .int 5, .int 6, .int 0, .tup [.tup [.int 1, .int 2], .tup [.int 0, .int 3]]]) = true := ok60X (x := ⟨⟨3, 4, w0, .sell 5 6 0⟩, some [(1, 2), (0, 3)]⟩) ⟨so, nm⟩
  have q3 : okN 60 (.tup [.str "sell", .int 3, .int 4, .str w0, .int 5, .int 6, .int 0, .non]) = true := ok60X (x := ⟨⟨3, 4, w0, .sell 5 6 0⟩, none⟩) ⟨so, trivial⟩
  have e1 : opEq (.fz (.tup [.str "buy", .int 3, .int 4, .str w0, .int 5, .int 6, .int 0])) (.fz (.tup [.str "buy", .int 3, .int 4, .str w0, .int 5, .int 6, .int 0])) S2 = .ok true S2 := by rw [s_eqF q1 q1, eqv_same q1]
  have e2 : opEq (.fz (.tup [.str "sell", .int 3, .int 4, .str w0, .int 5, .int 6, .int 0, .tup [.tup [.int 1, .int 2], .tup [.int 0, .int 3]]])) (.fz (.tup [.str "sell", .int 3, .int 4, .str w0, .int 5, .int 6, .int 0, .tup [.tup [.int 1, .int 2], .tup [.int 0, .int 3]]])) S2 = .ok true S2 := by rw [s_eqF q2 q2, eqv_same q2]
  have e3 : opEq (.fz (.tup [.str "sell", .int 3, .int 4, .str w0, .int 5, .int 6, .int 0, .non])) (.fz (.tup [.str "sell", .int 3, .int 4, .str w0, .int 5, .int 6, .int 0, .non])) S2 = .ok true S2 := by rw [s_eqF q3 q3, eqv_same q3]
  have fzn : ∀ so, (Wv.ow (SO.ins 13 so)).fzn = .fz (.ins 13 so) := fun _ => rfl
  have fzn2 : ∀ so, (Wv.ow (SO.ins 12 so)).fzn = .fz (.ins 12 so) := fun _ => rfl
  refine ⟨S2, ?_⟩
  unfold endW
  refine (bnd_to (c1 S)).trans ?_
  refine (bnd_to c2).trans ?_
  simp -implicitDefEqProofs only [fzn, fzn2, rdd]
  refine (ift_no (S1 := S2) ?_).trans ?_
  · simp -implicitDefEqProofs only [x_bin, t2, bindR_ok, x_up, x_tup, x_cons, x_pur, x_fz, rdw, a0, s_frz1, List.length_cons, List.length_nil, Nat.zero_add, Nat.reduceAdd, z2, z8, if_true, s_notM, e2, Bool.not_true]
  refine (bnd_to c4).trans ?_
  simp -implicitDefEqProofs only [fzn, rdd]
  have a1 : (dBl (dBin opEq (dMeth "told" (tabF [(12, f_Buy_told)]) (pur (.ins 12 (En2.fs ⟨⟨3, 4, w0, .buy 5 6 0⟩, none⟩))) (pur [])) (dUp (dTup (dCons (pur (D.str "buy")) (dCons (pur (D.int 3)) (dCons (pur (D.int 4)) (dCons (dFz (dBin opSub2 (rd (.fz (.lst wl))) (pur (Wv.fz (D.int 0))))) (pur ((D.int 5) :: ((D.int 6) :: [(D.int 0)]))))))))))) S2 = .ok (.fz (.bl true)) S2 := by
    simp -implicitDefEqProofs only [x_bl, x_bin, t1, bindR_ok, x_up, x_tup, x_cons, x_pur, x_fz, rdw, a0, s_frz1, List.length_cons, List.length_nil, Nat.zero_add, Nat.reduceAdd, z7, if_true, e1]
  have a2 : (dBl (dBin opEq (dMeth "told" (tabF [(13, f_Sell_told)]) (pur (.ins 13 (En2.fs ⟨⟨3, 4, w0, .sell 5 6 0⟩, none⟩))) (pur [])) (dUp (dTup (dCons (pur (D.str "sell")) (dCons (pur (D.int 3)) (dCons (pur (D.int 4)) (dCons (dFz (dBin opSub2 (rd (.fz (.lst wl))) (pur (Wv.fz (D.int 0))))) (pur ((D.int 5) :: ((D.int 6) :: ((D.int 0) :: [D.non])))))))))))) S2 = .ok (.fz (.bl true)) S2 := by
    simp -implicitDefEqProofs only [x_bl, x_bin, t3, bindR_ok, x_up, x_tup, x_cons, x_pur, x_fz, rdw, a0, s_frz1, List.length_cons, List.length_nil, Nat.zero_add, Nat.reduceAdd, z8, if_true, e3]
  simp -implicitDefEqProofs [a1, a2, -x_bl, -x_bin, -x_meth]
theorem law_true (ns : List Int) (h1 : ns.length ≤ 63) (_ : ∀ z ∈ ns, Builtin.Int.intBits z ≤ 1048576) : ∃ S', f_law_k10z [.scr ns] [] = .ok (.fz (.bl true)) S' := by
  obtain ⟨ws, W, we⟩ := wares_eq ns
  have we := we []
  have ce := cellsk_eq (S := []) ns h1
  have ct : cutD ((MirC.cells ns).map D.int) none (some 60) = ((MirC.cells ns).take 60).map D.int := by
    have := cutD_take (xs := (MirC.cells ns).map D.int) 60
    rw [show ((60 : Nat) : Int) = 60 from rfl] at this
    rw [this, ← List.map_take]
  obtain ⟨a, hA⟩ : ∃ a, a = ns.getD 2 0 := ⟨_, rfl⟩
  have c2 : f_cell_at_k02 [.scr ns, .int 2] [] = .ok (.fz (.int a)) [] := by rw [hA]; exact cell_atk_eq ns 2
  have l0 := Int.emod_nonneg a (show (1000 : Int) ≠ 0 by decide)
  have l1 := Int.emod_lt_of_pos a (show (0 : Int) < 1000 by decide)
  obtain ⟨S1, lp⟩ := law_loop W l0 l1 ((MirC.cells ns).take 60) 0 [] (by rw [List.length_take]; omega)
  rw [← enum_ints] at lp
  obtain ⟨S2, en⟩ := end_eq W S1
  have o : modOk a 1000 = true := modOk_p (by decide)
  refine ⟨S2, ?_⟩
  rw [c_law_k10z]
  unfold g_law_k10z
  refine (bnd_to we).trans ?_
  refine (bnd_to (a := .fz (.int (a % 1000))) (S1 := []) ?_).trans ?_
  · simp -implicitDefEqProofs only [x_bin, c2, bindR_ok, x_pur, s_mod, o, if_true]
  have e0 : (Wv.ow (SO.lst (ws.map D.str))).fzn = .fz (.lst (ws.map D.str)) := rfl
  simp -implicitDefEqProofs only [e0]
  have bT : ∀ {m : M (Out Unit)} {k : Unit → M Wv}, m [] = .ok (.nx ()) S1 → bnT m k [] = k () S1 := fun {m k} h => by
    unfold bnT
    rw [h]
    rfl
  refine (bT ?_).trans en
  simp -implicitDefEqProofs only [x_bnd, x_cons, x_fz, x_sl, ce, bindR_ok, x_pur, x_part, s_prtW, s_slO, ct, s_frz2, s_frz1, x_enumL, lp]
end L_k10_entries_made
set_option Elab.async false
set_option linter.all false
namespace L_k10_entries_made
open PySem L2 Mir G
theorem law_end {T : Tx} (hT : T.tabs = []) {H : Hp} {a : Addr} {ns : List Int} (h1 : ns.length ≤ 63) (h2 : ∀ z ∈ ns, Builtin.Int.intBits z ≤ 1048576) (hO : Only H) (hS : SqL T.K H a (ns.map V.int)) : spF T 1 f_law_k10z [.ref a] H (fun v _ => v = .bl true) fun _ _ _ => False := law_sp hO hS (law_true ns h1 h2) hT
end L_k10_entries_made
open PySem PySem.W PyProof.Rows
set_option maxRecDepth 100000 in
set_option maxHeartbeats 0 in
theorem PySem.Challenge.cw_lotledger_k10_entries_made_holds : PySem.Challenge.rw_lotledger_k10_entries_made.Holds := by
  w_on; o_law; k_head; (case hw => w_witness2)
  k_fill
  refine L2.walk_ofB (l := PySem.Challenge.rw_lotledger_k10_entries_made) (n := 63) (k := 8) (x := "_law_script") (CX := fun w => L2.CX PySem.Challenge.rw_lotledger_k10_entries_made.prog w) (sp := fun w => Mir.spF (Mir.txOf _ G.cnames) 1 G.f_law_k10z) rfl (by decide) rfl ⟨rfl, by decide, by decide⟩ (fun w h Y => PySem.W.kIn_of Y) ?F (fun _ _ a ns hl hb hO hS => L_k10_entries_made.law_end rfl hl hb hO hS) (fun _ _ _ _ _ h => Mir.cx_end h)
  case F =>
    intro w mg fa h KX G hmg
    refine' L_k10_entries_made.all_mk KX G hmg ?F__law_cell_at ?F__law_mixed ?F__law_cells ?F__law_digits ?F__law_entry ?F__law_fields ?F__law_kinds ?F_check_range ?F_is_ware ?F_check_ware ?F_checked_named ?F__law_made ?F_named_told ?F__law_right ?F__law_wares ?F__law_with_named ?F_law ?Z_all ?Z_enumerate ?Z_int ?Z_isinstance ?Z_len ?Z_list ?Z_max ?Z_min ?Z_range ?Z_set ?Z_sum ?Z_tuple ?C_LETTERS ?C_MOST_COST ?C_MOST_DAY ?C_MOST_PIECES ?C_MOST_PRICE ?N_NoEntry ?N_Parting ?N_Split ?N_Give ?N_Gift ?N_Sell ?N_Buy ?N_Entry ?A_NoEntry ?Rcl_Parting ?Rna_Parting_day ?Rcl_Split ?Rna_Split_day ?Rcl_Give ?Rna_Give_day ?Rcl_Gift ?Rna_Gift_day ?Rcl_Sell ?Rna_Sell_day ?Rcl_Buy ?Rna_Buy_day ?Rcl_Entry ?Rna_Entry_day ?Rna_Parting_number ?Rna_Split_number ?Rna_Give_number ?Rna_Gift_number ?Rna_Sell_number ?Rna_Buy_number ?Rna_Entry_number ?Rna_Parting_ware ?Rna_Split_ware ?Rna_Give_ware ?Rna_Gift_ware ?Rna_Sell_ware ?Rna_Buy_ware ?Rna_Entry_ware ?Rna_Buy_pieces ?Rna_Buy_price ?Rna_Buy_fee ?Rna_Buy_cost ?Rna_Gift_pieces ?Rna_Gift_cost ?Rna_Gift_since ?Rna_Split_many ?Rna_Split_of ?Rna_Parting_other ?Rna_Parting_share ?Rna_Parting_whole ?Rna_Sell_pieces ?Rna_Sell_price ?Rna_Sell_fee ?Rna_Sell_named ?Rna_Sell_proceeds ?Rna_Give_pieces ?Rna_Give_named ?Rif_Buy ?Rk_Buy_Gift ?Rif_Sell ?Rk_Sell_Gift ?Rif_Gift ?Rk_Gift_Gift ?Rif_Give ?Rk_Give_Gift ?Rif_Split ?Rk_Split_Gift ?Rif_Parting ?Rk_Parting_Gift ?Rk_Buy_Sell ?Rk_Sell_Sell ?Rk_Gift_Sell ?Rk_Give_Sell ?Rk_Split_Sell ?Rk_Parting_Sell ?Rk_Buy_Buy ?Rk_Sell_Buy ?Rk_Gift_Buy ?Rk_Give_Buy ?Rk_Split_Buy ?Rk_Parting_Buy ?Rk_Buy_Parting ?Rk_Sell_Parting ?Rk_Gift_Parting ?Rk_Give_Parting ?Rk_Split_Parting ?Rk_Parting_Parting ?Rk_Buy_Split ?Rk_Sell_Split ?Rk_Gift_Split ?Rk_Give_Split ?Rk_Split_Split ?Rk_Parting_Split ?Rk_Buy_Give ?Rk_Sell_Give ?Rk_Gift_Give ?Rk_Give_Give ?Rk_Split_Give ?Rk_Parting_Give ?Rk_Buy_Entry ?Rk_Sell_Entry ?Rk_Gift_Entry ?Rk_Give_Entry ?Rk_Split_Entry ?Rk_Parting_Entry ?Rmf_Entry_word ?Rmf_Buy_word ?Rmf_Sell_word ?Rmf_Gift_word ?Rmf_Give_word ?Rmf_Split_word ?Rmf_Parting_word ?Rmf_Buy_told ?Rmf_Sell_told ?Rmf_Gift_told ?Rmf_Give_told ?Rmf_Split_told ?Rmf_Parting_told ?Rnf_Buy ?Rnf_Gift ?Rnf_Split ?Rnf_Parting ?Rnf_Sell ?Rnf_Give ?Rsf_Entry_init ?Rsf_Entry_told
    (case F__law_cell_at => (refine' Mir.fn_fact ?a ?l ?c ?k; (case a => k_is); (case l => k_is); (case c => k_is); (case k => k_is)))
    (case F__law_mixed => (refine' Mir.fn_fact ?a ?l ?c ?k; (case a => k_is); (case l => k_is); (case c => k_is); (case k => k_is)))
    (case F__law_cells => (refine' Mir.fn_fact ?a ?l ?c ?k; (case a => k_is); (case l => k_is); (case c => k_is); (case k => k_is)))
    (case F__law_digits => (refine' Mir.fn_fact ?a ?l ?c ?k; (case a => k_is); (case l => k_is); (case c => k_is); (case k => k_is)))
    (case F__law_entry => (refine' Mir.fn_fact ?a ?l ?c ?k; (case a => k_is); (case l => k_is); (case c => k_is); (case k => k_is)))
    (case F__law_fields => (refine' Mir.fn_fact ?a ?l ?c ?k; (case a => k_is); (case l => k_is); (case c => k_is); (case k => k_is)))
    (case F__law_kinds => (refine' Mir.fn_fact ?a ?l ?c ?k; (case a => k_is); (case l => k_is); (case c => k_is); (case k => k_is)))
    (case F_check_range => (refine' Mir.fn_fact ?a ?l ?c ?k; (case a => k_is); (case l => k_is); (case c => k_is); (case k => k_is)))
    (case F_is_ware => (refine' Mir.fn_fact ?a ?l ?c ?k; (case a => k_is); (case l => k_is); (case c => k_is); (case k => k_is)))
    (case F_check_ware => (refine' Mir.fn_fact ?a ?l ?c ?k; (case a => k_is); (case l => k_is); (case c => k_is); (case k => k_is)))
    (case F_checked_named => (refine' Mir.fn_fact ?a ?l ?c ?k; (case a => k_is); (case l => k_is); (case c => k_is); (case k => k_is)))
    (case F__law_made => (refine' Mir.fn_fact ?a ?l ?c ?k; (case a => k_is); (case l => k_is); (case c => k_is); (case k => k_is)))
    (case F_named_told => (refine' Mir.fn_fact ?a ?l ?c ?k; (case a => k_is); (case l => k_is); (case c => k_is); (case k => k_is)))
    (case F__law_right => (refine' Mir.fn_fact ?a ?l ?c ?k; (case a => k_is); (case l => k_is); (case c => k_is); (case k => k_is)))
    (case F__law_wares => (refine' Mir.fn_fact ?a ?l ?c ?k; (case a => k_is); (case l => k_is); (case c => k_is); (case k => k_is)))
    (case F__law_with_named => (refine' Mir.fn_fact ?a ?l ?c ?k; (case a => k_is); (case l => k_is); (case c => k_is); (case k => k_is)))
    (case F_law => (refine' Mir.fn_fact ?a ?l ?c ?k; (case a => k_is); (case l => k_is); (case c => k_is); (case k => k_is)))
    (case Z_all => k_is)
    (case Z_enumerate => k_is)
    (case Z_int => k_is)
    (case Z_isinstance => k_is)
    (case Z_len => k_is)
    (case Z_list => k_is)
    (case Z_max => k_is)
    (case Z_min => k_is)
    (case Z_range => k_is)
    (case Z_set => k_is)
    (case Z_sum => k_is)
    (case Z_tuple => k_is)
    (case C_LETTERS => k_is)
    (case C_MOST_COST => k_is)
    (case C_MOST_DAY => k_is)
    (case C_MOST_PIECES => k_is)
    (case C_MOST_PRICE => k_is)
    (case N_NoEntry => k_is)
    (case N_Parting => k_is)
    (case N_Split => k_is)
    (case N_Give => k_is)
    (case N_Gift => k_is)
    (case N_Sell => k_is)
    (case N_Buy => k_is)
    (case N_Entry => k_is)
    (case A_NoEntry => (refine' ⟨?a, ?b, ?c, ?d⟩; (case a => k_exc); (case b => k_is); (case c => k_is); (case d => k_is)))
    (case Rcl_Parting => (refine' ⟨?a, ?b, ?c, ?d⟩; (case a => k_is); (case b => k_is); (case c => k_is); (case d => k_is)))
    (case Rna_Parting_day => (show PySem.W.findIn _ _ _ = _; k_is))
    (case Rcl_Split => (refine' ⟨?a, ?b, ?c, ?d⟩; (case a => k_is); (case b => k_is); (case c => k_is); (case d => k_is)))
    (case Rna_Split_day => (show PySem.W.findIn _ _ _ = _; k_is))
    (case Rcl_Give => (refine' ⟨?a, ?b, ?c, ?d⟩; (case a => k_is); (case b => k_is); (case c => k_is); (case d => k_is)))
    (case Rna_Give_day => (show PySem.W.findIn _ _ _ = _; k_is))
    (case Rcl_Gift => (refine' ⟨?a, ?b, ?c, ?d⟩; (case a => k_is); (case b => k_is); (case c => k_is); (case d => k_is)))
    (case Rna_Gift_day => (show PySem.W.findIn _ _ _ = _; k_is))
    (case Rcl_Sell => (refine' ⟨?a, ?b, ?c, ?d⟩; (case a => k_is); (case b => k_is); (case c => k_is); (case d => k_is)))
    (case Rna_Sell_day => (show PySem.W.findIn _ _ _ = _; k_is))
    (case Rcl_Buy => (refine' ⟨?a, ?b, ?c, ?d⟩; (case a => k_is); (case b => k_is); (case c => k_is); (case d => k_is)))
    (case Rna_Buy_day => (show PySem.W.findIn _ _ _ = _; k_is))
    (case Rcl_Entry => (refine' ⟨?a, ?b, ?c, ?d⟩; (case a => k_is); (case b => k_is); (case c => k_is); (case d => k_is)))
    (case Rna_Entry_day => (show PySem.W.findIn _ _ _ = _; k_is))
    (case Rna_Parting_number => (show PySem.W.findIn _ _ _ = _; k_is))
    (case Rna_Split_number => (show PySem.W.findIn _ _ _ = _; k_is))
    (case Rna_Give_number => (show PySem.W.findIn _ _ _ = _; k_is))
    (case Rna_Gift_number => (show PySem.W.findIn _ _ _ = _; k_is))
    (case Rna_Sell_number => (show PySem.W.findIn _ _ _ = _; k_is))
    (case Rna_Buy_number => (show PySem.W.findIn _ _ _ = _; k_is))
    (case Rna_Entry_number => (show PySem.W.findIn _ _ _ = _; k_is))
    (case Rna_Parting_ware => (show PySem.W.findIn _ _ _ = _; k_is))
    (case Rna_Split_ware => (show PySem.W.findIn _ _ _ = _; k_is))
    (case Rna_Give_ware => (show PySem.W.findIn _ _ _ = _; k_is))
    (case Rna_Gift_ware => (show PySem.W.findIn _ _ _ = _; k_is))
    (case Rna_Sell_ware => (show PySem.W.findIn _ _ _ = _; k_is))
    (case Rna_Buy_ware => (show PySem.W.findIn _ _ _ = _; k_is))
    (case Rna_Entry_ware => (show PySem.W.findIn _ _ _ = _; k_is))
    (case Rna_Buy_pieces => (show PySem.W.findIn _ _ _ = _; k_is))
    (case Rna_Buy_price => (show PySem.W.findIn _ _ _ = _; k_is))
    (case Rna_Buy_fee => (show PySem.W.findIn _ _ _ = _; k_is))
    (case Rna_Buy_cost => (show PySem.W.findIn _ _ _ = _; k_is))
    (case Rna_Gift_pieces => (show PySem.W.findIn _ _ _ = _; k_is))
    (case Rna_Gift_cost => (show PySem.W.findIn _ _ _ = _; k_is))
    (case Rna_Gift_since => (show PySem.W.findIn _ _ _ = _; k_is))
    (case Rna_Split_many => (show PySem.W.findIn _ _ _ = _; k_is))
    (case Rna_Split_of => (show PySem.W.findIn _ _ _ = _; k_is))
    (case Rna_Parting_other => (show PySem.W.findIn _ _ _ = _; k_is))
    (case Rna_Parting_share => (show PySem.W.findIn _ _ _ = _; k_is))
    (case Rna_Parting_whole => (show PySem.W.findIn _ _ _ = _; k_is))
    (case Rna_Sell_pieces => (show PySem.W.findIn _ _ _ = _; k_is))
    (case Rna_Sell_price => (show PySem.W.findIn _ _ _ = _; k_is))
    (case Rna_Sell_fee => (show PySem.W.findIn _ _ _ = _; k_is))
    (case Rna_Sell_named => (show PySem.W.findIn _ _ _ = _; k_is))
    (case Rna_Sell_proceeds => (show PySem.W.findIn _ _ _ = _; k_is))
    (case Rna_Give_pieces => (show PySem.W.findIn _ _ _ = _; k_is))
    (case Rna_Give_named => (show PySem.W.findIn _ _ _ = _; k_is))
    (case Rif_Buy => (refine' ⟨⟨?a, ?b, ?c, ?d⟩, ?e, ?f, ?g, ?h⟩; (case a => k_is); (case b => k_is); (case c => k_is); (case d => k_is); (case e => k_is); (case f => k_is); (case g => k_is); (case h => k_is)))
    (case Rk_Buy_Gift => kit_is)
    (case Rif_Sell => (refine' ⟨⟨?a, ?b, ?c, ?d⟩, ?e, ?f, ?g, ?h⟩; (case a => k_is); (case b => k_is); (case c => k_is); (case d => k_is); (case e => k_is); (case f => k_is); (case g => k_is); (case h => k_is)))
    (case Rk_Sell_Gift => kit_is)
    (case Rif_Gift => (refine' ⟨⟨?a, ?b, ?c, ?d⟩, ?e, ?f, ?g, ?h⟩; (case a => k_is); (case b => k_is); (case c => k_is); (case d => k_is); (case e => k_is); (case f => k_is); (case g => k_is); (case h => k_is)))
    (case Rk_Gift_Gift => kit_is)
    (case Rif_Give => (refine' ⟨⟨?a, ?b, ?c, ?d⟩, ?e, ?f, ?g, ?h⟩; (case a => k_is); (case b => k_is); (case c => k_is); (case d => k_is); (case e => k_is); (case f => k_is); (case g => k_is); (case h => k_is)))
    (case Rk_Give_Gift => kit_is)
    (case Rif_Split => (refine' ⟨⟨?a, ?b, ?c, ?d⟩, ?e, ?f, ?g, ?h⟩; (case a => k_is); (case b => k_is); (case c => k_is); (case d => k_is); (case e => k_is); (case f => k_is); (case g => k_is); (case h => k_is)))
    (case Rk_Split_Gift => kit_is)
    (case Rif_Parting => (refine' ⟨⟨?a, ?b, ?c, ?d⟩, ?e, ?f, ?g, ?h⟩; (case a => k_is); (case b => k_is); (case c => k_is); (case d => k_is); (case e => k_is); (case f => k_is); (case g => k_is); (case h => k_is)))
    (case Rk_Parting_Gift => kit_is)
    (case Rk_Buy_Sell => kit_is)
    (case Rk_Sell_Sell => kit_is)
    (case Rk_Gift_Sell => kit_is)
    (case Rk_Give_Sell => kit_is)
    (case Rk_Split_Sell => kit_is)
    (case Rk_Parting_Sell => kit_is)
    (case Rk_Buy_Buy => kit_is)
    (case Rk_Sell_Buy => kit_is)
    (case Rk_Gift_Buy => kit_is)
    (case Rk_Give_Buy => kit_is)
    (case Rk_Split_Buy => kit_is)
    (case Rk_Parting_Buy => kit_is)
    (case Rk_Buy_Parting => kit_is)
    (case Rk_Sell_Parting => kit_is)
    (case Rk_Gift_Parting => kit_is)
    (case Rk_Give_Parting => kit_is)
    (case Rk_Split_Parting => kit_is)
    (case Rk_Parting_Parting => kit_is)
    (case Rk_Buy_Split => kit_is)
    (case Rk_Sell_Split => kit_is)
    (case Rk_Gift_Split => kit_is)
    (case Rk_Give_Split => kit_is)
    (case Rk_Split_Split => kit_is)
    (case Rk_Parting_Split => kit_is)
    (case Rk_Buy_Give => kit_is)
    (case Rk_Sell_Give => kit_is)
    (case Rk_Gift_Give => kit_is)
    (case Rk_Give_Give => kit_is)
    (case Rk_Split_Give => kit_is)
    (case Rk_Parting_Give => kit_is)
    (case Rk_Buy_Entry => kit_is)
    (case Rk_Sell_Entry => kit_is)
    (case Rk_Gift_Entry => kit_is)
    (case Rk_Give_Entry => kit_is)
    (case Rk_Split_Entry => kit_is)
    (case Rk_Parting_Entry => kit_is)
    (case Rmf_Entry_word => (refine' Mir.meth_fact ?a ?b ?l ?c ?k; (case a => k_is); (case b => k_is); (case l => k_is); (case c => k_is); (case k => k_is)))
    (case Rmf_Buy_word => (refine' Mir.meth_fact ?a ?b ?l ?c ?k; (case a => k_is); (case b => k_is); (case l => k_is); (case c => k_is); (case k => k_is)))
    (case Rmf_Sell_word => (refine' Mir.meth_fact ?a ?b ?l ?c ?k; (case a => k_is); (case b => k_is); (case l => k_is); (case c => k_is); (case k => k_is)))
    (case Rmf_Gift_word => (refine' Mir.meth_fact ?a ?b ?l ?c ?k; (case a => k_is); (case b => k_is); (case l => k_is); (case c => k_is); (case k => k_is)))
    (case Rmf_Give_word => (refine' Mir.meth_fact ?a ?b ?l ?c ?k; (case a => k_is); (case b => k_is); (case l => k_is); (case c => k_is); (case k => k_is)))
    (case Rmf_Split_word => (refine' Mir.meth_fact ?a ?b ?l ?c ?k; (case a => k_is); (case b => k_is); (case l => k_is); (case c => k_is); (case k => k_is)))
    (case Rmf_Parting_word => (refine' Mir.meth_fact ?a ?b ?l ?c ?k; (case a => k_is); (case b => k_is); (case l => k_is); (case c => k_is); (case k => k_is)))
    (case Rmf_Buy_told => (refine' Mir.meth_fact ?a ?b ?l ?c ?k; (case a => k_is); (case b => k_is); (case l => k_is); (case c => k_is); (case k => k_is)))
    (case Rmf_Sell_told => (refine' Mir.meth_fact ?a ?b ?l ?c ?k; (case a => k_is); (case b => k_is); (case l => k_is); (case c => k_is); (case k => k_is)))
    (case Rmf_Gift_told => (refine' Mir.meth_fact ?a ?b ?l ?c ?k; (case a => k_is); (case b => k_is); (case l => k_is); (case c => k_is); (case k => k_is)))
    (case Rmf_Give_told => (refine' Mir.meth_fact ?a ?b ?l ?c ?k; (case a => k_is); (case b => k_is); (case l => k_is); (case c => k_is); (case k => k_is)))
    (case Rmf_Split_told => (refine' Mir.meth_fact ?a ?b ?l ?c ?k; (case a => k_is); (case b => k_is); (case l => k_is); (case c => k_is); (case k => k_is)))
    (case Rmf_Parting_told => (refine' Mir.meth_fact ?a ?b ?l ?c ?k; (case a => k_is); (case b => k_is); (case l => k_is); (case c => k_is); (case k => k_is)))
    (case Rnf_Buy => (refine' Mir.init_factD ?m ?a ?b ?e ?l ?t ?r (by intro z; cases z) ?c ?k; (case m => k_is); (case a => k_is); (case b => k_is); (case e => k_is); (case l => k_is); (case t => k_is); (case c => k_is); (case k => k_is); (case r => exact (.cons ⟨_, rfl⟩ .nil))))
    (case Rnf_Gift => (refine' Mir.init_fact ?m ?a ?b ?e ?l ?c ?k; (case m => k_is); (case a => k_is); (case b => k_is); (case e => k_is); (case l => k_is); (case c => k_is); (case k => k_is)))
    (case Rnf_Split => (refine' Mir.init_fact ?m ?a ?b ?e ?l ?c ?k; (case m => k_is); (case a => k_is); (case b => k_is); (case e => k_is); (case l => k_is); (case c => k_is); (case k => k_is)))
    (case Rnf_Parting => (refine' Mir.init_fact ?m ?a ?b ?e ?l ?c ?k; (case m => k_is); (case a => k_is); (case b => k_is); (case e => k_is); (case l => k_is); (case c => k_is); (case k => k_is)))
    (case Rnf_Sell => (refine' Mir.init_factD ?m ?a ?b ?e ?l ?t ?r (by intro z; cases z) ?c ?k; (case m => k_is); (case a => k_is); (case b => k_is); (case e => k_is); (case l => k_is); (case t => k_is); (case c => k_is); (case k => k_is); (case r => exact (.cons ⟨_, rfl⟩ (.cons rfl .nil)))))
    (case Rnf_Give => (refine' Mir.init_factD ?m ?a ?b ?e ?l ?t ?r (by intro z; cases z) ?c ?k; (case m => k_is); (case a => k_is); (case b => k_is); (case e => k_is); (case l => k_is); (case t => k_is); (case c => k_is); (case k => k_is); (case r => exact (.cons rfl .nil))))
    (case Rsf_Entry_init => (refine' Mir.sup_fact ?a ?b ?d ?l ?c ?k; (case a => k_is); (case b => k_is); (case d => k_is); (case l => k_is); (case c => k_is); (case k => k_is)))
    (case Rsf_Entry_told => (refine' Mir.sup_fact ?a ?b ?d ?l ?c ?k; (case a => k_is); (case b => k_is); (case d => k_is); (case l => k_is); (case c => k_is); (case k => k_is)))
