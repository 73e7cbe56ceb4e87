import PyProof.Rows.All
import Wide.All
import OpenK.AllK
import Wide.FinOn
import PyProof.EqAt
import PyProof.EqKinds
import PyProof.TupleCall
import HandS.ForMost
import HandS.ForExc
import HandS.IsInst
import HandS.TupAny
import HandS.TupMul
import HandS.Conv
import HandS.Flow
import HandS.Deep
import HandS.Lambda
import HandS.Nested
import HandS.ExcCtx
import HandS.Style
import HandS.Zip
import HandS.Ends
import HandS.SetFor
import HandS.Strs
import HandS.ExcOwn
import HandS.Hot
import HandS.HotCalls
import HandS.ExcIs
import HandS.Text
import HandS.EndTab
import HandS.FStr
import HandS.Iter
import HandS.Codes
import HandS.More
import HandS.NoneIn
import PyProof.ListStr
import HandS.ReplaceLit
import PySem.Challenge.RW_boxdays_k10_texts
set_option Elab.async false
set_option linter.all false
set_option maxRecDepth 100000
set_option maxHeartbeats 2000000
/-! The data layer: expressions and statements over plain data, above the hand layer's readings. -/
namespace Bx
open PySem PySem.Spec L2
open PyProof.Rows hiding St

/-! ### data -/
/-- plain data; ref: an object that may change, kept in the memory -/
inductive D where
  | non | bl (b : Bool) | int (i : Int) | str (x : Str) | tup (xs : List D) | lst (xs : List D) | fro (xs : List D) | ref (a : Addr)
  deriving Inhabited
/-- a lambda's words, the cells that it captured, its code object -/
structure LF where
  qual : Str
  params : Arguments
  body : Expr
  scope : Scope
  cl : List (Str × Addr)
  c : Addr
/-- a lambda made: its words, the values of its maker's slots -/
structure Clo where
  F : LF
  σ : L2.St
/-- the object at f is the lambda F -/
def LamO (f : Addr) (F : LF) : HO := .ext fun h => ∃ pm ctv : Value, h.get? f = some (PySem.W.kla_obj "<lambda>" F.qual F.params F.body F.scope F.cl pm F.c ctv)
/-- an object that may change; a lambda (s: the data of its maker's slots); a table of code objects -/
inductive MO where
  | lst (xs : List D)
  | ins (C dx : Addr) (fs : List (Str × D))
  | dK (kvs : List (Key × D))
  | clo (κ : Clo) (s : List (Option D))
  | tab (nm : Nat → Nat → Str)
abbrev Mem := Addr → Option MO
def updM (M : Mem) (a : Addr) (o : MO) : Mem := fun b => if b = a then some o else M b
theorem updM_same {M : Mem} {a : Addr} {o : MO} : updM M a o a = some o := if_pos rfl
theorem updM_ne {M : Mem} {a b : Addr} {o : MO} (h : b ≠ a) : updM M a o b = M b := if_neg h
theorem updM_updM {M : Mem} {a : Addr} {o u : MO} : updM (updM M a o) a u = updM M a u := by
  funext b; unfold updM; split <;> rfl
def delM (M : Mem) (a : Addr) : Mem := fun b => if b = a then none else M b
theorem delM_updM {M : Mem} {a : Addr} {o : MO} (h : M a = none) : delM (updM M a o) a = M := by
  funext b; unfold delM updM
  by_cases e : b = a
  · rw [if_pos e, e, h]
  · rw [if_neg e, if_neg e]

/-- the barred addresses: hidden ones, and those of objects that may change -/
def Bar (F : Addr → Prop) (M : Mem) (a : Addr) : Prop := F a ∨ ∃ o, M a = some o
/-- a list that stands still: the script, a list of the module's own -/
def SqF (K : PySem.W.Frag) (B : Addr → Prop) (H : Hp) (a : Addr) (xs : List V) : Prop := (H a = some (.lst xs) ∧ ¬ B a) ∨ (∃ o, H a = some (.frz o (.lst xs))) ∨
  ∃ (o : Obj) (its : Array Value) (n : Nat), K.lookup a = some o ∧ o.cls = .type "list" ∧ o.dict = none ∧ o.data = .seq its n ∧ its.size ≤ sizeLine ∧ Vals xs its.toList
theorem SqF.sql {K : PySem.W.Frag} {B : Addr → Prop} {H : Hp} {a : Addr} {xs : List V} (h : SqF K B H a xs) : SqL K H a xs := by
  rcases h with h | h | h
  · exact .inl (.inl h.1)
  · exact .inl (.inr h)
  · exact .inr h
mutual
inductive Rep (K : PySem.W.Frag) (B : Addr → Prop) (H : Hp) : V → D → Prop
  | non : Rep K B H .non .non
  | bl (b : Bool) : Rep K B H (.bl b) (.bl b)
  | int (i : Int) : Rep K B H (.int i) (.int i)
  | str (x : Str) : Rep K B H (.str x) (.str x)
  | tup {a : Addr} {xs : List V} {ds : List D} : SqT K H a xs → RepAll K B H xs ds → Rep K B H (.ref a) (.tup ds)
  | lst {a : Addr} {xs : List V} {ds : List D} : H a = some (.lst xs) → ¬ B a → RepAll K B H xs ds → Rep K B H (.ref a) (.lst ds)
  | fro {a : Addr} {xs : List V} {ds : List D} : SqF K B H a xs → RepAll K B H xs ds → Rep K B H (.ref a) (.fro ds)
  | ref (a : Addr) : Rep K B H (.ref a) (.ref a)
inductive RepAll (K : PySem.W.Frag) (B : Addr → Prop) (H : Hp) : List V → List D → Prop
  | nil : RepAll K B H [] []
  | cons {v : V} {vs : List V} {d : D} {ds : List D} : Rep K B H v d → RepAll K B H vs ds → RepAll K B H (v :: vs) (d :: ds)
end
def RepS (K : PySem.W.Frag) (B : Addr → Prop) (H : Hp) (σ : St) (δ : List (Option D)) : Prop :=
  σ.length = δ.length ∧ ∀ (i : Nat) (d : D), δ[i]? = some (some d) → ∃ v, σ[i]? = some (some v) ∧ Rep K B H v d
/-- an object that is no tuple -/
def NoTup (o : HO) : Prop := (∀ xs, o ≠ .tup xs) ∧ ∀ ob u, o ≠ .frz ob u
def RepO (K : PySem.W.Frag) (B : Addr → Prop) (H : Hp) (a : Addr) : MO → Prop
  | .lst ds => ∃ vs, H a = some (.lst vs) ∧ RepAll K B H vs ds
  | .ins C dx fs => ∃ gs, H a = some (.ins C dx gs) ∧ gs.map (·.1) = fs.map (·.1) ∧ RepAll K B H (gs.map (·.2)) (fs.map (·.2))
  | .dK kvs => ∃ gs, H a = some (.dK gs) ∧ gs.map (·.1) = kvs.map (·.1) ∧ RepAll K B H (gs.map (·.2)) (kvs.map (·.2))
  | .clo κ s => H a = some (LamO a κ.F) ∧ H κ.F.c = some (LamX.CodeO κ.F.c κ.F.qual) ∧ ¬ B κ.F.c ∧ RepS K B H κ.σ s
  | .tab nm => ∃ ps : Array Value, H a = some (.tbl ps) ∧ TriplesOk ps.toList ∧ ∀ (pos : Pos) (cv : Value), codeAmong pos ps.toList = some cv → ∃ c, cv = .ref c ∧ H c = some (LamX.CodeO c (nm pos.line pos.col)) ∧ ¬ B c
/-- the memory stands in the heap; the hidden objects are there -/
structure Wd (K : PySem.W.Frag) (F : Addr → Prop) (M : Mem) (H : Hp) : Prop where
  mem : ∀ a o, M a = some o → RepO K (Bar F M) H a o
  hid : ∀ a, F a → M a = none ∧ ∃ o, H a = some o ∧ NoTup o
/-- from one state to a later one -/
structure Ext (F : Addr → Prop) (M : Mem) (H : Hp) (M' : Mem) (H' : Hp) : Prop where
  keep : ∀ a o, H a = some o → (F a ∨ M a = none) → H' a = some o
  bar : ∀ a o, M' a = some o → (∃ o, M a = some o) ∨ H a = none
theorem Ext.refl (F : Addr → Prop) (M : Mem) (H : Hp) : Ext F M H M H := ⟨fun _ _ h _ => h, fun _ o h => .inl ⟨o, h⟩⟩
theorem Wd.tup {K : PySem.W.Frag} {F : Addr → Prop} {M : Mem} {H : Hp} (w : Wd K F M H) {a : Addr} {o : HO} (h : H a = some o) (n : ¬ NoTup o) : ¬ Bar F M a := by
  rintro (hf | ⟨m, hm⟩)
  · obtain ⟨_, u, e, nt⟩ := w.hid a hf
    rw [h] at e; cases e; exact n nt
  · have := w.mem a m hm
    cases m with
    | lst ds => obtain ⟨vs, e, _⟩ := this; rw [h] at e; cases e; exact n ⟨fun _ z => (by cases z), fun _ _ z => (by cases z)⟩
    | ins C dx fs => obtain ⟨gs, e, _⟩ := this; rw [h] at e; cases e; exact n ⟨fun _ z => (by cases z), fun _ _ z => (by cases z)⟩
    | dK kvs => obtain ⟨gs, e, _⟩ := this; rw [h] at e; cases e; exact n ⟨fun _ z => (by cases z), fun _ _ z => (by cases z)⟩
    | clo κ s => obtain ⟨e, _⟩ := this; rw [h] at e; unfold LamO at e; cases e; exact n ⟨fun _ z => (by cases z), fun _ _ z => (by cases z)⟩
    | tab nm => obtain ⟨ps, e, _⟩ := this; rw [h] at e; cases e; exact n ⟨fun _ z => (by cases z), fun _ _ z => (by cases z)⟩
theorem not_noTup_tup {xs : List V} : ¬ NoTup (.tup xs) := fun h => h.1 xs rfl
theorem not_noTup_frz {o : Obj} {u : HO} : ¬ NoTup (.frz o u) := fun h => h.2 o u rfl
theorem bar_none {F : Addr → Prop} {M : Mem} {a : Addr} (h : ¬ Bar F M a) : M a = none := by
  cases e : M a with
  | none => rfl
  | some o => exact absurd (.inr ⟨o, e⟩) h
theorem Ext.trans {F : Addr → Prop} {M M1 M2 : Mem} {H H1 H2 : Hp} {K : PySem.W.Frag} (w1 : Wd K F M1 H1) (a : Ext F M H M1 H1) (b : Ext F M1 H1 M2 H2) : Ext F M H M2 H2 where
  keep := fun c o h q => b.keep c o (a.keep c o h q) (by
    rcases q with q | q
    · exact .inl q
    · cases e : M1 c with
      | none => exact .inr rfl
      | some u =>
        rcases a.bar c u e with ⟨o', z⟩ | z
        · rw [q] at z; cases z
        · rw [h] at z; cases z)
  bar := fun c o h => by
    rcases b.bar c o h with ⟨u, z⟩ | z
    · exact a.bar c u z
    · cases e : H c with
      | none => exact .inr rfl
      | some u =>
        cases e2 : M c with
        | some m => exact .inl ⟨m, rfl⟩
        | none => rw [a.keep c u e (.inr e2)] at z; cases z
theorem SqT.ext {K : PySem.W.Frag} {F : Addr → Prop} {M M' : Mem} {H H' : Hp} {a : Addr} {xs : List V} (w : Wd K F M H) (e : Ext F M H M' H') (h : SqT K H a xs) : SqT K H' a xs := by
  rcases h with (h | ⟨o, h⟩) | h
  · exact .inl (.inl (e.keep _ _ h (.inr (bar_none (w.tup h not_noTup_tup)))))
  · exact .inl (.inr ⟨o, e.keep _ _ h (.inr (bar_none (w.tup h not_noTup_frz)))⟩)
  · exact .inr h
theorem Ext.nbar {F : Addr → Prop} {M M' : Mem} {H H' : Hp} {a : Addr} (e : Ext F M H M' H') (n : ¬ Bar F M a) (h : ∃ o, H a = some o) : ¬ Bar F M' a := by
  rintro (z | ⟨o, z⟩)
  · exact n (.inl z)
  · rcases e.bar a o z with z | z
    · exact n (.inr z)
    · obtain ⟨u, h⟩ := h; rw [h] at z; cases z
theorem SqT.st {K : PySem.W.Frag} {H H' : Hp} {a : Addr} {xs : List V} (k : ∀ a o, H a = some o → ¬ NoTup o → H' a = some o) (h : SqT K H a xs) : SqT K H' a xs := by
  rcases h with (h | ⟨o, h⟩) | h
  · exact .inl (.inl (k _ _ h not_noTup_tup))
  · exact .inl (.inr ⟨o, k _ _ h not_noTup_frz⟩)
  · exact .inr h
theorem SqF.ext {K : PySem.W.Frag} {F : Addr → Prop} {M M' : Mem} {H H' : Hp} {a : Addr} {xs : List V} (w : Wd K F M H) (e : Ext F M H M' H') (h : SqF K (Bar F M) H a xs) : SqF K (Bar F M') H' a xs := by
  rcases h with ⟨h, n⟩ | ⟨o, h⟩ | h
  · exact .inl ⟨e.keep _ _ h (.inr (bar_none n)), e.nbar n ⟨_, h⟩⟩
  · exact .inr (.inl ⟨o, e.keep _ _ h (.inr (bar_none (w.tup h not_noTup_frz)))⟩)
  · exact .inr (.inr h)
theorem SqF.st {K : PySem.W.Frag} {B B' : Addr → Prop} {H H' : Hp} {a : Addr} {xs : List V} (k : ∀ a o, H a = some o → (¬ B a ∨ ¬ NoTup o) → H' a = some o) (n : ∀ a, (∃ o, H a = some o) → ¬ B a → ¬ B' a) (h : SqF K B H a xs) : SqF K B' H' a xs := by
  rcases h with ⟨h, m⟩ | ⟨o, h⟩ | h
  · exact .inl ⟨k _ _ h (.inl m), n _ ⟨_, h⟩ m⟩
  · exact .inr (.inl ⟨o, k _ _ h (.inr not_noTup_frz)⟩)
  · exact .inr (.inr h)
theorem SqF.anti {K : PySem.W.Frag} {B B' : Addr → Prop} {H : Hp} {a : Addr} {xs : List V} (s : ∀ a, B' a → B a) (h : SqF K B H a xs) : SqF K B' H a xs := by
  rcases h with ⟨h, m⟩ | h
  · exact .inl ⟨h, fun z => m (s _ z)⟩
  · exact .inr h
mutual
/-- what data lean on: tuples and still lists, and lists that aren't barred -/
theorem Rep.st {K : PySem.W.Frag} {B B' : Addr → Prop} {H H' : Hp} (k : ∀ a o, H a = some o → (¬ B a ∨ ¬ NoTup o) → H' a = some o) (n : ∀ a, (∃ o, H a = some o) → ¬ B a → ¬ B' a) : ∀ (d : D) (v : V), Rep K B H v d → Rep K B' H' v d
  | .non, _, h => by cases h; exact .non
  | .bl _, _, h => by cases h; exact .bl _
  | .int _, _, h => by cases h; exact .int _
  | .str _, _, h => by cases h; exact .str _
  | .ref _, _, h => by cases h; exact .ref _
  | .tup ds, _, h => by
    cases h with
    | tup hs ha => exact .tup (SqT.st (fun a o h z => k a o h (.inr z)) hs) (RepAll.st k n ds _ ha)
  | .lst ds, _, h => by
    cases h with
    | lst hs nb ha => exact .lst (k _ _ hs (.inl nb)) (n _ ⟨_, hs⟩ nb) (RepAll.st k n ds _ ha)
  | .fro ds, _, h => by
    cases h with
    | fro hs ha => exact .fro (SqF.st k n hs) (RepAll.st k n ds _ ha)
theorem RepAll.st {K : PySem.W.Frag} {B B' : Addr → Prop} {H H' : Hp} (k : ∀ a o, H a = some o → (¬ B a ∨ ¬ NoTup o) → H' a = some o) (n : ∀ a, (∃ o, H a = some o) → ¬ B a → ¬ B' a) : ∀ (ds : List D) (vs : List V), RepAll K B H vs ds → RepAll K B' H' vs ds
  | [], _, h => by cases h; exact .nil
  | d :: ds, _, h => by
    cases h with
    | cons h1 h2 => exact .cons (Rep.st k n d _ h1) (RepAll.st k n ds _ h2)
end
theorem Ext.kst {K : PySem.W.Frag} {F : Addr → Prop} {M M' : Mem} {H H' : Hp} (w : Wd K F M H) (e : Ext F M H M' H') : ∀ a o, H a = some o → (¬ Bar F M a ∨ ¬ NoTup o) → H' a = some o := fun a o h q => e.keep a o h (.inr (bar_none (by
  rcases q with q | q
  · exact q
  · exact w.tup h q)))
theorem Ext.nst {F F' : Addr → Prop} {M M' : Mem} {H H' : Hp} (e : Ext F M H M' H') (hF : ∀ a, F' a → Bar F M a ∨ H a = none) : ∀ a, (∃ o, H a = some o) → ¬ Bar F M a → ¬ Bar F' M' a := fun a h n => by
  rintro (z | ⟨o, z⟩)
  · rcases hF a z with z | z
    · exact n z
    · obtain ⟨u, h⟩ := h; rw [h] at z; cases z
  · rcases e.bar a o z with z | z
    · exact n (.inr z)
    · obtain ⟨u, h⟩ := h; rw [h] at z; cases z
theorem Rep.extF {K : PySem.W.Frag} {F F' : Addr → Prop} {M M' : Mem} {H H' : Hp} (w : Wd K F M H) (e : Ext F M H M' H') (hF : ∀ a, F' a → Bar F M a ∨ H a = none) (d : D) (v : V) (h : Rep K (Bar F M) H v d) : Rep K (Bar F' M') H' v d := Rep.st (e.kst w) (e.nst hF) d v h
theorem RepAll.extF {K : PySem.W.Frag} {F F' : Addr → Prop} {M M' : Mem} {H H' : Hp} (w : Wd K F M H) (e : Ext F M H M' H') (hF : ∀ a, F' a → Bar F M a ∨ H a = none) (ds : List D) (vs : List V) (h : RepAll K (Bar F M) H vs ds) : RepAll K (Bar F' M') H' vs ds := RepAll.st (e.kst w) (e.nst hF) ds vs h
theorem Rep.ext {K : PySem.W.Frag} {F : Addr → Prop} {M M' : Mem} {H H' : Hp} (w : Wd K F M H) (e : Ext F M H M' H') (d : D) (v : V) (h : Rep K (Bar F M) H v d) : Rep K (Bar F M') H' v d := Rep.extF w e (fun _ h => .inl (.inl h)) d v h
theorem RepAll.ext {K : PySem.W.Frag} {F : Addr → Prop} {M M' : Mem} {H H' : Hp} (w : Wd K F M H) (e : Ext F M H M' H') (ds : List D) (vs : List V) (h : RepAll K (Bar F M) H vs ds) : RepAll K (Bar F M') H' vs ds := RepAll.extF w e (fun _ h => .inl (.inl h)) ds vs h
mutual
theorem Rep.anti {K : PySem.W.Frag} {B B' : Addr → Prop} {H : Hp} (s : ∀ a, B' a → B a) : ∀ (d : D) (v : V), Rep K B H v d → Rep K B' H v d
  | .non, _, h => by cases h; exact .non
  | .bl _, _, h => by cases h; exact .bl _
  | .int _, _, h => by cases h; exact .int _
  | .str _, _, h => by cases h; exact .str _
  | .ref _, _, h => by cases h; exact .ref _
  | .tup ds, _, h => by
    cases h with
    | tup hs ha => exact .tup hs (RepAll.anti s ds _ ha)
  | .lst ds, _, h => by
    cases h with
    | lst hs n ha => exact .lst hs (fun z => n (s _ z)) (RepAll.anti s ds _ ha)
  | .fro ds, _, h => by
    cases h with
    | fro hs ha => exact .fro (SqF.anti s hs) (RepAll.anti s ds _ ha)
theorem RepAll.anti {K : PySem.W.Frag} {B B' : Addr → Prop} {H : Hp} (s : ∀ a, B' a → B a) : ∀ (ds : List D) (vs : List V), RepAll K B H vs ds → RepAll K B' H vs ds
  | [], _, h => by cases h; exact .nil
  | d :: ds, _, h => by
    cases h with
    | cons h1 h2 => exact .cons (Rep.anti s d _ h1) (RepAll.anti s ds _ h2)
end
theorem RepAll.length {K : PySem.W.Frag} {B : Addr → Prop} {H : Hp} : ∀ {vs : List V} {ds : List D}, RepAll K B H vs ds → vs.length = ds.length
  | _, [], h => by cases h; rfl
  | _, _ :: ds, h => by
    cases h with
    | cons _ h2 => exact congrArg (· + 1) (RepAll.length h2)
theorem RepAll.get {K : PySem.W.Frag} {B : Addr → Prop} {H : Hp} : ∀ {vs : List V} {ds : List D} {i : Nat} {d : D}, RepAll K B H vs ds → ds[i]? = some d → ∃ v, vs[i]? = some v ∧ Rep K B H v d
  | _, [], _, _, _, e => by simp at e
  | _, x :: ds, 0, d, h, e => by
    cases h with
    | cons h1 h2 => simp at e; subst e; exact ⟨_, rfl, h1⟩
  | _, x :: ds, i + 1, d, h, e => by
    cases h with
    | cons h1 h2 =>
      obtain ⟨v, a, b⟩ := RepAll.get (i := i) (d := d) h2 (by simpa using e)
      exact ⟨v, by simpa using a, b⟩
theorem RepAll.append {K : PySem.W.Frag} {B : Addr → Prop} {H : Hp} : ∀ {vs us : List V} {ds es : List D}, RepAll K B H vs ds → RepAll K B H us es → RepAll K B H (vs ++ us) (ds ++ es)
  | _, _, [], _, h, g => by cases h; exact g
  | _, _, _ :: ds, _, h, g => by
    cases h with
    | cons h1 h2 => exact .cons h1 (RepAll.append h2 g)
theorem RepAll.drop {K : PySem.W.Frag} {B : Addr → Prop} {H : Hp} : ∀ (n : Nat) {vs : List V} {ds : List D}, RepAll K B H vs ds → RepAll K B H (vs.drop n) (ds.drop n)
  | 0, _, _, h => h
  | n + 1, _, [], h => by cases h; exact .nil
  | n + 1, _, _ :: ds, h => by
    cases h with
    | cons _ h2 => exact RepAll.drop n h2
theorem RepAll.take {K : PySem.W.Frag} {B : Addr → Prop} {H : Hp} : ∀ (n : Nat) {vs : List V} {ds : List D}, RepAll K B H vs ds → RepAll K B H (vs.take n) (ds.take n)
  | 0, _, _, h => .nil
  | n + 1, _, [], h => by cases h; exact .nil
  | n + 1, _, _ :: ds, h => by
    cases h with
    | cons h1 h2 => exact .cons h1 (RepAll.take n h2)
theorem RepAll.reverse {K : PySem.W.Frag} {B : Addr → Prop} {H : Hp} : ∀ {vs : List V} {ds : List D}, RepAll K B H vs ds → RepAll K B H vs.reverse ds.reverse
  | _, [], h => by cases h; exact .nil
  | _, _ :: ds, h => by
    cases h with
    | cons h1 h2 => rw [List.reverse_cons, List.reverse_cons]; exact RepAll.append (RepAll.reverse h2) (.cons h1 .nil)
theorem RepAll.set {K : PySem.W.Frag} {B : Addr → Prop} {H : Hp} {v : V} {d : D} (r : Rep K B H v d) : ∀ {vs : List V} {ds : List D} (i : Nat), RepAll K B H vs ds → RepAll K B H (vs.set i v) (ds.set i d)
  | _, [], _, h => by cases h; exact .nil
  | _, _ :: ds, 0, h => by
    cases h with
    | cons _ h2 => exact .cons r h2
  | _, _ :: ds, i + 1, h => by
    cases h with
    | cons h1 h2 => exact .cons h1 (RepAll.set r i h2)

/-! ### slots, wishes -/
/-- the slots' data, and what is wanted of an exception -/
structure DSt where
  s : List (Option D)
  x : Value → Mem → Prop
abbrev DK := D → Mem → Prop
abbrev DTE := DSt → Mem → DK → Prop
abbrev DTT := DSt → Mem → (Bool → Mem → Prop) → Prop
abbrev DTA := DSt → Mem → (List D → Mem → Prop) → Prop
structure DEnds where
  nx : DSt → Mem → Prop
  rt : DK
  bk : DSt → Mem → Prop := fun _ _ => False
  ct : DSt → Mem → Prop := fun _ _ => False
abbrev DTS := DEnds → DSt → Mem → Prop
theorem RepS.ext {K : PySem.W.Frag} {F : Addr → Prop} {M M' : Mem} {H H' : Hp} {σ : St} {δ : List (Option D)} (w : Wd K F M H) (e : Ext F M H M' H') (r : RepS K (Bar F M) H σ δ) : RepS K (Bar F M') H' σ δ :=
  ⟨r.1, fun i d h => let ⟨v, a, b⟩ := r.2 i d h; ⟨v, a, Rep.ext w e d v b⟩⟩
theorem RepS.st {K : PySem.W.Frag} {B B' : Addr → Prop} {H H' : Hp} (k : ∀ a o, H a = some o → (¬ B a ∨ ¬ NoTup o) → H' a = some o) (n : ∀ a, (∃ o, H a = some o) → ¬ B a → ¬ B' a) {σ : St} {δ : List (Option D)} (r : RepS K B H σ δ) : RepS K B' H' σ δ :=
  ⟨r.1, fun i d h => let ⟨v, a, b⟩ := r.2 i d h; ⟨v, a, Rep.st k n d v b⟩⟩
theorem RepS.anti {K : PySem.W.Frag} {B B' : Addr → Prop} {H : Hp} (s : ∀ a, B' a → B a) {σ : St} {δ : List (Option D)} (r : RepS K B H σ δ) : RepS K B' H σ δ :=
  ⟨r.1, fun i d h => let ⟨v, a, b⟩ := r.2 i d h; ⟨v, a, Rep.anti s d v b⟩⟩
theorem RepS.set {K : PySem.W.Frag} {B : Addr → Prop} {H : Hp} {σ : St} {δ : List (Option D)} {v : V} {d : D} (r : RepS K B H σ δ) (h : Rep K B H v d) (i : Nat) : RepS K B H (σ.set i (some v)) (δ.set i (some d)) := by
  refine ⟨by rw [List.length_set, List.length_set, r.1], fun j e q => ?_⟩
  by_cases hj : i = j
  · subst hj
    have hl : i < δ.length := by
      have := (List.getElem?_eq_some_iff.mp q).1
      rwa [List.length_set] at this
    rw [List.getElem?_set_self hl] at q
    cases q
    exact ⟨v, by rw [List.getElem?_set_self (by rw [r.1]; exact hl)], h⟩
  · rw [List.getElem?_set_ne hj] at q
    rw [List.getElem?_set_ne hj]
    exact r.2 j e q
/-- the state: slots, memory, heap -/
structure Sm (K : PySem.W.Frag) (F : Addr → Prop) (H : Hp) (σ : St) (δ : List (Option D)) (M : Mem) : Prop where
  sl : RepS K (Bar F M) H σ δ
  wd : Wd K F M H
theorem Sm.ext {K : PySem.W.Frag} {F : Addr → Prop} {M M' : Mem} {H H' : Hp} {σ : St} {δ : List (Option D)} (s : Sm K F H σ δ M) (w : Wd K F M' H') (e : Ext F M H M' H') : Sm K F H' σ δ M' := ⟨s.sl.ext s.wd e, w⟩

/-- an exception of the class C with a dict of its own is wished for as .int C -/
def XOk (x : Value → Mem → Prop) (cls : Value) (dd : Option Addr) (H : Hp) (M : Mem) : Prop :=
  (dd = none ∧ x cls M) ∨ ∃ (C d : Addr) (fs : List (Str × V)), cls = .ref C ∧ dd = some d ∧ H d = some (.xd fs) ∧ x (.int (C : Nat) 0) M
def LkX (K : PySem.W.Frag) (E : XK) (F : Addr → Prop) (M : Mem) (H : Hp) (x : Value → Mem → Prop) : Prop :=
  ∀ cls dd H' M', Wd K F M' H' → Ext F M H M' H' → XOk x cls dd H' M' → E cls dd H'
theorem xok_no {cls : Value} {dd : Option Addr} {H : Hp} {M : Mem} (h : XOk (fun _ _ => False) cls dd H M) : False := by
  rcases h with ⟨_, z⟩ | ⟨_, _, _, _, _, _, z⟩ <;> exact z
def liftE (K : PySem.W.Frag) (E : XK) (w : DTE) : TE := fun σ H Q' => ∃ F δ M Q, Sm K F H σ δ.s M ∧ LkX K E F M H δ.x ∧ w δ M Q ∧
  ∀ v H' d M', Rep K (Bar F M') H' v d → Wd K F M' H' → Ext F M H M' H' → Q d M' → Q' v H'
def liftT (K : PySem.W.Frag) (E : XK) (w : DTT) : TT := fun σ H Q' => ∃ F δ M Q, Sm K F H σ δ.s M ∧ LkX K E F M H δ.x ∧ w δ M Q ∧
  ∀ b H' M', Wd K F M' H' → Ext F M H M' H' → Q b M' → Q' b H'
def liftA (K : PySem.W.Frag) (E : XK) (w : DTA) : TA := fun σ H Q' => ∃ F δ M Q, Sm K F H σ δ.s M ∧ LkX K E F M H δ.x ∧ w δ M Q ∧
  ∀ vs H' ds M', RepAll K (Bar F M') H' vs ds → Wd K F M' H' → Ext F M H M' H' → Q ds M' → Q' vs H'
/-- a state's wish behind a statement -/
def LkN (K : PySem.W.Frag) (E : XK) (F : Addr → Prop) (M : Mem) (H : Hp) (x : Value → Mem → Prop) (n : DSt → Mem → Prop) (m : St → Hp → Prop) : Prop :=
  ∀ σ' H' δ' M', Sm K F H' σ' δ'.s M' → Ext F M H M' H' → δ'.x = x → n δ' M' → m σ' H'
structure LkD (K : PySem.W.Frag) (E : XK) (F : Addr → Prop) (M : Mem) (H : Hp) (x : Value → Mem → Prop) (Dd : DEnds) (Dh : Ends) : Prop where
  nx : LkN K E F M H x Dd.nx Dh.nx
  rt : ∀ v H' d M', Rep K (Bar F M') H' v d → Wd K F M' H' → Ext F M H M' H' → Dd.rt d M' → Dh.rt v H'
  bk : LkN K E F M H x Dd.bk Dh.bk
  ct : LkN K E F M H x Dd.ct Dh.ct
def liftS (K : PySem.W.Frag) (E : XK) (w : DTS) : TS := fun Dh σ H => ∃ F δ M Dd, Sm K F H σ δ.s M ∧ LkX K E F M H δ.x ∧ LkD K E F M H δ.x Dd Dh ∧ w Dd δ M
theorem LkX.ext {K : PySem.W.Frag} {E : XK} {F : Addr → Prop} {M M' : Mem} {H H' : Hp} {x : Value → Mem → Prop} (l : LkX K E F M H x) (w : Wd K F M' H') (e : Ext F M H M' H') : LkX K E F M' H' x :=
  fun cls dd H2 M2 w2 e2 q => l cls dd H2 M2 w2 (Ext.trans w e e2) q
theorem LkN.ext {K : PySem.W.Frag} {E : XK} {F : Addr → Prop} {M M' : Mem} {H H' : Hp} {x : Value → Mem → Prop} {n : DSt → Mem → Prop} {m : St → Hp → Prop} (l : LkN K E F M H x n m) (w : Wd K F M' H') (e : Ext F M H M' H') : LkN K E F M' H' x n m :=
  fun σ2 H2 δ2 M2 s e2 ex q => l σ2 H2 δ2 M2 s (Ext.trans w e e2) ex q
theorem LkD.ext {K : PySem.W.Frag} {E : XK} {F : Addr → Prop} {M M' : Mem} {H H' : Hp} {x : Value → Mem → Prop} {Dd : DEnds} {Dh : Ends} (l : LkD K E F M H x Dd Dh) (w : Wd K F M' H') (e : Ext F M H M' H') : LkD K E F M' H' x Dd Dh :=
  ⟨l.nx.ext w e, fun v H2 d M2 r w2 e2 q => l.rt v H2 d M2 r w2 (Ext.trans w e e2) q, l.bk.ext w e, l.ct.ext w e⟩

/-! ### judgements -/
abbrev DE (X : Cx) (E : XK) (e : Expr) (w : DTE) : Prop := PE X e (liftE X.K E w)
abbrev DT (X : Cx) (E : XK) (e : Expr) (w : DTT) : Prop := PT X e (liftT X.K E w)
abbrev DW (X : Cx) (E : XK) (e : Expr) (w : DTT) : Prop := PW X e (liftT X.K E w)
abbrev DA (X : Cx) (E : XK) (es : List Expr) (w : DTA) : Prop := PA X es (liftA X.K E w)
abbrev DS (X : Cx) (E : XK) (st : Stmt) (w : DTS) : Prop := PS X st (liftS X.K E w)
abbrev DSs (X : Cx) (E : XK) (st : List Stmt) (w : DTS) : Prop := PSs X st (liftS X.K E w)
theorem pe_mono {X : Cx} {e : Expr} {t t' : TE} (h : PE X e t) (m : ∀ σ H Q, t' σ H Q → t σ H Q) : PE X e t' := ⟨fun pins s σ H Q I q => h.run pins s σ H Q I (m σ H Q q)⟩
theorem pt_mono {X : Cx} {e : Expr} {t t' : TT} (h : PT X e t) (m : ∀ σ H Q, t' σ H Q → t σ H Q) : PT X e t' := ⟨fun pins s σ H Q I q => h.run pins s σ H Q I (m σ H Q q)⟩
theorem pw_mono {X : Cx} {e : Expr} {t t' : TT} (h : PW X e t) (m : ∀ σ H Q, t' σ H Q → t σ H Q) : PW X e t' := ⟨fun W pins s σ H Q I q => h.run W pins s σ H Q I (m σ H Q q)⟩
theorem pa_mono {X : Cx} {e : List Expr} {t t' : TA} (h : PA X e t) (m : ∀ σ H Q, t' σ H Q → t σ H Q) : PA X e t' := ⟨fun pos pins s σ H Q I q => h.run pos pins s σ H Q I (m σ H Q q)⟩
theorem ps_mono {X : Cx} {e : Stmt} {t t' : TS} (h : PS X e t) (m : ∀ D σ H, t' D σ H → t D σ H) : PS X e t' := ⟨fun pins s σ H D I q => h.run pins s σ H D I (m D σ H q)⟩
theorem pss_mono {X : Cx} {e : List Stmt} {t t' : TS} (h : PSs X e t) (m : ∀ D σ H, t' D σ H → t D σ H) : PSs X e t' := ⟨fun pins s σ H D I q => h.run pins s σ H D I (m D σ H q)⟩

/-- what a body's context has -/
structure DX (X : Cx) (E : XK) (k : Nat) : Prop where
  calm : X.calm = true
  po : PassesOwn (model X.prog X.w) X.A X.env X.xe
  pass : Passes (L2N.CX X.prog X.w) X E
  tk : L2N.Takes X fun cls d _ H => E cls d H
  nd : X.N.Nodup
  room : Room k X.A
abbrev E0 : XK := fun _ _ _ => False
theorem takes_false {X : Cx} : L2N.Takes X (fun _ _ _ _ => False) := fun _ _ x => by
  obtain ⟨_, _, _, _, _, _, _, _, _, _, _, _, _, _, _, _, z⟩ := x
  exact z.elim
theorem DX.blk {X : Cx} {E : XK} {k : Nat} (h : DX X E k) (s : Shared) (H : Hp) (scope : Scope) (cenv : Env) (fp : List Addr) : DX (X.blk s H scope cenv fp) E0 k where
  calm := h.calm
  po := PassesOwn.never
  pass := L2N.passes_call takes_false fun _ _ _ _ z => z
  tk := takes_false
  nd := h.nd
  room := h.room
theorem DX.mono {X : Cx} {E : XK} {j k : Nat} (h : DX X E k) (l : j ≤ k) : DX X E j := ⟨h.calm, h.po, h.pass, h.tk, h.nd, h.room.mono l⟩
/-- the built-in names are the built-ins -/
def Blt (mg : Str → Option Value) (x : Str) : Prop := mg x = none

section
variable {X : Cx} {E : XK} {k : Nat} {a b c e : Expr} {wa wb wc : DTE} {pos : Pos}

/-! ### names, constants -/
def wVar (i : Nat) : DTE := fun δ M Q => match δ.s[i]? with | some (some d) => Q d M | _ => False
theorem dv (i : Nat) {x : Str} {pos : Pos} (hN : X.N[i]? = some x := by rfl) (hv : Vis X.env.scope x := by first | exact Or.inl rfl | exact Or.inr (Or.inl rfl) | exact Or.inr (Or.inr rfl)) (hd : (x == ("__debug__" : Str)) = false := by decide)
    (hcd : (x == ("__classdict__" : Str)) = false := by decide) : DE X E (.Name x pos) (wVar i) := by
  refine pe_mono (pv i hN hv hd hcd) fun σ H Q' h => ?_
  obtain ⟨F, δ, M, Q, sm, lx, hw, lk⟩ := h
  unfold wVar at hw
  split at hw
  · rename_i d hd
    obtain ⟨v, h1, r⟩ := sm.sl.2 i d hd
    exact ⟨v, h1, lk v H d M r sm.wd (.refl _ _ _) hw⟩
  · exact hw.elim
def wC (d : D) : DTE := fun _ M Q => Q d M
theorem dc_of {v : V} {d : D} (h : PE X e (tC v)) (r : ∀ K B H, Rep K B H v d) : DE X E e (wC d) :=
  pe_mono h fun σ H Q' ⟨F, δ, M, Q, sm, lx, hw, lk⟩ => lk v H d M (r _ _ _) sm.wd (.refl _ _ _) hw
theorem dint {i j pos} : DE X E (.Constant (.int i) j pos) (wC (.int i)) := dc_of pe_int fun _ _ _ => .int _
theorem dbl {b j pos} : DE X E (.Constant (.bool b) j pos) (wC (.bl b)) := dc_of pe_bl fun _ _ _ => .bl _
theorem dnon {j pos} : DE X E (.Constant .none j pos) (wC .non) := dc_of pe_non fun _ _ _ => .non
theorem dstr {x j pos} : DE X E (.Constant (.str x) j pos) (wC (.str x)) := dc_of pe_str fun _ _ _ => .str _
/-- a global constant -/
theorem dglob {x : Str} {pos : Pos} {u : Value} {v : V} {d : D} (hg : Gl X x) (hm : X.mg x = some u) (r : RelV v u) (rd : ∀ K B H, Rep K B H v d) (hdb : (x == ("__debug__" : Str)) = false := by decide) : DE X E (.Name x pos) (wC d) := dc_of (pe_glob hg hm r hdb) rd

/-! ### argument lists -/
def wNil : DTA := fun _ M Q => Q [] M
def wCons (wa : DTE) (wr : DTA) : DTA := fun δ M Q => wa δ M fun d M1 => wr δ M1 fun ds M2 => Q (d :: ds) M2
theorem da_nil : DA X E [] wNil := pa_mono pa_nil fun σ H Q' ⟨F, δ, M, Q, sm, lx, hw, lk⟩ => lk [] H [] M .nil sm.wd (.refl _ _ _) hw
theorem da_cons {es : List Expr} {wr : DTA} (ha : DE X E e wa) (hr : DA X E es wr) (hs : starEach (e :: es) X.env = (false, eval e X.env) :: starEach es X.env := by rfl) : DA X E (e :: es) (wCons wa wr) := by
  refine pa_mono (pa_cons ha hr hs) fun σ H Q' ⟨F, δ, M, Q, sm, lx, hw, lk⟩ => ?_
  refine ⟨F, δ, M, _, sm, lx, hw, fun v H1 d M1 r1 w1 e1 q1 => ?_⟩
  refine ⟨F, δ, M1, _, sm.ext w1 e1, lx.ext w1 e1, q1, fun vs H2 ds M2 r2 w2 e2 q2 => ?_⟩
  exact lk (v :: vs) H2 (d :: ds) M2 (.cons (Rep.ext w1 e2 d v r1) r2) w2 (Ext.trans w1 e1 e2) q2

/-! ### two and one operands, by values -/
abbrev DR2 := D → D → Mem → DK → Prop
/-- what the reading r of an operation gives for data -/
def OkR (K : PySem.W.Frag) (r : R2) (w : DR2) : Prop := ∀ F M H x y d1 d2 (Q : DK) (Q' : VK), Wd K F M H → Rep K (Bar F M) H x d1 → Rep K (Bar F M) H y d2 → w d1 d2 M Q →
  (∀ v H' d M', Rep K (Bar F M') H' v d → Wd K F M' H' → Ext F M H M' H' → Q d M' → Q' v H') → r x y H Q'
def wOp (w : DR2) (wa wb : DTE) : DTE := fun δ M Q => wa δ M fun x M1 => wb δ M1 fun y M2 => w x y M2 Q
theorem lift_op {K : PySem.W.Frag} {r : R2} {w : DR2} (ok : OkR K r w) {σ : St} {H : Hp} {Q' : VK} (h : liftE K E (wOp w wa wb) σ H Q') : tOp r (liftE K E wa) (liftE K E wb) σ H Q' := by
  obtain ⟨F, δ, M, Q, sm, lx, hw, lk⟩ := h
  refine ⟨F, δ, M, _, sm, lx, hw, fun v H1 d M1 r1 w1 e1 q1 => ?_⟩
  refine ⟨F, δ, M1, _, sm.ext w1 e1, lx.ext w1 e1, q1, fun u H2 d2 M2 r2 w2 e2 q2 => ?_⟩
  exact ok F M2 H2 v u d d2 Q Q' w2 (Rep.ext w1 e2 d v r1) r2 q2 fun v' H' d' M' r3 w3 e3 q3 => lk v' H' d' M' r3 w3 (Ext.trans w1 e1 (Ext.trans w2 e2 e3)) q3
theorem de_op {op : Operator} {r : R2} {w : DR2} (ho : OpR X (binaryOp op) r) (ok : OkR X.K r w) (ha : DE X E a wa) (hb : DE X E b wb) : DE X E (.BinOp a op b pos) (wOp w wa wb) :=
  pe_mono (pe_op ho ha hb) fun _ _ _ h => lift_op ok h
theorem de_cmp {op : CmpOp} {r : R2} {w : DR2} (ho : OpR X (compareOp op) r) (ok : OkR X.K r w) (ha : DE X E a wa) (hb : DE X E b wb) (hm : behindInMarks op b = false) : DE X E (.Compare a [op] [b] pos) (wOp w wa wb) :=
  pe_mono (pe_cmpR ho ha hb hm) fun _ _ _ h => lift_op ok h
/-- a value as a test -/
def wTest (w : DTE) : DTT := fun δ M Q => w δ M fun d M1 => match d with | .bl k => Q k M1 | _ => False
theorem lift_test {K : PySem.W.Frag} {w : DTE} {σ : St} {H : Hp} {Q' : Bool → Hp → Prop} (h : liftT K E (wTest w) σ H Q') : tTest (liftE K E w) σ H Q' := by
  obtain ⟨F, δ, M, Q, sm, lx, hw, lk⟩ := h
  refine ⟨F, δ, M, _, sm, lx, hw, fun v H1 d M1 r1 w1 e1 q1 => ?_⟩
  cases d with
  | bl k => cases r1; exact ⟨k, rfl, lk k H1 M1 w1 e1 q1⟩
  | _ => exact (show False from q1).elim
theorem dt_cmp {op : CmpOp} {r : R2} {w : DR2} (ho : OpR X (compareOp op) r) (ok : OkR X.K r w) (ha : DE X E a wa) (hb : DE X E b wb) (hm : behindInMarks op b = false) : DT X E (.Compare a [op] [b] pos) (wTest (wOp w wa wb)) :=
  pt_mono (pt_cmpR ho ha hb hm) fun σ H Q' h => by
    obtain ⟨F, δ, M, Q, sm, lx, hw, lk⟩ := lift_test h
    exact lift_op ok ⟨F, δ, M, Q, sm, lx, hw, lk⟩
end
end Bx

set_option Elab.async false
set_option linter.all false
set_option maxRecDepth 100000
set_option maxHeartbeats 2000000
namespace Bx
open PySem PySem.Spec L2
open PyProof.Rows hiding St

/-! ### equality of data -/
mutual
/-- == -/
def D.eqv : D → D → Bool
  | .non, .non => true
  | .bl a, .bl b => a == b
  | .bl a, .int j => (if a then 1 else 0) == j
  | .int i, .bl b => i == (if b then 1 else 0)
  | .int i, .int j => i == j
  | .str x, .str y => x == y
  | .lst xs, .lst ys => D.eqvAll xs ys
  | .tup xs, .tup ys => D.eqvAll xs ys
  | _, _ => false
def D.eqvAll : List D → List D → Bool
  | [], [] => true
  | x :: xs, y :: ys => D.eqv x y && D.eqvAll xs ys
  | _, _ => false
end
mutual
/-- no ref, texts of true signs, at most n deep -/
def D.fit : Nat → D → Bool
  | _, .non | _, .bl _ | _, .int _ => true
  | _, .str x => PyData.strOk x
  | n + 1, .tup xs | n + 1, .lst xs => D.fitAll n xs
  | _, _ => false
def D.fitAll : Nat → List D → Bool
  | _, [] => true
  | n, x :: xs => D.fit n x && D.fitAll n xs
end
mutual
def D.py : D → PyData
  | .non => .none
  | .bl b => .bool b
  | .int i => .int i
  | .str x => .str x
  | .tup xs => .tuple (D.pyAll xs)
  | .lst xs => .list (D.pyAll xs)
  | .fro xs => .list (D.pyAll xs)
  | .ref _ => .none
def D.pyAll : List D → List PyData
  | [] => []
  | x :: xs => D.py x :: D.pyAll xs
end
mutual
theorem D.py_fit : ∀ (n : Nat) (d : D), D.fit n d = true → (D.py d).canLay0 = true ∧ (D.py d).depth ≤ n
  | n, .non, _ => by simp [D.py, PyData.canLay0, PyData.depth]
  | n, .bl _, _ => by simp [D.py, PyData.canLay0, PyData.depth]
  | n, .int _, _ => by simp [D.py, PyData.canLay0, PyData.depth]
  | n, .str x, h => by
    have h' : PyData.strOk x = true := by simpa [D.fit] using h
    simp [D.py, PyData.canLay0, PyData.depth, h']
  | n + 1, .tup xs, h => by
    have h' := D.py_fitAll n xs (by simpa [D.fit] using h)
    simp only [D.py, PyData.canLay0, PyData.depth]
    exact ⟨h'.1, by omega⟩
  | n + 1, .lst xs, h => by
    have h' := D.py_fitAll n xs (by simpa [D.fit] using h)
    simp only [D.py, PyData.canLay0, PyData.depth]
    exact ⟨h'.1, by omega⟩
  | 0, .tup xs, h => by simp [D.fit] at h
  | 0, .lst xs, h => by simp [D.fit] at h
  | 0, .fro xs, h => by simp [D.fit] at h
  | n + 1, .fro xs, h => by simp [D.fit] at h
  | 0, .ref xs, h => by simp [D.fit] at h
  | n + 1, .ref xs, h => by simp [D.fit] at h
theorem D.py_fitAll : ∀ (n : Nat) (ds : List D), D.fitAll n ds = true → PyData.canLayAll0 (D.pyAll ds) = true ∧ PyData.depthAll (D.pyAll ds) ≤ n
  | n, [], _ => by simp [D.pyAll, PyData.canLayAll0, PyData.depthAll]
  | n, x :: xs, h => by
    have h' : D.fit n x = true ∧ D.fitAll n xs = true := by simpa [D.fitAll] using h
    have h1 := D.py_fit n x h'.1
    have h2 := D.py_fitAll n xs h'.2
    simp only [D.pyAll, PyData.canLayAll0, PyData.depthAll, h1.1, h2.1, Bool.and_self, true_and]
    omega
end
mutual
theorem D.eqv_py : ∀ (n : Nat) (x y : D), D.fit n x = true → D.fit n y = true → PyData.eqv (D.py x) (D.py y) = D.eqv x y
  | n, .non, y, hx, hy => by cases y <;> first | (simp [D.py, D.eqv, PyData.eqv]; done) | (cases n <;> simp [D.fit] at hy)
  | n, .bl b, y, hx, hy => by cases y <;> first | (simp [D.py, D.eqv, PyData.eqv]; done) | (cases n <;> simp [D.fit] at hy)
  | n, .int b, y, hx, hy => by cases y <;> first | (simp [D.py, D.eqv, PyData.eqv]; done) | (cases n <;> simp [D.fit] at hy)
  | n, .str b, y, hx, hy => by cases y <;> first | (simp [D.py, D.eqv, PyData.eqv]; done) | (cases n <;> simp [D.fit] at hy)
  | 0, .tup xs, y, hx, hy => by simp [D.fit] at hx
  | 0, .lst xs, y, hx, hy => by simp [D.fit] at hx
  | n + 1, .tup xs, y, hx, hy => by
    cases y with
    | tup ys =>
      simp only [D.py, D.eqv, PyData.eqv]
      exact D.eqv_pyAll n xs ys (by simpa [D.fit] using hx) (by simpa [D.fit] using hy)
    | _ => first | (simp [D.py, D.eqv, PyData.eqv]; done) | simp [D.fit] at hy
  | n + 1, .lst xs, y, hx, hy => by
    cases y with
    | lst ys =>
      simp only [D.py, D.eqv, PyData.eqv]
      exact D.eqv_pyAll n xs ys (by simpa [D.fit] using hx) (by simpa [D.fit] using hy)
    | _ => first | (simp [D.py, D.eqv, PyData.eqv]; done) | simp [D.fit] at hy
  | n, .fro xs, y, hx, hy => by cases n <;> simp [D.fit] at hx
  | n, .ref xs, y, hx, hy => by cases n <;> simp [D.fit] at hx
theorem D.eqv_pyAll : ∀ (n : Nat) (xs ys : List D), D.fitAll n xs = true → D.fitAll n ys = true → PyData.eqvAll (D.pyAll xs) (D.pyAll ys) = D.eqvAll xs ys
  | n, [], [], _, _ => by simp [D.pyAll, D.eqvAll, PyData.eqvAll]
  | n, [], y :: ys, _, _ => by simp [D.pyAll, D.eqvAll, PyData.eqvAll]
  | n, x :: xs, [], _, _ => by simp [D.pyAll, D.eqvAll, PyData.eqvAll]
  | n, x :: xs, y :: ys, hx, hy => by
    have hx' : D.fit n x = true ∧ D.fitAll n xs = true := by simpa [D.fitAll] using hx
    have hy' : D.fit n y = true ∧ D.fitAll n ys = true := by simpa [D.fitAll] using hy
    simp only [D.pyAll, D.eqvAll, PyData.eqvAll, D.eqv_py n x y hx'.1 hy'.1, D.eqv_pyAll n xs ys hx'.2 hy'.2]
end
theorem D.shaped {d : D} (h : D.fit 64 d = true) : SeqAt.shaped (D.py d) = true := by
  obtain ⟨a, b⟩ := D.py_fit 64 d h
  unfold SeqAt.shaped
  rw [a, decide_eq_true b]; rfl
mutual
theorem Rep.dp {K : PySem.W.Frag} {B : Addr → Prop} {H : Hp} : ∀ (n : Nat) (d : D) (v : V), D.fit n d = true → Rep K B H v d → Dp K H v (D.py d)
  | n, .non, _, _, h => by cases h; simp only [D.py]; exact .non
  | n, .bl b, _, _, h => by cases h; simp only [D.py]; exact .bl b
  | n, .int b, _, _, h => by cases h; simp only [D.py]; exact .int b
  | n, .str b, _, _, h => by cases h; simp only [D.py]; exact .str b
  | n + 1, .tup ds, _, hf, h => by
    cases h with
    | tup hs ha => simp only [D.py]; exact .tup hs (RepAll.dp n ds _ (by simpa [D.fit] using hf) ha)
  | n + 1, .lst ds, _, hf, h => by
    cases h with
    | lst hs _ ha => simp only [D.py]; exact .lst (.of hs) (RepAll.dp n ds _ (by simpa [D.fit] using hf) ha)
  | 0, .tup xs, _, h, _ => by simp [D.fit] at h
  | 0, .lst xs, _, h, _ => by simp [D.fit] at h
  | n, .fro xs, _, h, _ => by cases n <;> simp [D.fit] at h
  | n, .ref xs, _, h, _ => by cases n <;> simp [D.fit] at h
theorem RepAll.dp {K : PySem.W.Frag} {B : Addr → Prop} {H : Hp} : ∀ (n : Nat) (ds : List D) (vs : List V), D.fitAll n ds = true → RepAll K B H vs ds → DpAll K H vs (D.pyAll ds)
  | n, [], _, _, h => by cases h; simp only [D.pyAll]; exact .nil
  | n, d :: ds, _, hf, h => by
    have hf' : D.fit n d = true ∧ D.fitAll n ds = true := by simpa [D.fitAll] using hf
    cases h with
    | cons h1 h2 => simp only [D.pyAll]; exact .cons (Rep.dp n d _ hf'.1 h1) (RepAll.dp n ds _ hf'.2 h2)
end

/-! ### new objects -/
theorem Wd.fresh {K : PySem.W.Frag} {F : Addr → Prop} {M : Mem} {H : Hp} {p : Addr} (w : Wd K F M H) (n : H p = none) : ¬ Bar F M p := by
  rintro (hf | ⟨m, hm⟩)
  · obtain ⟨_, u, e, _⟩ := w.hid p hf
    rw [n] at e; cases e
  · have := w.mem p m hm
    cases m with
    | lst ds => obtain ⟨vs, e, _⟩ := this; rw [n] at e; cases e
    | ins C dx fs => obtain ⟨gs, e, _⟩ := this; rw [n] at e; cases e
    | dK kvs => obtain ⟨gs, e, _⟩ := this; rw [n] at e; cases e
    | clo κ s => obtain ⟨e, _⟩ := this; rw [n] at e; cases e
    | tab nm => obtain ⟨ps, e, _⟩ := this; rw [n] at e; cases e
theorem RepO.ext {K : PySem.W.Frag} {F : Addr → Prop} {M M' : Mem} {H H' : Hp} {a : Addr} {m : MO} (w : Wd K F M H) (e : Ext F M H M' H') (s : ∀ o, H a = some o → H' a = some o) (h : RepO K (Bar F M) H a m) : RepO K (Bar F M') H' a m := by
  cases m with
  | lst ds => obtain ⟨vs, q, r⟩ := h; exact ⟨vs, s _ q, RepAll.ext w e _ _ r⟩
  | ins C dx fs => obtain ⟨gs, q, e1, r⟩ := h; exact ⟨gs, s _ q, e1, RepAll.ext w e _ _ r⟩
  | dK kvs => obtain ⟨gs, q, e1, r⟩ := h; exact ⟨gs, s _ q, e1, RepAll.ext w e _ _ r⟩
  | clo κ t => obtain ⟨q1, q2, q3, r⟩ := h; exact ⟨s _ q1, e.keep _ _ q2 (.inr (bar_none q3)), e.nbar q3 ⟨_, q2⟩, RepS.ext w e r⟩
  | tab nm =>
    obtain ⟨ps, q1, q2, q3⟩ := h
    refine ⟨ps, s _ q1, q2, fun pos cv hc => ?_⟩
    obtain ⟨c, e1, e2, e3⟩ := q3 pos cv hc
    exact ⟨c, e1, e.keep _ _ e2 (.inr (bar_none e3)), e.nbar e3 ⟨_, e2⟩⟩
theorem ext_laid {F : Addr → Prop} {M : Mem} {H : Hp} {p : Addr} {o : HO} (n : H p = none) : Ext F M H M (upd H p o) :=
  ⟨fun a u h _ => by rw [upd_ne (ne_of_none h n)]; exact h, fun a u h => .inl ⟨u, h⟩⟩
theorem Wd.laid {K : PySem.W.Frag} {F : Addr → Prop} {M : Mem} {H : Hp} {p : Addr} {o : HO} (w : Wd K F M H) (n : H p = none) : Wd K F M (upd H p o) where
  mem := fun a m h => RepO.ext w (ext_laid n) (fun u q => by rw [upd_ne (ne_of_none q n)]; exact q) (w.mem a m h)
  hid := fun a h => by
    obtain ⟨h1, u, e, nt⟩ := w.hid a h
    exact ⟨h1, u, by rw [upd_ne (ne_of_none e n)]; exact e, nt⟩
theorem Rep.newTup {K : PySem.W.Frag} {F : Addr → Prop} {M : Mem} {H : Hp} {p : Addr} {vs : List V} {ds : List D} (w : Wd K F M H) (n : H p = none) (r : RepAll K (Bar F M) H vs ds) : Rep K (Bar F M) (upd H p (.tup vs)) (.ref p) (.tup ds) :=
  .tup (SqT.of upd_same) (RepAll.ext w (ext_laid n) ds vs r)
theorem Rep.newLst {K : PySem.W.Frag} {F : Addr → Prop} {M : Mem} {H : Hp} {p : Addr} {vs : List V} {ds : List D} (w : Wd K F M H) (n : H p = none) (r : RepAll K (Bar F M) H vs ds) : Rep K (Bar F M) (upd H p (.lst vs)) (.ref p) (.lst ds) :=
  .lst upd_same (w.fresh n) (RepAll.ext w (ext_laid n) ds vs r)
/-- a new list that may change -/
theorem ext_laidM {F : Addr → Prop} {M : Mem} {H : Hp} {p : Addr} {o : HO} {m : MO} (n : H p = none) : Ext F M H (updM M p m) (upd H p o) :=
  ⟨fun a u h _ => by rw [upd_ne (ne_of_none h n)]; exact h, fun a u h => by
    by_cases e : a = p
    · subst e; exact .inr n
    · rw [updM_ne e] at h; exact .inl ⟨u, h⟩⟩
theorem Wd.noM {K : PySem.W.Frag} {F : Addr → Prop} {M : Mem} {H : Hp} {p : Addr} (w : Wd K F M H) (n : H p = none) : M p = none := bar_none (w.fresh n)
theorem Wd.laidM {K : PySem.W.Frag} {F : Addr → Prop} {M : Mem} {H : Hp} {p : Addr} {o : HO} {m : MO} (w : Wd K F M H) (n : H p = none) (r : RepO K (Bar F (updM M p m)) (upd H p o) p m) : Wd K F (updM M p m) (upd H p o) where
  mem := fun a u h => by
    by_cases e : a = p
    · subst e; rw [updM_same] at h; cases h; exact r
    · rw [updM_ne e] at h
      exact RepO.ext w (ext_laidM n) (fun u q => by rw [upd_ne (ne_of_none q n)]; exact q) (w.mem a u h)
  hid := fun a h => by
    obtain ⟨h1, u, e, nt⟩ := w.hid a h
    have ne := ne_of_none e n
    exact ⟨by rw [updM_ne ne]; exact h1, u, by rw [upd_ne ne]; exact e, nt⟩
/-- an object that may change is written -/
theorem ext_write {F : Addr → Prop} {M : Mem} {H : Hp} {p : Addr} {o : HO} {m m' : MO} (h : M p = some m) (nf : ¬ F p) : Ext F M H (updM M p m') (upd H p o) :=
  ⟨fun a u q r => by
    rw [upd_ne (fun e => by subst e; rcases r with r | r; exact nf r; rw [h] at r; cases r)]; exact q, fun a u q => by
    by_cases e : a = p
    · subst e; exact .inl ⟨m, h⟩
    · rw [updM_ne e] at q; exact .inl ⟨u, q⟩⟩
theorem Wd.nf {K : PySem.W.Frag} {F : Addr → Prop} {M : Mem} {H : Hp} {p : Addr} {m : MO} (w : Wd K F M H) (h : M p = some m) : ¬ F p := fun f => by
  rw [(w.hid p f).1] at h; cases h
theorem Wd.write {K : PySem.W.Frag} {F : Addr → Prop} {M : Mem} {H : Hp} {p : Addr} {o : HO} {m m' : MO} (w : Wd K F M H) (h : M p = some m) (r : RepO K (Bar F (updM M p m')) (upd H p o) p m') : Wd K F (updM M p m') (upd H p o) where
  mem := fun a u q => by
    by_cases e : a = p
    · subst e; rw [updM_same] at q; cases q; exact r
    · rw [updM_ne e] at q
      exact RepO.ext w (ext_write h (w.nf h)) (fun u z => by rw [upd_ne e]; exact z) (w.mem a u q)
  hid := fun a q => by
    obtain ⟨h1, u, e, nt⟩ := w.hid a q
    have ne : a ≠ p := fun z => by subst z; rw [h] at h1; cases h1
    exact ⟨by rw [updM_ne ne]; exact h1, u, by rw [upd_ne ne]; exact e, nt⟩

/-! ### sequences by values -/
def moL : Option MO → Option (List D)
  | some (.lst ds) => some ds
  | _ => none
theorem moL_some {o : Option MO} {ds : List D} (h : moL o = some ds) : o = some (.lst ds) := by
  unfold moL at h
  split at h
  · cases h; rfl
  · cases h
/-- the items of a list or tuple -/
def sq (M : Mem) : D → Option (List D)
  | .tup ds => some ds
  | .lst ds => some ds
  | .fro ds => some ds
  | .ref a => moL (M a)
  | _ => none
theorem Rep.sq {K : PySem.W.Frag} {F : Addr → Prop} {M : Mem} {H : Hp} {v : V} {d : D} {ds : List D} (w : Wd K F M H) (r : Rep K (Bar F M) H v d) (h : Bx.sq M d = some ds) :
    ∃ a xs, v = .ref a ∧ (SqL K H a xs ∨ SqT K H a xs) ∧ RepAll K (Bar F M) H xs ds := by
  cases d with
  | tup es => cases h; cases r with | tup hs ha => exact ⟨_, _, rfl, .inr hs, ha⟩
  | lst es => cases h; cases r with | lst hs _ ha => exact ⟨_, _, rfl, .inl (.of hs), ha⟩
  | fro es => cases h; cases r with | fro hs ha => exact ⟨_, _, rfl, .inl hs.sql, ha⟩
  | ref a =>
    cases r
    obtain ⟨vs, q, ra⟩ := w.mem a _ (moL_some h)
    exact ⟨_, _, rfl, .inl (.of q), ra⟩
  | _ => cases h
/-- of a list only -/
def sqL (M : Mem) : D → Option (List D)
  | .lst ds => some ds
  | .fro ds => some ds
  | .ref a => moL (M a)
  | _ => none
theorem Rep.sqL {K : PySem.W.Frag} {F : Addr → Prop} {M : Mem} {H : Hp} {v : V} {d : D} {ds : List D} (w : Wd K F M H) (r : Rep K (Bar F M) H v d) (h : Bx.sqL M d = some ds) :
    ∃ a xs, v = .ref a ∧ SqL K H a xs ∧ RepAll K (Bar F M) H xs ds := by
  cases d with
  | lst es => cases h; cases r with | lst hs _ ha => exact ⟨_, _, rfl, .of hs, ha⟩
  | fro es => cases h; cases r with | fro hs ha => exact ⟨_, _, rfl, hs.sql, ha⟩
  | ref a =>
    cases r
    obtain ⟨vs, q, ra⟩ := w.mem a _ (moL_some h)
    exact ⟨_, _, rfl, .of q, ra⟩
  | _ => cases h
theorem atI_rep {K : PySem.W.Frag} {B : Addr → Prop} {H : Hp} {vs : List V} {ds : List D} {i : Int} {d : D} (r : RepAll K B H vs ds) (h : atI ds i = some d) : ∃ v, atI vs i = some v ∧ Rep K B H v d := by
  unfold atI at h ⊢
  rw [r.length]
  cases e : ixN ds.length i with
  | none => rw [e] at h; cases h
  | some j =>
    rw [e] at h
    exact r.get h

section
variable {X : Cx} {E : XK} {k : Nat} {a b c e : Expr} {wa wb wc : DTE} {pos : Pos}

/-! ### arithmetic -/
theorem OkR.or {K : PySem.W.Frag} {r r' : R2} {w w' : DR2} (h : OkR K r w) (h' : OkR K r' w') : OkR K (fun x y H Q => r x y H Q ∨ r' x y H Q) (fun x y M Q => w x y M Q ∨ w' x y M Q) := by
  intro F M H x y d1 d2 Q Q' wd r1 r2 hw lk
  rcases hw with hw | hw
  · exact .inl (h F M H x y d1 d2 Q Q' wd r1 r2 hw lk)
  · exact .inr (h' F M H x y d1 d2 Q Q' wd r1 r2 hw lk)
theorem OkR.imp {K : PySem.W.Frag} {r : R2} {w w' : DR2} (h : OkR K r w) (m : ∀ x y M Q, w' x y M Q → w x y M Q) : OkR K r w' := fun F M H x y d1 d2 Q Q' wd r1 r2 hw lk => h F M H x y d1 d2 Q Q' wd r1 r2 (m _ _ _ _ hw) lk
/-- ints in, an int (or a bool) out -/
def wI (C : Int → Int → Prop) (g : Int → Int → D) : DR2 := fun x y M Q => match x, y with | .int i, .int j => C i j ∧ Q (g i j) M | _, _ => False
theorem okI {K : PySem.W.Frag} {C : Int → Int → Prop} {g : Int → Int → V} {gd : Int → Int → D} (hg : ∀ i j B H, Rep K B H (g i j) (gd i j)) : OkR K (rI C g) (wI C gd) := by
  intro F M H x y d1 d2 Q Q' wd r1 r2 hw lk
  cases d1 with
  | int i =>
    cases d2 with
    | int j => cases r1; cases r2; exact ⟨i, j, rfl, rfl, hw.1, lk _ H _ M (hg i j _ _) wd (.refl _ _ _) hw.2⟩
    | _ => exact (show False from hw).elim
  | _ => exact (show False from hw).elim
def wI0 (g : Int → Int → D) : DR2 := fun x y M Q => match x, y with | .int i, .int j => Q (g i j) M | _, _ => False
theorem okI0 {K : PySem.W.Frag} {g : Int → Int → V} {gd : Int → Int → D} (hg : ∀ i j B H, Rep K B H (g i j) (gd i j)) : OkR K (rI0 g) (wI0 gd) := by
  intro F M H x y d1 d2 Q Q' wd r1 r2 hw lk
  cases d1 with
  | int i =>
    cases d2 with
    | int j => cases r1; cases r2; exact ⟨i, j, rfl, rfl, lk _ H _ M (hg i j _ _) wd (.refl _ _ _) hw⟩
    | _ => exact (show False from hw).elim
  | _ => exact (show False from hw).elim
/-- + -/
def wAddV : DR2 := fun x y M Q => match x, y with
  | .int i, .int j => Q (.int (i + j)) M
  | .str i, .str j => i.length + j.length ≤ sizeLine ∧ Q (.str (i ++ j)) M
  | .tup i, .tup j => i.length + j.length ≤ sizeLine ∧ Q (.tup (i ++ j)) M
  | .lst i, .lst j => i.length + j.length ≤ sizeLine ∧ Q (.lst (i ++ j)) M
  | _, _ => False
def rAddV (K : PySem.W.Frag) : R2 := fun x y H Q => (rI0 (fun i j => .int (i + j)) x y H Q ∨ (∃ i j, x = .str i ∧ y = .str j ∧ i.length + j.length ≤ sizeLine ∧ Q (.str (i ++ j)) H)) ∨ (rCatA K x y H Q ∨ rCat x y H Q)
theorem op_addV : OpR X (binaryOp .Add) (rAddV X.K) := (op_add.or op_add_str).or (op_catA.or op_cat)
theorem ok_addV {K : PySem.W.Frag} : OkR K (rAddV K) wAddV := by
  intro F M H x y d1 d2 Q Q' wd r1 r2 hw lk
  cases d1 with
  | int i => cases d2 with
    | int j => cases r1; cases r2; exact .inl (.inl ⟨i, j, rfl, rfl, lk _ H _ M (.int _) wd (.refl _ _ _) hw⟩)
    | _ => exact (show False from hw).elim
  | str i => cases d2 with
    | str j => cases r1; cases r2; exact .inl (.inr ⟨i, j, rfl, rfl, hw.1, lk _ H _ M (.str _) wd (.refl _ _ _) hw.2⟩)
    | _ => exact (show False from hw).elim
  | tup i => cases d2 with
    | tup j =>
      cases r1 with
      | tup hs ha =>
        cases r2 with
        | @tup b ys _ ht hb =>
          refine .inr (.inl ⟨_, _, _, _, rfl, rfl, hs, ht, by rw [ha.length, hb.length]; exact hw.1, fun z => ?_, fun z1 z => ?_, fun z1 z2 p hp => ?_⟩)
          · subst z
            have z : i = [] := List.eq_nil_of_length_eq_zero (by rw [← ha.length]; rfl)
            subst z
            exact lk _ H _ M (.tup ht hb) wd (.refl _ _ _) hw.2
          · subst z
            have z : j = [] := List.eq_nil_of_length_eq_zero (by rw [← hb.length]; rfl)
            subst z
            have q := hw.2
            rw [List.append_nil] at q
            exact lk _ H _ M (.tup hs ha) wd (.refl _ _ _) q
          · exact lk _ _ _ M (.newTup wd hp (ha.append hb)) (wd.laid hp) (ext_laid hp) hw.2
    | _ => exact (show False from hw).elim
  | lst i => cases d2 with
    | lst j =>
      cases r1 with
      | lst hs _ ha =>
        cases r2 with
        | lst ht _ hb =>
          refine .inr (.inr ⟨_, _, _, _, rfl, rfl, hs, ht, by rw [ha.length, hb.length]; exact hw.1, fun p hp => ?_⟩)
          exact lk _ _ _ M (.newLst wd hp (ha.append hb)) (wd.laid hp) (ext_laid hp) hw.2
    | _ => exact (show False from hw).elim
  | _ => cases d2 <;> exact (show False from hw).elim
theorem de_add (ha : DE X E a wa) (hb : DE X E b wb) : DE X E (.BinOp a .Add b pos) (wOp wAddV wa wb) := de_op op_addV ok_addV ha hb
theorem de_sub (ha : DE X E a wa) (hb : DE X E b wb) : DE X E (.BinOp a .Sub b pos) (wOp (wI0 fun i j => .int (i - j)) wa wb) := de_op op_sub (okI0 fun _ _ _ _ => .int _) ha hb
/-- * : ints (one below 2 ^ 64), a tuple so many times -/
def wMulV : DR2 := fun x y M Q => match x, y with
  | .int i, .int j => CMul i j ∧ Q (.int (i * j)) M
  | .tup ds, .int j => (ds ≠ [] ∧ 2 ≤ j ∧ j ≤ 1000 ∧ ds.length ≤ 1000) ∧ Q (.tup (List.replicate j.toNat ds).flatten) M
  | .lst ds, .int j => (-(2 ^ 63) ≤ j ∧ j < 2 ^ 63 ∧ ds.length * j.toNat ≤ sizeLine) ∧ Q (.lst (List.replicate j.toNat ds).flatten) M
  | _, _ => False
theorem RepAll.rep {K : PySem.W.Frag} {B : Addr → Prop} {H : Hp} {vs : List V} {ds : List D} (r : RepAll K B H vs ds) : ∀ n : Nat, RepAll K B H (List.replicate n vs).flatten (List.replicate n ds).flatten
  | 0 => .nil
  | n + 1 => by
    rw [List.replicate_succ, List.replicate_succ, List.flatten_cons, List.flatten_cons]
    exact r.append (RepAll.rep r n)
theorem op_mulV : OpR X (binaryOp .Mult) (fun x y H Q => rI CMul (fun i j => .int (i * j)) x y H Q ∨ (rRepT X.K x y H Q ∨ rRep x y H Q)) := op_mul.or (op_repT.or op_rep)
theorem ok_mulV {K : PySem.W.Frag} : OkR K (fun x y H Q => rI CMul (fun i j => .int (i * j)) x y H Q ∨ (rRepT K x y H Q ∨ rRep x y H Q)) wMulV := by
  intro F M H x y d1 d2 Q Q' wd r1 r2 hw lk
  cases d1 with
  | int i => cases d2 with
    | int j => cases r1; cases r2; exact .inl ⟨i, j, rfl, rfl, hw.1, lk _ H _ M (.int _) wd (.refl _ _ _) hw.2⟩
    | _ => exact (show False from hw).elim
  | tup i => cases d2 with
    | int j =>
      cases r1 with
      | tup hs ha =>
        cases r2
        obtain ⟨⟨h0, h1, h2, h3⟩, q⟩ := hw
        refine .inr (.inl ⟨_, _, _, rfl, rfl, hs, fun z => ?_, h1, h2, by rw [ha.length]; exact h3, fun p hp => ?_⟩)
        · subst z
          exact h0 (List.eq_nil_of_length_eq_zero (by rw [← ha.length]; rfl))
        · exact lk _ _ _ M (.newTup wd hp (ha.rep _)) (wd.laid hp) (ext_laid hp) q
    | _ => exact (show False from hw).elim
  | lst i => cases d2 with
    | int j =>
      cases r1 with
      | lst hs _ ha =>
        cases r2
        obtain ⟨⟨h1, h2, h3⟩, q⟩ := hw
        refine .inr (.inr ⟨_, _, _, rfl, rfl, hs, h1, h2, by rw [ha.length]; exact h3, fun p hp => ?_⟩)
        exact lk _ _ _ M (.newLst wd hp (ha.rep _)) (wd.laid hp) (ext_laid hp) q
    | _ => exact (show False from hw).elim
  | _ => cases d2 <;> exact (show False from hw).elim
theorem de_mul (ha : DE X E a wa) (hb : DE X E b wb) : DE X E (.BinOp a .Mult b pos) (wOp wMulV wa wb) := de_op op_mulV ok_mulV ha hb
theorem de_mod (ha : DE X E a wa) (hb : DE X E b wb) : DE X E (.BinOp a .Mod b pos) (wOp (wI (fun _ j => 0 < j) fun i j => .int (i % j)) wa wb) := de_op op_mod (okI fun _ _ _ _ => .int _) ha hb
theorem de_fdiv (ha : DE X E a wa) (hb : DE X E b wb) : DE X E (.BinOp a .FloorDiv b pos) (wOp (wI CDiv fun i j => .int (i / j)) wa wb) := de_op op_fdiv (okI fun _ _ _ _ => .int _) ha hb
theorem de_pow (ha : DE X E a wa) (hb : DE X E b wb) : DE X E (.BinOp a .Pow b pos) (wOp (wI CPow fun i j => .int (i ^ j.toNat)) wa wb) := de_op op_pow (okI fun _ _ _ _ => .int _) ha hb
/-- - of an int -/
def wNeg (wa : DTE) : DTE := fun δ M Q => wa δ M fun x M1 => match x with | .int i => Q (.int (-i)) M1 | _ => False
theorem de_neg (ha : DE X E a wa) : DE X E (.UnaryOp .USub a pos) (wNeg wa) := by
  refine pe_mono (pe_un un_neg ha) fun σ H Q' ⟨F, δ, M, Q, sm, lx, hw, lk⟩ => ?_
  refine ⟨F, δ, M, _, sm, lx, hw, fun v H1 d M1 r1 w1 e1 q1 => ?_⟩
  cases d with
  | int i => cases r1; exact ⟨i, rfl, lk _ H1 _ M1 (.int _) w1 e1 q1⟩
  | _ => exact (show False from q1).elim

/-! ### comparisons -/
theorem de_lt (ha : DE X E a wa) (hb : DE X E b wb) : DE X E (.Compare a [.Lt] [b] pos) (wOp (wI0 fun i j => .bl (decide (i < j))) wa wb) := de_cmp op_lt (okI0 fun _ _ _ _ => .bl _) ha hb (nomark _)
theorem de_le (ha : DE X E a wa) (hb : DE X E b wb) : DE X E (.Compare a [.LtE] [b] pos) (wOp (wI0 fun i j => .bl (decide (i ≤ j))) wa wb) := de_cmp op_le (okI0 fun _ _ _ _ => .bl _) ha hb (nomark _)
theorem de_gt (ha : DE X E a wa) (hb : DE X E b wb) : DE X E (.Compare a [.Gt] [b] pos) (wOp (wI0 fun i j => .bl (decide (j < i))) wa wb) := de_cmp op_gt (okI0 fun _ _ _ _ => .bl _) ha hb (nomark _)
theorem de_ge (ha : DE X E a wa) (hb : DE X E b wb) : DE X E (.Compare a [.GtE] [b] pos) (wOp (wI0 fun i j => .bl (decide (j ≤ i))) wa wb) := de_cmp op_ge (okI0 fun _ _ _ _ => .bl _) ha hb (nomark _)
def wEqV : DR2 := fun x y M Q => (D.fit 64 x = true ∧ D.fit 64 y = true) ∧ Q (.bl (D.eqv x y)) M
def wNeV : DR2 := fun x y M Q => (D.fit 64 x = true ∧ D.fit 64 y = true) ∧ Q (.bl (!D.eqv x y)) M
theorem ok_eqV {K : PySem.W.Frag} : OkR K (rEqD K) wEqV := fun F M H x y d1 d2 Q Q' wd r1 r2 ⟨⟨h1, h2⟩, q⟩ lk =>
  ⟨D.py d1, D.py d2, Rep.dp 64 d1 x h1 r1, Rep.dp 64 d2 y h2 r2, D.shaped h1, D.shaped h2, lk _ H _ M (by rw [D.eqv_py 64 d1 d2 h1 h2]; exact .bl _) wd (.refl _ _ _) q⟩
theorem ok_neV {K : PySem.W.Frag} : OkR K (rNeD K) wNeV := fun F M H x y d1 d2 Q Q' wd r1 r2 ⟨⟨h1, h2⟩, q⟩ lk =>
  ⟨D.py d1, D.py d2, Rep.dp 64 d1 x h1 r1, Rep.dp 64 d2 y h2 r2, D.shaped h1, D.shaped h2, lk _ H _ M (by rw [D.eqv_py 64 d1 d2 h1 h2]; exact .bl _) wd (.refl _ _ _) q⟩
theorem de_eq (hX : DX X E k) (ha : DE X E a wa) (hb : DE X E b wb) : DE X E (.Compare a [.Eq] [b] pos) (wOp wEqV wa wb) := de_cmp (op_eqD hX.room.units) ok_eqV ha hb (nomark _)
theorem de_ne (hX : DX X E k) (ha : DE X E a wa) (hb : DE X E b wb) : DE X E (.Compare a [.NotEq] [b] pos) (wOp wNeV wa wb) := de_cmp (op_neD hX.room.units) ok_neV ha hb (nomark _)
theorem room_65 {A : Around} {k : Nat} (h : Room k A) : A.units + 65 < cLine := by have := h.un; omega
/-- in a list of data -/
def wInV (neg : Bool) : DR2 := fun x y M Q => match y with | .lst ds => (D.fit 63 x = true ∧ D.fitAll 63 ds = true) ∧ Q (.bl (neg != ds.any fun z => D.eqv z x)) M | _ => False
theorem D.fit_mono : ∀ (n m : Nat) (d : D), n ≤ m → D.fit n d = true → D.fit m d = true := by
  have key : ∀ (m n : Nat), n ≤ m → (∀ d, D.fit n d = true → D.fit m d = true) ∧ ∀ ds, D.fitAll n ds = true → D.fitAll m ds = true := by
    intro m
    induction m with
    | zero =>
      intro n h
      have : n = 0 := by omega
      subst this
      exact ⟨fun _ h => h, fun _ h => h⟩
    | succ m ih =>
      intro n h
      have one : ∀ d, D.fit n d = true → D.fit (m + 1) d = true := fun d hd => by
        cases d with
        | tup xs =>
          cases n with
          | zero => simp [D.fit] at hd
          | succ n => simp only [D.fit] at hd ⊢; exact (ih n (by omega)).2 xs hd
        | lst xs =>
          cases n with
          | zero => simp [D.fit] at hd
          | succ n => simp only [D.fit] at hd ⊢; exact (ih n (by omega)).2 xs hd
        | fro xs => cases n <;> simp [D.fit] at hd
        | ref xs => cases n <;> simp [D.fit] at hd
        | str x => cases n <;> simpa [D.fit] using hd
        | _ => simp [D.fit]
      refine ⟨one, fun ds => ?_⟩
      induction ds with
      | nil => intro _; simp [D.fitAll]
      | cons d ds ih2 =>
        intro hd
        have hd' : D.fit n d = true ∧ D.fitAll n ds = true := by simpa [D.fitAll] using hd
        simp only [D.fitAll, one d hd'.1, ih2 hd'.2, Bool.and_self]
  exact fun n m d h => (key m n h).1 d
theorem fit_lst {n : Nat} {ds : List D} (h : D.fitAll n ds = true) : D.fit (n + 1) (.lst ds) = true := by simpa [D.fit] using h
theorem any_py {n : Nat} {x : D} : ∀ {ds : List D}, D.fit n x = true → D.fitAll n ds = true → ((D.pyAll ds).any fun z => PyData.eqv z (D.py x)) = ds.any fun z => D.eqv z x
  | [], _, _ => by simp [D.pyAll]
  | d :: ds, h, hd => by
    have hd' : D.fit n d = true ∧ D.fitAll n ds = true := by simpa [D.fitAll] using hd
    simp only [D.pyAll, List.any_cons, D.eqv_py n d x hd'.1 h, any_py (ds := ds) h hd'.2]
theorem ok_inV {K : PySem.W.Frag} : OkR K (rInD K) (wInV false) := by
  intro F M H x y d1 d2 Q Q' wd r1 r2 hw lk
  cases d2 with
  | lst ds =>
    obtain ⟨⟨h1, h2⟩, q⟩ := hw
    have hl := fit_lst h2
    have e : D.py (.lst ds) = .list (D.pyAll ds) := by simp [D.py]
    refine ⟨D.py d1, D.pyAll ds, Rep.dp 63 d1 x h1 r1, e ▸ Rep.dp 64 _ y hl r2, D.shaped (D.fit_mono 63 64 _ (by decide) h1), e ▸ D.shaped hl, ?_⟩
    refine lk _ H _ M ?_ wd (.refl _ _ _) q
    rw [any_py h1 h2]
    simp only [Bool.false_bne]
    exact .bl _
  | _ => exact (show False from hw).elim
theorem ok_notInV {K : PySem.W.Frag} : OkR K (rNotInD K) (wInV true) := by
  intro F M H x y d1 d2 Q Q' wd r1 r2 hw lk
  cases d2 with
  | lst ds =>
    obtain ⟨⟨h1, h2⟩, q⟩ := hw
    have hl := fit_lst h2
    have e : D.py (.lst ds) = .list (D.pyAll ds) := by simp [D.py]
    refine ⟨D.py d1, D.pyAll ds, Rep.dp 63 d1 x h1 r1, e ▸ Rep.dp 64 _ y hl r2, D.shaped (D.fit_mono 63 64 _ (by decide) h1), e ▸ D.shaped hl, ?_⟩
    refine lk _ H _ M ?_ wd (.refl _ _ _) q
    rw [any_py h1 h2]
    simp only [Bool.true_bne]
    exact .bl _
  | _ => exact (show False from hw).elim
theorem de_inL (hX : DX X E k) (ha : DE X E a wa) (hb : DE X E b wb) (hm : behindInMarks .In b = false := by rfl) : DE X E (.Compare a [.In] [b] pos) (wOp (wInV false) wa wb) := de_cmp (op_inD (room_65 hX.room)) ok_inV ha hb hm
theorem de_notInL (hX : DX X E k) (ha : DE X E a wa) (hb : DE X E b wb) (hm : behindInMarks .NotIn b = false := by rfl) : DE X E (.Compare a [.NotIn] [b] pos) (wOp (wInV true) wa wb) := de_cmp (op_notInD (room_65 hX.room)) ok_notInV ha hb hm
/-- flat items -/
def D.flat : D → Bool
  | .non | .bl _ | .int _ | .str _ => true
  | _ => false
theorem Rep.flat {K : PySem.W.Frag} {B : Addr → Prop} {H : Hp} {v : V} {d : D} (r : Rep K B H v d) (h : d.flat = true) : flatV v = true := by
  cases d <;> first | (cases r; rfl) | simp [D.flat] at h
theorem RepAll.flat {K : PySem.W.Frag} {B : Addr → Prop} {H : Hp} : ∀ {vs : List V} {ds : List D}, RepAll K B H vs ds → ds.all D.flat = true → vs.all flatV = true
  | _, [], h, _ => by cases h; rfl
  | _, d :: ds, h, hf => by
    rw [List.all_cons, Bool.and_eq_true] at hf
    cases h with
    | cons h1 h2 => rw [List.all_cons, h1.flat hf.1, RepAll.flat h2 hf.2]; rfl
theorem eqV_rep {K : PySem.W.Frag} {B : Addr → Prop} {H : Hp} {v u : V} {d e : D} (r : Rep K B H v d) (q : Rep K B H u e) (hd : d.flat = true) (he : e.flat = true) : eqV v u = D.eqv d e := by
  cases d <;> first
    | (cases e <;> first
        | (cases r; cases q; simp [eqV, D.eqv]; done)
        | simp [D.flat] at he)
    | simp [D.flat] at hd
theorem inV_rep {K : PySem.W.Frag} {B : Addr → Prop} {H : Hp} {v : V} {d : D} (r : Rep K B H v d) (hd : d.flat = true) : ∀ {vs : List V} {ds : List D}, RepAll K B H vs ds → ds.all D.flat = true → inV v vs = ds.any fun z => D.eqv z d
  | _, [], h, _ => by cases h; simp [inV]
  | _, x :: ds, h, hf => by
    rw [List.all_cons, Bool.and_eq_true] at hf
    cases h with
    | cons h1 h2 =>
      have ih := inV_rep r hd h2 hf.2
      unfold inV at ih ⊢
      rw [List.any_cons, List.any_cons, ih]
      rw [eqV_rep h1 r hf.1 hd]
end
end Bx

set_option Elab.async false
set_option linter.all false
set_option maxRecDepth 100000
set_option maxHeartbeats 2000000
namespace Bx
open PySem PySem.Spec L2
open PyProof.Rows hiding St
section
variable {X : Cx} {E : XK} {k : Nat} {a b c e : Expr} {wa wb wc : DTE} {ta tb : DTT} {pos : Pos}

/-! ### and, or, not, tests -/
/-- by a truth value -/
def onT (b : Bool) (A B : Prop) : Prop := match b with | true => A | false => B
def onD (d : D) (A B : Prop) : Prop := match d with | .bl b => onT b A B | _ => False
theorem onT_i {b : Bool} {A B : Prop} (h1 : b = true → A) (h2 : b = false → B) : onT b A B := by
  cases b
  · exact h2 rfl
  · exact h1 rfl
theorem onD_i {b : Bool} {A B : Prop} (h1 : b = true → A) (h2 : b = false → B) : onD (.bl b) A B := onT_i h1 h2
def wAnd (wa wb : DTE) : DTE := fun δ M Q => wa δ M fun d M1 => onD d (wb δ M1 Q) (Q (.bl false) M1)
def wOr (wa wb : DTE) : DTE := fun δ M Q => wa δ M fun d M1 => onD d (Q (.bl true) M1) (wb δ M1 Q)
def wNot (wa : DTE) : DTE := fun δ M Q => wa δ M fun d M1 => match d with | .bl k => Q (.bl (!k)) M1 | _ => False
theorem de_one {op} (h : DE X E a wa) : DE X E (.BoolOp op [a] pos) wa := pe_one h
theorem de_and {rest : List Expr} (ha : DE X E a wa) (hb : DE X E (.BoolOp .And (b :: rest) pos) wb) : DE X E (.BoolOp .And (a :: b :: rest) pos) (wAnd wa wb) := by
  refine pe_mono (pe_and ha hb) fun σ H Q' ⟨F, δ, M, Q, sm, lx, hw, lk⟩ => ?_
  refine ⟨F, δ, M, _, sm, lx, hw, fun v H1 d M1 r1 w1 e1 q1 => ?_⟩
  cases d with
  | bl k =>
    cases r1
    refine ⟨k, rfl, ?_⟩
    cases k with
    | true => exact ite_tt ⟨F, δ, M1, Q, sm.ext w1 e1, lx.ext w1 e1, q1, fun v H' d M' r w e q => lk v H' d M' r w (Ext.trans w1 e1 e) q⟩
    | false => exact ite_ff (lk _ H1 _ M1 (.bl _) w1 e1 q1)
  | _ => exact (show False from q1).elim
theorem de_or {rest : List Expr} (ha : DE X E a wa) (hb : DE X E (.BoolOp .Or (b :: rest) pos) wb) : DE X E (.BoolOp .Or (a :: b :: rest) pos) (wOr wa wb) := by
  refine pe_mono (pe_or ha hb) fun σ H Q' ⟨F, δ, M, Q, sm, lx, hw, lk⟩ => ?_
  refine ⟨F, δ, M, _, sm, lx, hw, fun v H1 d M1 r1 w1 e1 q1 => ?_⟩
  cases d with
  | bl k =>
    cases r1
    refine ⟨k, rfl, ?_⟩
    cases k with
    | true => exact ite_tt (lk _ H1 _ M1 (.bl _) w1 e1 q1)
    | false => exact ite_ff ⟨F, δ, M1, Q, sm.ext w1 e1, lx.ext w1 e1, q1, fun v H' d M' r w e q => lk v H' d M' r w (Ext.trans w1 e1 e) q⟩
  | _ => exact (show False from q1).elim
theorem de_not (ha : DE X E a wa) : DE X E (.UnaryOp .Not a pos) (wNot wa) := by
  refine pe_mono (pe_not ha) fun σ H Q' ⟨F, δ, M, Q, sm, lx, hw, lk⟩ => ?_
  refine ⟨F, δ, M, _, sm, lx, hw, fun v H1 d M1 r1 w1 e1 q1 => ?_⟩
  cases d with
  | bl k => cases r1; exact ⟨k, rfl, lk _ H1 _ M1 (.bl _) w1 e1 q1⟩
  | _ => exact (show False from q1).elim
theorem dt_val (h : DE X E a wa) (he : ∀ whole, isTrue a X.env whole = (do let v ← whole; standAt a.pos; holding [v] (truthy v)) := by intro _; rfl) : DT X E a (wTest wa) :=
  pt_mono (pt_val h he) fun σ H Q' h => by
    have := lift_test h
    exact this
def wTNot (ta : DTT) : DTT := fun δ M Q => ta δ M fun c M1 => Q (!c) M1
theorem dt_not (ha : DT X E a ta) : DT X E (.UnaryOp .Not a pos) (wTNot ta) := by
  refine pt_mono (pt_not ha) fun σ H Q' ⟨F, δ, M, Q, sm, lx, hw, lk⟩ => ?_
  exact ⟨F, δ, M, _, sm, lx, hw, fun c H1 M1 w1 e1 q1 => lk _ H1 M1 w1 e1 q1⟩
def wTAnd (ta tb : DTT) : DTT := fun δ M Q => ta δ M fun c M1 => onT c (tb δ M1 Q) (Q false M1)
def wTOr (ta tb : DTT) : DTT := fun δ M Q => ta δ M fun c M1 => onT c (Q true M1) (tb δ M1 Q)
theorem dw_and1 (ha : DT X E a ta) : DW X E (.BoolOp .And [a] pos) ta := pw_and1 ha
theorem dw_or1 (ha : DT X E a ta) : DW X E (.BoolOp .Or [a] pos) ta := pw_or1 ha
theorem dw_and {rest : List Expr} (ha : DT X E a ta) (hb : DW X E (.BoolOp .And (b :: rest) pos) tb) : DW X E (.BoolOp .And (a :: b :: rest) pos) (wTAnd ta tb) := by
  refine pw_mono (pw_and ha hb) fun σ H Q' ⟨F, δ, M, Q, sm, lx, hw, lk⟩ => ?_
  refine ⟨F, δ, M, _, sm, lx, hw, fun c H1 M1 w1 e1 q1 => ?_⟩
  cases c with
  | true => exact ite_tt ⟨F, δ, M1, Q, sm.ext w1 e1, lx.ext w1 e1, q1, fun b H' M' w e q => lk b H' M' w (Ext.trans w1 e1 e) q⟩
  | false => exact ite_ff (lk _ H1 M1 w1 e1 q1)
theorem dw_or {rest : List Expr} (ha : DT X E a ta) (hb : DW X E (.BoolOp .Or (b :: rest) pos) tb) : DW X E (.BoolOp .Or (a :: b :: rest) pos) (wTOr ta tb) := by
  refine pw_mono (pw_or ha hb) fun σ H Q' ⟨F, δ, M, Q, sm, lx, hw, lk⟩ => ?_
  refine ⟨F, δ, M, _, sm, lx, hw, fun c H1 M1 w1 e1 q1 => ?_⟩
  cases c with
  | true => exact ite_tt (lk _ H1 M1 w1 e1 q1)
  | false => exact ite_ff ⟨F, δ, M1, Q, sm.ext w1 e1, lx.ext w1 e1, q1, fun b H' M' w e q => lk b H' M' w (Ext.trans w1 e1 e) q⟩
theorem DW.dt (h : DW X E a ta) : DT X E a ta := PW.pt h
def wIfE (tc : DTT) (wa wb : DTE) : DTE := fun δ M Q => tc δ M fun c M1 => onT c (wa δ M1 Q) (wb δ M1 Q)
theorem de_if {tc : DTT} (hc : DT X E c tc) (ha : DE X E a wa) (hb : DE X E b wb) : DE X E (.IfExp c a b pos) (wIfE tc wa wb) := by
  refine pe_mono (pe_ifExp hc ha hb) fun σ H Q' ⟨F, δ, M, Q, sm, lx, hw, lk⟩ => ?_
  refine ⟨F, δ, M, _, sm, lx, hw, fun c H1 M1 w1 e1 q1 => ?_⟩
  cases c with
  | true => exact ite_tt ⟨F, δ, M1, Q, sm.ext w1 e1, lx.ext w1 e1, q1, fun v H' d M' r w e q => lk v H' d M' r w (Ext.trans w1 e1 e) q⟩
  | false => exact ite_ff ⟨F, δ, M1, Q, sm.ext w1 e1, lx.ext w1 e1, q1, fun v H' d M' r w e q => lk v H' d M' r w (Ext.trans w1 e1 e) q⟩
theorem dt_if {c d f : Expr} {p : Pos} {tc : DTT} (hc : DT X E c tc) (ha : DE X E d wa) (hb : DE X E f wb) (he : ∀ whole, isTrue (.IfExp c d f p) X.env whole = (do let v ← whole; standAt (Expr.IfExp c d f p).pos; holding [v] (truthy v)) := by intro _; rfl) : DT X E (.IfExp c d f p) (wTest (wIfE tc wa wb)) := dt_val (de_if hc ha hb) he

/-- by an option -/
def onO {α : Type} (o : Option α) (Q : α → Prop) : Prop := match o with | some a => Q a | none => False
theorem onO_i {α : Type} {o : Option α} {a : α} {Q : α → Prop} (h : o = some a) (q : Q a) : onO o Q := by rw [h]; exact q
theorem onO_e {α : Type} {o : Option α} {Q : α → Prop} (h : onO o Q) : ∃ a, o = some a ∧ Q a := by
  cases o with
  | none => exact (show False from h).elim
  | some a => exact ⟨a, rfl, h⟩
/-! ### chains, is, in -/
def wChain (r r' : DR2) (wa wb wc : DTE) : DTE := fun δ M Q => wa δ M fun x M1 => wb δ M1 fun y M2 => r x y M2 fun z M3 => onD z (wc δ M3 fun u M4 => r' y u M4 Q) (Q (.bl false) M3)
theorem lift_chain {K : PySem.W.Frag} {r r' : R2} {w w' : DR2} (ok : OkR K r w) (ok' : OkR K r' w') {σ : L2.St} {H : Hp} {Q' : VK} (h : liftE K E (wChain w w' wa wb wc) σ H Q') : tChain r r' (liftE K E wa) (liftE K E wb) (liftE K E wc) σ H Q' := by
  obtain ⟨F, δ, M, Q, sm, lx, hw, lk⟩ := h
  refine ⟨F, δ, M, _, sm, lx, hw, fun v H1 d M1 r1 w1 e1 q1 => ?_⟩
  refine ⟨F, δ, M1, _, sm.ext w1 e1, lx.ext w1 e1, q1, fun u H2 d2 M2 r2 w2 e2 q2 => ?_⟩
  refine ok F M2 H2 v u d d2 _ _ w2 (Rep.ext w1 e2 d v r1) r2 q2 fun z H3 dz M3 r3 w3 e3 q3 => ?_
  have e13 := Ext.trans w1 e1 (Ext.trans w2 e2 e3)
  cases dz with
  | bl k =>
    cases r3
    refine ⟨k, rfl, ?_⟩
    cases k with
    | true =>
      refine ite_tt ⟨F, δ, M3, _, sm.ext w3 e13, lx.ext w3 e13, q3, fun y H4 d4 M4 r4 w4 e4 q4 => ?_⟩
      exact ok' F M4 H4 u y d2 d4 Q Q' w4 (Rep.ext w3 e4 _ _ (Rep.ext w2 e3 d2 u r2)) r4 q4 fun v' H' d' M' r5 w5 e5 q5 => lk v' H' d' M' r5 w5 (Ext.trans w3 e13 (Ext.trans w4 e4 e5)) q5
    | false => exact ite_ff (lk _ H3 _ M3 (.bl _) w3 e13 q3)
  | _ => exact (show False from q3).elim
theorem de_chain {op op' : CmpOp} {r r' : R2} {w w' : DR2} (ho : OpR X (compareOp op) r) (ok : OkR X.K r w) (ho' : OpR X (compareOp op') r') (ok' : OkR X.K r' w') (ha : DE X E a wa) (hb : DE X E b wb) (hc : DE X E c wc)
    (hm : lastMarks [op, op'] [b, c] = false := by with_unfolding_all rfl) : DE X E (.Compare a [op, op'] [b, c] pos) (wChain w w' wa wb wc) :=
  pe_mono (pe_chain ho ho' ha hb hc hm) fun _ _ _ h => lift_chain ok ok' h
theorem dt_chain {op op' : CmpOp} {r r' : R2} {w w' : DR2} (ho : OpR X (compareOp op) r) (ok : OkR X.K r w) (ho' : OpR X (compareOp op') r') (ok' : OkR X.K r' w') (ha : DE X E a wa) (hb : DE X E b wb) (hc : DE X E c wc)
    (hm : lastMarks [op, op'] [b, c] = false := by with_unfolding_all rfl) : DT X E (.Compare a [op, op'] [b, c] pos) (wTest (wChain w w' wa wb wc)) :=
  pt_mono (pt_chain ho ho' ha hb hc hm) fun σ H Q' h => lift_chain ok ok' (lift_test h)
abbrev kLe : DR2 := wI0 fun i j => .bl (decide (i ≤ j))
abbrev kLt : DR2 := wI0 fun i j => .bl (decide (i < j))
theorem de_lele (ha : DE X E a wa) (hb : DE X E b wb) (hc : DE X E c wc) (hm : lastMarks [.LtE, .LtE] [b, c] = false := by with_unfolding_all rfl) : DE X E (.Compare a [.LtE, .LtE] [b, c] pos) (wChain kLe kLe wa wb wc) :=
  de_chain op_le (okI0 fun _ _ _ _ => .bl _) op_le (okI0 fun _ _ _ _ => .bl _) ha hb hc hm
theorem de_ltle (ha : DE X E a wa) (hb : DE X E b wb) (hc : DE X E c wc) (hm : lastMarks [.Lt, .LtE] [b, c] = false := by with_unfolding_all rfl) : DE X E (.Compare a [.Lt, .LtE] [b, c] pos) (wChain kLt kLe wa wb wc) :=
  de_chain op_lt (okI0 fun _ _ _ _ => .bl _) op_le (okI0 fun _ _ _ _ => .bl _) ha hb hc hm
theorem de_ltlt (ha : DE X E a wa) (hb : DE X E b wb) (hc : DE X E c wc) (hm : lastMarks [.Lt, .Lt] [b, c] = false := by with_unfolding_all rfl) : DE X E (.Compare a [.Lt, .Lt] [b, c] pos) (wChain kLt kLt wa wb wc) :=
  de_chain op_lt (okI0 fun _ _ _ _ => .bl _) op_lt (okI0 fun _ _ _ _ => .bl _) ha hb hc hm
/-- a test out of a value -/
theorem dt_of (h : DE X E a wa) (he : ∀ whole, isTrue a X.env whole = (do let v ← whole; standAt a.pos; holding [v] (truthy v)) := by intro _; rfl) : DT X E a (wTest wa) := dt_val h he
/-- is None; is a truth value -/
def D.isNon : D → Bool | .non => true | _ => false
def wIs : DR2 := fun x y M Q => match y with | .non => Q (.bl x.isNon) M | .bl j => (match x with | .bl i => Q (.bl (decide (i = j))) M | _ => False) | _ => False
def wIsNot : DR2 := fun x y M Q => match y with | .non => Q (.bl (!x.isNon)) M | .bl j => (match x with | .bl i => Q (.bl (!decide (i = j))) M | _ => False) | _ => False
theorem Rep.isNon {K : PySem.W.Frag} {B : Addr → Prop} {H : Hp} {v : V} {d : D} (r : Rep K B H v d) : decide (v = .non) = d.isNon := by
  cases d <;> cases r <;> simp [D.isNon]
theorem ok_is {K : PySem.W.Frag} : OkR K (fun x y H Q => (y = .non ∧ Q (.bl (decide (x = .non))) H) ∨ rIsB x y H Q) wIs := by
  intro F M H x y d1 d2 Q Q' wd r1 r2 hw lk
  cases d2 with
  | non => cases r2; exact .inl ⟨rfl, lk _ H _ M (by rw [r1.isNon]; exact .bl _) wd (.refl _ _ _) hw⟩
  | bl j => cases d1 with
    | bl i => cases r1; cases r2; exact .inr ⟨i, j, rfl, rfl, lk _ H _ M (.bl _) wd (.refl _ _ _) hw⟩
    | _ => exact (show False from hw).elim
  | _ => exact (show False from hw).elim
theorem ok_isNot {K : PySem.W.Frag} : OkR K (fun x y H Q => (y = .non ∧ Q (.bl (!decide (x = .non))) H) ∨ rNotB x y H Q) wIsNot := by
  intro F M H x y d1 d2 Q Q' wd r1 r2 hw lk
  cases d2 with
  | non => cases r2; exact .inl ⟨rfl, lk _ H _ M (by rw [r1.isNon]; exact .bl _) wd (.refl _ _ _) hw⟩
  | bl j => cases d1 with
    | bl i => cases r1; cases r2; exact .inr ⟨i, j, rfl, rfl, lk _ H _ M (.bl _) wd (.refl _ _ _) hw⟩
    | _ => exact (show False from hw).elim
  | _ => exact (show False from hw).elim
theorem de_is (ha : DE X E a wa) (hb : DE X E b wb) : DE X E (.Compare a [.Is] [b] pos) (wOp wIs wa wb) := de_cmp (op_isN.or op_isBl) ok_is ha hb (nomark _)
theorem de_isnot (ha : DE X E a wa) (hb : DE X E b wb) : DE X E (.Compare a [.IsNot] [b] pos) (wOp wIsNot wa wb) := de_cmp (op_notN.or op_notBl) ok_isNot ha hb (nomark _)
/-- in a list or tuple of flat items; a text in a text -/
def wInF (neg : Bool) : DR2 := fun x y M Q => match sq M y with
  | some ds => (x.flat = true ∧ ds.all D.flat = true) ∧ Q (.bl (neg != ds.any fun z => D.eqv z x)) M
  | none => False
theorem ok_inF {K : PySem.W.Frag} {neg : Bool} : OkR K (rIn K neg) (wInF neg) := by
  intro F M H x y d1 d2 Q Q' wd r1 r2 hw lk
  unfold wInF at hw
  cases hs : sq M d2 with
  | none => rw [hs] at hw; exact hw.elim
  | some ds =>
    rw [hs] at hw
    obtain ⟨⟨h1, h2⟩, q⟩ := hw
    obtain ⟨p, xs, rfl, hq, ra⟩ := r2.sq wd hs
    refine ⟨p, xs, rfl, hq, r1.flat h1, ra.flat h2, ?_⟩
    rw [inV_rep r1 h1 ra h2]
    refine lk _ H _ M ?_ wd (.refl _ _ _) q
    cases neg
    · simp only [Bool.false_bne]; exact .bl _
    · simp only [Bool.true_bne]; exact .bl _
theorem de_inF (ha : DE X E a wa) (hb : DE X E b wb) (hm : behindInMarks .In b = false := by rfl) : DE X E (.Compare a [.In] [b] pos) (wOp (wInF false) wa wb) := de_cmp op_in_seq ok_inF ha hb hm
theorem de_notInF (ha : DE X E a wa) (hb : DE X E b wb) (hm : behindInMarks .NotIn b = false := by rfl) : DE X E (.Compare a [.NotIn] [b] pos) (wOp (wInF true) wa wb) := de_cmp op_notIn_seq ok_inF ha hb hm

/-! ### subscripts, slices, displays -/
def wIx : DR2 := fun x y M Q => match y with
  | .int i => (match x with
    | .str z => z.length ≤ sizeLine ∧ onO (atI z.cps.toList i) fun c => Q (.str ⟨#[c]⟩) M
    | x => onO (sq M x) fun ds => onO (atI ds i) fun d => Q d M)
  | _ => False
theorem ok_ix {K : PySem.W.Frag} : OkR K (rIx K) wIx := by
  intro F M H x y d1 d2 Q Q' wd r1 r2 hw lk
  have fin : ∀ {i : Int}, y = .int i → (onO (sq M d1) fun ds => onO (atI ds i) fun d => Q d M) → rIx K x y H Q' := fun {i} hy h => by
    subst hy
    obtain ⟨ds, hs, h⟩ := onO_e h
    obtain ⟨d, he, h⟩ := onO_e h
    obtain ⟨p, xs, rfl, hq, ra⟩ := r1.sq wd hs
    obtain ⟨v, hv, rv⟩ := atI_rep ra he
    rcases hq with hq | hq
    · exact .inl ⟨p, xs, i, v, rfl, rfl, hq, hv, lk v H d M rv wd (.refl _ _ _) h⟩
    · exact .inr (.inl ⟨p, xs, i, v, rfl, rfl, hq, hv, lk v H d M rv wd (.refl _ _ _) h⟩)
  cases d2 with
  | int i =>
    cases r2
    cases d1 with
    | str z =>
      cases r1
      obtain ⟨h1, h2⟩ := (show z.length ≤ sizeLine ∧ onO (atI z.cps.toList i) fun c => Q (.str ⟨#[c]⟩) M from hw)
      obtain ⟨c, he, h2⟩ := onO_e h2
      exact .inr (.inr ⟨z, i, c, rfl, rfl, h1, he, lk _ H _ M (.str _) wd (.refl _ _ _) h2⟩)
    | _ => exact fin rfl hw
  | _ => exact (show False from hw).elim
theorem de_ix (ha : DE X E a wa) (hb : DE X E b wb) (hs : PlainIx b := by intro _ _; rfl) : DE X E (.Subscript a b pos) (wOp wIx wa wb) := pe_mono (pe_ix ix_seq ha hb hs) fun _ _ _ h => lift_op ok_ix h
/-- a slice's part -/
abbrev DTO := DSt → Mem → (Option Int → Mem → Prop) → Prop
def liftO (K : PySem.W.Frag) (E : XK) (w : DTO) : TO := fun σ H Q' => ∃ F δ M Q, Sm K F H σ δ.s M ∧ LkX K E F M H δ.x ∧ w δ M Q ∧ ∀ o H' M', Wd K F M' H' → Ext F M H M' H' → Q o M' → Q' o H'
abbrev DO (X : Cx) (E : XK) (e : Option Expr) (w : DTO) : Prop := PO X e (liftO X.K E w)
theorem po_mono {X : Cx} {e : Option Expr} {t t' : TO} (h : PO X e t) (m : ∀ σ H Q, t' σ H Q → t σ H Q) : PO X e t' := ⟨fun pins s σ H Q I q => h.run pins s σ H Q I (m σ H Q q)⟩
def wNoPart : DTO := fun _ M Q => Q none M
def wPart (wa : DTE) : DTO := fun δ M Q => wa δ M fun d M1 => match d with | .int i => Q (some i) M1 | _ => False
theorem do_none : DO X E none wNoPart := po_mono po_none fun σ H Q' ⟨F, δ, M, Q, sm, lx, hw, lk⟩ => lk none H M sm.wd (.refl _ _ _) hw
theorem do_some (h : DE X E a wa) : DO X E (some a) (wPart wa) := by
  refine po_mono (po_some h) fun σ H Q' ⟨F, δ, M, Q, sm, lx, hw, lk⟩ => ?_
  refine ⟨F, δ, M, _, sm, lx, hw, fun v H1 d M1 r1 w1 e1 q1 => ?_⟩
  cases d with
  | int i => cases r1; exact ⟨i, rfl, lk _ H1 M1 w1 e1 q1⟩
  | _ => exact (show False from q1).elim
def cutD (ds : List D) (lo hi : Option Int) : List D := (ds.drop (HT.sIx ds.length 0 lo)).take (HT.sIx ds.length ds.length hi - HT.sIx ds.length 0 lo)
theorem RepAll.cut {K : PySem.W.Frag} {B : Addr → Prop} {H : Hp} {vs : List V} {ds : List D} (r : RepAll K B H vs ds) (lo hi : Option Int) : RepAll K B H (cutV vs lo hi) (cutD ds lo hi) := by
  unfold cutV cutD
  rw [r.length]
  exact (r.drop _).take _
/-- what a slice gives, by values -/
abbrev DSl := D → Option Int → Option Int → Mem → DK → Prop
def wCut : DSl := fun x lo hi M Q => match x with | .tup ds => Q (.tup (cutD ds lo hi)) M | _ => False
def wCutL : DSl := fun x lo hi M Q => match sqL M x with | some ds => Q (.lst (cutD ds lo hi)) M | none => False
def OkSl (K : PySem.W.Frag) (r : V → Option Int → Option Int → Hp → VK → Prop) (w : DSl) : Prop := ∀ F M H x lo hi d1 (Q : DK) (Q' : VK), Wd K F M H → Rep K (Bar F M) H x d1 → w d1 lo hi M Q →
  (∀ v H' d M', Rep K (Bar F M') H' v d → Wd K F M' H' → Ext F M H M' H' → Q d M' → Q' v H') → r x lo hi H Q'
def wSl (w : DSl) (wa : DTE) (wl wh : DTO) : DTE := fun δ M Q => wa δ M fun x M1 => wl δ M1 fun l M2 => wh δ M2 fun u M3 => w x l u M3 Q
theorem de_sl {r : V → Option Int → Option Int → Hp → VK → Prop} {w : DSl} {lo hi : Option Expr} {wl wh : DTO} {p2 : Pos} (hr : SlR X r) (ok : OkSl X.K r w) (ha : DE X E a wa) (hl : DO X E lo wl) (hh : DO X E hi wh) :
    DE X E (.Subscript a (.Slice lo hi none p2) pos) (wSl w wa wl wh) := by
  refine pe_mono (pe_slice hr ha hl hh) fun σ H Q' ⟨F, δ, M, Q, sm, lx, hw, lk⟩ => ?_
  refine ⟨F, δ, M, _, sm, lx, hw, fun v H1 d M1 r1 w1 e1 q1 => ?_⟩
  refine ⟨F, δ, M1, _, sm.ext w1 e1, lx.ext w1 e1, q1, fun l H2 M2 w2 e2 q2 => ?_⟩
  refine ⟨F, δ, M2, _, sm.ext w2 (Ext.trans w1 e1 e2), lx.ext w2 (Ext.trans w1 e1 e2), q2, fun u H3 M3 w3 e3 q3 => ?_⟩
  have e23 := Ext.trans w2 e2 e3
  exact ok F M3 H3 v l u d Q Q' w3 (Rep.ext w1 e23 d v r1) q3 fun v' H' d' M' r4 w4 e4 q4 => lk v' H' d' M' r4 w4 (Ext.trans w1 e1 (Ext.trans w3 e23 e4)) q4
theorem ok_cut {K : PySem.W.Frag} : OkSl K (rSlA K) wCut := by
  intro F M H x lo hi d1 Q Q' wd r1 hw lk
  cases d1 with
  | tup ds =>
    cases r1 with
    | @tup a xs _ hs ha =>
      refine ⟨a, xs, rfl, hs, fun z => ?_, fun z p hp => lk _ _ _ M (.newTup wd hp (ha.cut lo hi)) (wd.laid hp) (ext_laid hp) hw⟩
      have e : cutD ds lo hi = ds := by
        unfold cutD
        rw [← ha.length, z.1, z.2, ha.length, List.drop_zero, Nat.sub_zero, List.take_length]
      have hw : Q (.tup (cutD ds lo hi)) M := hw
      rw [e] at hw
      exact lk _ H _ M (.tup hs ha) wd (.refl _ _ _) hw
  | _ => exact (show False from hw).elim
theorem ok_cutL {K : PySem.W.Frag} : OkSl K (rSlL K) wCutL := by
  intro F M H x lo hi d1 Q Q' wd r1 hw lk
  unfold wCutL at hw
  cases hs : sqL M d1 with
  | none => rw [hs] at hw; exact hw.elim
  | some ds =>
    rw [hs] at hw
    obtain ⟨a, xs, rfl, hq, ra⟩ := r1.sqL wd hs
    exact ⟨a, xs, rfl, hq, fun p hp => lk _ _ _ M (.newLst wd hp (ra.cut lo hi)) (wd.laid hp) (ext_laid hp) hw⟩
def wCutV : DSl := fun x lo hi M Q => match x with | .tup ds => Q (.tup (cutD ds lo hi)) M | x => (match sqL M x with | some ds => Q (.lst (cutD ds lo hi)) M | none => False)
theorem slR_or {r r' : V → Option Int → Option Int → Hp → VK → Prop} (h : SlR X r) (h' : SlR X r') : SlR X (fun x lo hi H Q => r x lo hi H Q ∨ r' x lo hi H Q) := by
  intro pins s σ H x v vl vu lo hi sl Q I rx hs pl pu q
  rcases q with q | q
  · exact h pins s σ H x v vl vu lo hi sl Q I rx hs pl pu q
  · exact h' pins s σ H x v vl vu lo hi sl Q I rx hs pl pu q
theorem ok_cutV {K : PySem.W.Frag} : OkSl K (fun x lo hi H Q => rSlA K x lo hi H Q ∨ rSlL K x lo hi H Q) wCutV := by
  intro F M H x lo hi d1 Q Q' wd r1 hw lk
  cases d1 with
  | tup ds => exact .inl (ok_cut F M H x lo hi (.tup ds) Q Q' wd r1 hw lk)
  | _ => exact .inr (ok_cutL F M H x lo hi _ Q Q' wd r1 hw lk)
theorem de_cut {lo hi : Option Expr} {wl wh : DTO} {p2 : Pos} (ha : DE X E a wa) (hl : DO X E lo wl) (hh : DO X E hi wh) : DE X E (.Subscript a (.Slice lo hi none p2) pos) (wSl wCutV wa wl wh) := de_sl (slR_or sl_tupA sl_list) ok_cutV ha hl hh
theorem de_cutL {lo hi : Option Expr} {wl wh : DTO} {p2 : Pos} (ha : DE X E a wa) (hl : DO X E lo wl) (hh : DO X E hi wh) : DE X E (.Subscript a (.Slice lo hi none p2) pos) (wSl wCutL wa wl wh) := de_sl sl_list ok_cutL ha hl hh
def wTup (wr : DTA) : DTE := fun δ M Q => wr δ M fun ds M1 => ds.length ≤ sizeLine ∧ Q (.tup ds) M1
def wLst (wr : DTA) : DTE := fun δ M Q => wr δ M fun ds M1 => ds.length ≤ sizeLine ∧ Q (.lst ds) M1
/-- a display that will be changed -/
def wLstM (wr : DTA) : DTE := fun δ M Q => wr δ M fun ds M1 => ds.length ≤ sizeLine ∧ ∀ p, M1 p = none → Q (.ref p) (updM M1 p (.lst ds))
theorem de_tup {es : List Expr} {wr : DTA} {x1} (h : DA X E es wr) : DE X E (.Tuple es x1 pos) (wTup wr) := by
  refine pe_mono (pe_tup h) fun σ H Q' ⟨F, δ, M, Q, sm, lx, hw, lk⟩ => ?_
  refine ⟨F, δ, M, _, sm, lx, hw, fun vs H1 ds M1 r1 w1 e1 q1 => ⟨by rw [r1.length]; exact q1.1, fun p hp => ?_⟩⟩
  exact lk _ _ _ M1 (.newTup w1 hp r1) (w1.laid hp) (Ext.trans w1 e1 (ext_laid hp)) q1.2
theorem de_lst {es : List Expr} {wr : DTA} (h : DA X E es wr) : DE X E (.List es pos) (wLst wr) := by
  refine pe_mono (pe_lst h) fun σ H Q' ⟨F, δ, M, Q, sm, lx, hw, lk⟩ => ?_
  refine ⟨F, δ, M, _, sm, lx, hw, fun vs H1 ds M1 r1 w1 e1 q1 => ⟨by rw [r1.length]; exact q1.1, fun p hp => ?_⟩⟩
  exact lk _ _ _ M1 (.newLst w1 hp r1) (w1.laid hp) (Ext.trans w1 e1 (ext_laid hp)) q1.2
theorem de_lstM {es : List Expr} {wr : DTA} (h : DA X E es wr) : DE X E (.List es pos) (wLstM wr) := by
  refine pe_mono (pe_lst h) fun σ H Q' ⟨F, δ, M, Q, sm, lx, hw, lk⟩ => ?_
  refine ⟨F, δ, M, _, sm, lx, hw, fun vs H1 ds M1 r1 w1 e1 q1 => ⟨by rw [r1.length]; exact q1.1, fun p hp => ?_⟩⟩
  have x : Ext F M1 H1 (updM M1 p (.lst ds)) (upd H1 p (.lst vs)) := ext_laidM hp
  exact lk _ _ _ _ (.ref p) (w1.laidM (m := .lst ds) hp ⟨vs, upd_same, RepAll.ext w1 x ds vs r1⟩) (Ext.trans w1 e1 x) (q1.2 p (w1.noM hp))
/-- what was made to be changed is data from here on -/
def wFrz (wa : DTE) : DTE := fun δ M Q => wa δ M fun d M1 => match d with | .ref p => onO (moL (M1 p)) fun ds => Q (.lst ds) (delM M1 p) | _ => False
theorem bar_del {F : Addr → Prop} {M : Mem} {p a : Addr} (h : Bar F (delM M p) a) : Bar F M a := by
  rcases h with h | ⟨o, h⟩
  · exact .inl h
  · unfold delM at h
    by_cases e : a = p
    · rw [if_pos e] at h; cases h
    · rw [if_neg e] at h; exact .inr ⟨o, h⟩
theorem ext_del {F : Addr → Prop} {M : Mem} {H : Hp} {p : Addr} : Ext F M H (delM M p) H :=
  ⟨fun _ _ h _ => h, fun a o h => by
    rcases bar_del (F := fun _ => False) (.inr ⟨o, h⟩ : Bar (fun _ => False) (delM M p) a) with z | z
    · exact z.elim
    · exact .inl z⟩
theorem Wd.del {K : PySem.W.Frag} {F : Addr → Prop} {M : Mem} {H : Hp} {p : Addr} (w : Wd K F M H) : Wd K F (delM M p) H where
  mem := fun a m h => by
    have h' : M a = some m := by
      unfold delM at h
      by_cases e : a = p
      · rw [if_pos e] at h; cases h
      · rw [if_neg e] at h; exact h
    exact RepO.ext w ext_del (fun _ q => q) (w.mem a m h')
  hid := fun a h => ⟨by
    unfold delM
    by_cases e : a = p
    · rw [if_pos e]
    · rw [if_neg e]; exact (w.hid a h).1, (w.hid a h).2⟩
theorem de_frz (ha : DE X E a wa) : DE X E a (wFrz wa) := by
  refine pe_mono ha fun σ H Q' ⟨F, δ, M, Q, sm, lx, hw, lk⟩ => ?_
  refine ⟨F, δ, M, _, sm, lx, hw, fun v H1 d M1 r1 w1 e1 q1 => ?_⟩
  cases d with
  | ref p =>
    cases r1
    obtain ⟨ds, hm, q1⟩ := onO_e q1
    · have hm := moL_some hm
      obtain ⟨vs, h1, ra⟩ := w1.mem p _ hm
      refine lk _ H1 _ _ (.lst h1 ?_ (RepAll.ext w1 ext_del ds vs ra)) w1.del (Ext.trans w1 e1 ext_del) q1
      rintro (z | ⟨o, z⟩)
      · rw [(w1.hid p z).1] at hm; cases hm
      · unfold delM at z; rw [if_pos rfl] at z; cases z
  | _ => exact (show False from q1).elim
end
end Bx

set_option Elab.async false
set_option linter.all false
set_option maxRecDepth 100000
set_option maxHeartbeats 2000000
namespace Bx
open PySem PySem.Spec L2
open PyProof.Rows hiding St
open RZ (ItzT iZipA)

/-! ### targets: names, tuples of targets -/
inductive Tg where
  | nm (i : Nat)
  | tp (ts : List Tg)
mutual
def Tg.v (K : PySem.W.Frag) : Tg → TG
  | .nm i => gName i
  | .tp ts => gTup K ts.length (Tg.vs K ts)
def Tg.vs (K : PySem.W.Frag) : List Tg → TGs
  | [] => gNil
  | t :: ts => gCons (t.v K) (Tg.vs K ts)
end
mutual
/-- the slots behind the assignment -/
def Tg.set : Tg → D → List (Option D) → Option (List (Option D))
  | .nm i, d, s => some (s.set i (some d))
  | .tp ts, .tup ds, s => Tg.sets ts ds s
  | .tp _, _, _ => none
def Tg.sets : List Tg → List D → List (Option D) → Option (List (Option D))
  | [], [], s => some s
  | t :: ts, d :: ds, s => match t.set d s with | some s' => Tg.sets ts ds s' | none => none
  | _, _, _ => none
end
mutual
def Tg.ixs : Tg → List Nat
  | .nm i => [i]
  | .tp ts => Tg.ixss ts
def Tg.ixss : List Tg → List Nat
  | [] => []
  | t :: ts => t.ixs ++ Tg.ixss ts
end
theorem wipe_set_mem {σ : L2.St} {i : Nat} {v : Option V} : ∀ {vs : List Nat}, i ∈ vs → wipe (σ.set i v) vs = wipe σ vs
  | [], h => by simp at h
  | j :: vs, h => by
    unfold wipe
    by_cases e : i ∈ vs
    · rw [wipe_set_mem e]
    · have hj : i = j := by
        rcases List.mem_cons.mp h with z | z
        · exact z
        · exact absurd z e
      subst hj
      have key : ∀ (vs : List Nat), i ∉ vs → wipe (σ.set i v) vs = (wipe σ vs).set i v := fun vs => by
        induction vs with
        | nil => intro _; rfl
        | cons k vs ih =>
          intro hn
          unfold wipe
          rw [ih (fun z => hn (List.mem_cons_of_mem _ z)), List.set_comm _ _ (fun z => hn (by rw [z]; exact List.mem_cons_self))]
      rw [key vs e, List.set_set]
mutual
theorem Tg.ok {K : PySem.W.Frag} {F : Addr → Prop} {M : Mem} {H : Hp} : ∀ (t : Tg) (d : D) (v : V) (σ : L2.St) (s s' : List (Option D)) (Q : L2.St → Hp → Prop), Sm K F H σ s M → Rep K (Bar F M) H v d → t.set d s = some s' →
    (∀ σ', Sm K F H σ' s' M → (∀ vs, (∀ i ∈ t.ixs, i ∈ vs) → wipe σ' vs = wipe σ vs) → Q σ' H) → t.v K v σ H Q
  | .nm i, d, v, σ, s, s', Q, sm, r, e, lk => by
    have e : some (s.set i (some d)) = some s' := e
    cases e
    show Q (σ.set i (some v)) H
    exact lk _ ⟨sm.sl.set r i, sm.wd⟩ fun vs hv => wipe_set_mem (hv i (by simp [Tg.ixs]))
  | .tp ts, d, v, σ, s, s', Q, sm, r, e, lk => by
    cases d with
    | tup ds =>
      have e : Tg.sets ts ds s = some s' := e
      cases r with
      | @tup a xs _ hs ha =>
        have hl : xs.length = ts.length := by rw [ha.length]; exact Tg.sets_len ts ds s s' e
        exact ⟨a, xs, rfl, hs, hl, Tg.oks ts ds xs σ s s' Q sm ha e fun σ' sm' hw => lk σ' sm' fun vs hv => hw vs hv⟩
    | _ => cases (show none = some s' from e)
theorem Tg.oks {K : PySem.W.Frag} {F : Addr → Prop} {M : Mem} {H : Hp} : ∀ (ts : List Tg) (ds : List D) (xs : List V) (σ : L2.St) (s s' : List (Option D)) (Q : L2.St → Hp → Prop), Sm K F H σ s M → RepAll K (Bar F M) H xs ds → Tg.sets ts ds s = some s' →
    (∀ σ', Sm K F H σ' s' M → (∀ vs, (∀ i ∈ Tg.ixss ts, i ∈ vs) → wipe σ' vs = wipe σ vs) → Q σ' H) → Tg.vs K ts xs σ H Q
  | [], [], xs, σ, s, s', Q, sm, r, e, lk => by
    cases e
    cases r
    exact ⟨rfl, lk σ sm fun _ _ => rfl⟩
  | t :: ts, d :: ds, xs, σ, s, s', Q, sm, r, e, lk => by
    cases r with
    | @cons v vs _ _ r1 r2 =>
      have e' : (match t.set d s with | some s1 => Tg.sets ts ds s1 | none => none) = some s' := e
      cases h1 : t.set d s with
      | none => rw [h1] at e'; cases e'
      | some s1 =>
        rw [h1] at e'
        refine ⟨v, vs, rfl, Tg.ok t d v σ s s1 _ sm r1 h1 fun σ1 sm1 w1 => ?_⟩
        exact Tg.oks ts ds vs σ1 s1 s' Q sm1 r2 e' fun σ2 sm2 w2 => lk σ2 sm2 fun vs hv => (w2 vs fun i hi => hv i (List.mem_append_right _ hi)).trans (w1 vs fun i hi => hv i (List.mem_append_left _ hi))
  | [], _ :: _, _, _, _, _, _, _, _, e, _ => by cases e
  | _ :: _, [], _, _, _, _, _, _, _, e, _ => by cases e
theorem Tg.sets_len : ∀ (ts : List Tg) (ds : List D) (s s' : List (Option D)), Tg.sets ts ds s = some s' → ds.length = ts.length
  | [], [], _, _, _ => rfl
  | t :: ts, d :: ds, s, s', e => by
    have e' : (match t.set d s with | some s1 => Tg.sets ts ds s1 | none => none) = some s' := e
    cases h1 : t.set d s with
    | none => rw [h1] at e'; cases e'
    | some s1 => rw [h1] at e'; exact congrArg (· + 1) (Tg.sets_len ts ds s1 s' e')
  | [], _ :: _, _, _, e => by cases e
  | _ :: _, [], _, _, e => by cases e
end
/-- s with v at i, handed on -/
def setK : List (Option D) → Nat → Option D → (List (Option D) → Prop) → Prop
  | [], _, _, k => k []
  | _ :: xs, 0, v, k => k (v :: xs)
  | x :: xs, i + 1, v, k => setK xs i v fun ys => k (x :: ys)
theorem setK_eq : ∀ (s : List (Option D)) (i : Nat) (v : Option D) (k : List (Option D) → Prop), setK s i v k = k (s.set i v)
  | [], _, _, _ => rfl
  | _ :: _, 0, _, _ => rfl
  | x :: xs, i + 1, v, k => setK_eq xs i v fun ys => k (x :: ys)
mutual
def Tg.setK : Tg → D → List (Option D) → (List (Option D) → Prop) → Prop
  | .nm i, d, s, k => Bx.setK s i (some d) k
  | .tp ts, .tup ds, s, k => Tg.setsK ts ds s k
  | .tp _, _, _, _ => False
def Tg.setsK : List Tg → List D → List (Option D) → (List (Option D) → Prop) → Prop
  | [], [], s, k => k s
  | t :: ts, d :: ds, s, k => Tg.setK t d s fun s' => Tg.setsK ts ds s' k
  | _, _, _, _ => False
end
mutual
theorem Tg.setK_e : ∀ (t : Tg) (d : D) (s : List (Option D)) (k : List (Option D) → Prop), t.setK d s k → ∃ s', t.set d s = some s' ∧ k s'
  | .nm i, d, s, k, h => by
    have h : Bx.setK s i (some d) k := h
    rw [setK_eq] at h
    exact ⟨_, rfl, h⟩
  | .tp ts, d, s, k, h => by
    cases d with
    | tup ds => exact Tg.setsK_e ts ds s k h
    | _ => exact (show False from h).elim
theorem Tg.setsK_e : ∀ (ts : List Tg) (ds : List D) (s : List (Option D)) (k : List (Option D) → Prop), Tg.setsK ts ds s k → ∃ s', Tg.sets ts ds s = some s' ∧ k s'
  | [], [], s, k, h => ⟨s, rfl, h⟩
  | t :: ts, d :: ds, s, k, h => by
    obtain ⟨s1, e1, h1⟩ := Tg.setK_e t d s _ h
    obtain ⟨s2, e2, h2⟩ := Tg.setsK_e ts ds s1 k h1
    exact ⟨s2, by show (match t.set d s with | some s' => Tg.sets ts ds s' | none => none) = _; rw [e1]; exact e2, h2⟩
  | [], _ :: _, _, _, h => (show False from h).elim
  | _ :: _, [], _, _, h => (show False from h).elim
end
abbrev DG (X : Cx) (target : Expr) (t : Tg) : Prop := PG X target (t.v X.K)
abbrev DGs (X : Cx) (ts : List Expr) (us : List Tg) : Prop := PGs X ts (Tg.vs X.K us)
section
variable {X : Cx} {E : XK} {k : Nat} {a b c e : Expr} {wa wb wc : DTE} {ta tb : DTT} {pos : Pos}
theorem dg_nm (hX : DX X E k) (i : Nat) {x : Str} (hi : X.N[i]? = some x := by rfl) (hx : Loc X.env.scope x := by first | exact .inl rfl | exact .inr rfl) (hf : X.fn x = true ∨ X.env.scope.names.lookup x = some .local := by first | exact .inl rfl | exact .inr rfl) : DG X (.Name x pos) (.nm i) :=
  pg_name hX.nd hi hx hf
theorem dgs_nil : DGs X [] [] := pgs_nil
theorem dgs_cons {e : Expr} {es : List Expr} {t : Tg} {ts : List Tg} (h1 : DG X e t) (h2 : DGs X es ts) (hs : (assignEach (e :: es) X.env).map (·.2) = assign e X.env :: (assignEach es X.env).map (·.2) := by rfl) : DGs X (e :: es) (t :: ts) := pgs_cons h1 h2 hs
theorem dg_tup {es : List Expr} {n : Nat} {ts : List Tg} (hX : DX X E k) (h : DGs X es ts) (hn : (assignEach es X.env).length = ts.length := by rfl) (hst : (assignEach es X.env).findIdx? (·.1) = none := by rfl) : DG X (.Tuple es n pos) (.tp ts) :=
  pg_tup hX.calm h hn hst

/-! ### statements -/
def wNext : DTS := fun D δ M => D.nx δ M
def wSeq (t u : DTS) : DTS := fun D δ M => t { D with nx := u D } δ M
theorem dss_nil : DSs X E [] wNext := pss_mono pss_nil fun Dh σ H ⟨F, δ, M, Dd, sm, lx, ld, hw⟩ => ld.nx σ H δ M sm (.refl _ _ _) rfl hw
theorem dss_cons {st : Stmt} {rest : List Stmt} {t u : DTS} (h1 : DS X E st t) (h2 : DSs X E rest u) : DSs X E (st :: rest) (wSeq t u) := by
  refine pss_mono (pss_cons h1 h2) fun Dh σ H ⟨F, δ, M, Dd, sm, lx, ld, hw⟩ => ?_
  refine ⟨F, δ, M, { Dd with nx := u Dd }, sm, lx, ⟨fun σ' H' δ' M' s' e' ex q => ?_, ld.rt, ld.bk, ld.ct⟩, hw⟩
  exact ⟨F, δ', M', Dd, s', by rw [ex]; exact lx.ext s'.wd e', by rw [ex]; exact ld.ext s'.wd e', q⟩
theorem dss_one {st : Stmt} {t : DTS} (h1 : DS X E st t) : DSs X E [st] t := pss_one h1
def wDrop (wa : DTE) : DTS := fun D δ M => wa δ M fun _ M1 => D.nx δ M1
theorem ds_expr (he : DE X E e wa) (hs : swapsWith e none pos.line X.env = pure false := by rfl) : DS X E (.Expr e pos) (wDrop wa) := by
  refine ps_mono (ps_expr he hs) fun Dh σ H ⟨F, δ, M, Dd, sm, lx, ld, hw⟩ => ?_
  exact ⟨F, δ, M, _, sm, lx, hw, fun v H1 d M1 r1 w1 e1 q1 => ld.nx σ H1 δ M1 (sm.ext w1 e1) e1 rfl q1⟩
def wRet (wa : DTE) : DTS := fun D δ M => wa δ M D.rt
theorem ds_ret (he : DE X E e wa) : DS X E (.Return (some e) pos) (wRet wa) := by
  refine ps_mono (ps_ret he) fun Dh σ H ⟨F, δ, M, Dd, sm, lx, ld, hw⟩ => ?_
  exact ⟨F, δ, M, _, sm, lx, hw, fun v H1 d M1 r1 w1 e1 q1 => ld.rt v H1 d M1 r1 w1 e1 q1⟩
def wRetN : DTS := fun D _ M => D.rt .non M
theorem ds_retN : DS X E (.Return none pos) wRetN := ps_mono ps_retN fun Dh σ H ⟨F, δ, M, Dd, sm, lx, ld, hw⟩ => ld.rt _ H _ M .non sm.wd (.refl _ _ _) hw
theorem ds_pass : DS X E (.Pass pos) wNext := ps_mono ps_pass fun Dh σ H ⟨F, δ, M, Dd, sm, lx, ld, hw⟩ => ld.nx σ H δ M sm (.refl _ _ _) rfl hw
def wBreak : DTS := fun D δ M => D.bk δ M
def wCont : DTS := fun D δ M => D.ct δ M
theorem ds_break : DS X E (.Break pos) wBreak := ps_mono ps_break fun Dh σ H ⟨F, δ, M, Dd, sm, lx, ld, hw⟩ => ld.bk σ H δ M sm (.refl _ _ _) rfl hw
theorem ds_continue : DS X E (.Continue pos) wCont := ps_mono ps_continue fun Dh σ H ⟨F, δ, M, Dd, sm, lx, ld, hw⟩ => ld.ct σ H δ M sm (.refl _ _ _) rfl hw
def wIf (tc : DTT) (t u : DTS) : DTS := fun D δ M => tc δ M fun b M1 => onT b (t D δ M1) (u D δ M1)
theorem ds_if {c : Expr} {x y : List Stmt} {tc : DTT} {t u : DTS} (hc : DT X E c tc) (ha : DSs X E x t) (hb : DSs X E y u) : DS X E (.If c x y pos) (wIf tc t u) := by
  refine ps_mono (ps_if hc ha hb) fun Dh σ H ⟨F, δ, M, Dd, sm, lx, ld, hw⟩ => ?_
  refine ⟨F, δ, M, _, sm, lx, hw, fun b H1 M1 w1 e1 q1 => ?_⟩
  cases b with
  | true => exact ite_tt ⟨F, δ, M1, Dd, sm.ext w1 e1, lx.ext w1 e1, ld.ext w1 e1, q1⟩
  | false => exact ite_ff ⟨F, δ, M1, Dd, sm.ext w1 e1, lx.ext w1 e1, ld.ext w1 e1, q1⟩
/-- target = e -/
def wAsg (wa : DTE) (t : Tg) : DTS := fun D ⟨s0, x0⟩ M => wa ⟨s0, x0⟩ M fun d M1 => t.setK d s0 fun s => D.nx ⟨s, x0⟩ M1
theorem ds_asg {tg : Expr} {t : Tg} (he : DE X E e wa) (hg : DG X tg t) (hs : swapsWithSole [tg] e pos.line X.env = pure false := by rfl) (hw : swappedStores [tg] e X.env = pure none := by rfl) (h1 : (assignEach [tg] X.env).map (·.2) = [assign tg X.env] := by rfl) : DS X E (.Assign [tg] e pos) (wAsg wa t) := by
  refine ps_mono (ps_asg he hg hs hw h1) fun Dh σ H ⟨F, δ, M, Dd, sm, lx, ld, hw⟩ => ?_
  refine ⟨F, δ, M, _, sm, lx, hw, fun v H1 d M1 r1 w1 e1 q1 => ?_⟩
  obtain ⟨s, hs, q1⟩ := Tg.setK_e t d δ.s _ q1
  exact Tg.ok t d v σ δ.s s _ (sm.ext w1 e1) r1 hs fun σ' sm' _ => ld.nx σ' H1 ⟨s, δ.x⟩ M1 sm' e1 rfl q1
theorem ds_set (hX : DX X E k) (i : Nat) {x : Str} {pos' : Pos} (he : DE X E e wa) (hi : X.N[i]? = some x := by rfl) (hx : Loc X.env.scope x := by first | exact .inl rfl | exact .inr rfl) (hs : swapsWith e (some (.Name x pos')) pos.line X.env = pure false := by rfl) (hf : X.fn x = true ∨ X.env.scope.names.lookup x = some .local := by first | exact .inl rfl | exact .inr rfl) :
    DS X E (.Assign [.Name x pos'] e pos) (wAsg wa (.nm i)) := by
  refine ps_mono (ps_set hX.nd hi hx he hs hf) fun Dh σ H ⟨F, δ, M, Dd, sm, lx, ld, hw⟩ => ?_
  refine ⟨F, δ, M, _, sm, lx, hw, fun v H1 d M1 r1 w1 e1 q1 => ?_⟩
  have q1 : setK δ.s i (some d) fun s => Dd.nx ⟨s, δ.x⟩ M1 := q1
  rw [setK_eq] at q1
  exact ld.nx _ H1 ⟨δ.s.set i (some d), δ.x⟩ M1 ⟨(sm.ext w1 e1).sl.set r1 i, w1⟩ e1 rfl q1
/-- x, y = a, b -/
def wPar (i j : Nat) (wr : DTA) : DTS := fun D ⟨s0, x0⟩ M => wr ⟨s0, x0⟩ M fun ds M1 => match ds with | [d, e] => setK s0 i (some d) fun s1 => setK s1 j (some e) fun s2 => D.nx ⟨s2, x0⟩ M1 | _ => False
theorem ds_par (hX : DX X E k) (i j : Nat) {x y : Str} {wr : DTA} {px py pt : Pos} {kt k2 pt2} (ha : DA X E [a, b] wr) (hw : swappedStores [.Tuple [.Name x px, .Name y py] kt pt] (.Tuple [a, b] k2 pt2) X.env = pure (some [x, y]) := by rfl) (hij : i ≠ j := by decide) (hi : X.N[i]? = some x := by rfl) (hj : X.N[j]? = some y := by rfl)
    (hx : X.env.scope.names.lookup x = some .local := by rfl) (hy : X.env.scope.names.lookup y = some .local := by rfl) 
    (hs : swapsWithSole [.Tuple [.Name x px, .Name y py] kt pt] (.Tuple [a, b] k2 pt2) pos.line X.env = pure false := by rfl) :
    DS X E (.Assign [.Tuple [.Name x px, .Name y py] kt pt] (.Tuple [a, b] k2 pt2) pos) (wPar i j wr) := by
  refine ps_mono (ps_par hX.calm hX.nd hi hj hij hx hy ha hw hs) fun Dh σ H ⟨F, δ, M, Dd, sm, lx, ld, hw⟩ => ?_
  refine ⟨F, δ, M, _, sm, lx, hw, fun vs H1 ds M1 r1 w1 e1 q1 => ?_⟩
  match ds, r1, q1 with
  | [d, e], .cons h1 (.cons h2 .nil), q1 =>
    have q1 : setK δ.s i (some d) fun s1 => setK s1 j (some e) fun s2 => Dd.nx ⟨s2, δ.x⟩ M1 := q1
    rw [setK_eq, setK_eq] at q1
    refine ⟨_, _, rfl, ld.nx _ H1 ⟨(δ.s.set i (some d)).set j (some e), δ.x⟩ M1 ⟨((sm.ext w1 e1).sl.set h1 i).set h2 j, w1⟩ e1 rfl q1⟩
/-- a statement never reached -/
def wNever : DTS := fun _ _ _ => False
theorem ds_never {st : Stmt} : DS X E st wNever := ps_mono ps_never fun Dh σ H ⟨F, δ, M, Dd, sm, lx, ld, hw⟩ => hw
theorem dss_never {st : List Stmt} : DSs X E st wNever := pss_mono pss_never fun Dh σ H ⟨F, δ, M, Dd, sm, lx, ld, hw⟩ => hw

/-! ### while -/
/-- a loop under a test from here on -/
structure WhGoal (tc : DTT) (tb : DTS) (D : DEnds) (δ : DSt) (M : Mem) : Prop where
  ex : ∃ W : Nat → DSt → Mem → Prop, (∃ m, W m δ M) ∧ ∀ m δ M, W m δ M →
    tc δ M fun b M1 => onT b (tb { D with nx := fun δ' M' => ∃ m', m' < m ∧ W m' δ' M', ct := fun δ' M' => ∃ m', m' < m ∧ W m' δ' M', bk := D.nx } δ M1) (D.nx δ M1)
def wWhile (tc : DTT) (tb : DTS) : DTS := fun D δ M => WhGoal tc tb D δ M
theorem ds_while {body : List Stmt} {tc : DTT} {tb : DTS} (hX : DX X E k) (hc : DT X E c tc) (hb : DSs X E body tb) : DS X E (.While c body [] pos) (wWhile tc tb) := by
  refine ps_mono (ps_while hX.po hc hb) fun Dh σ H ⟨F, δ, M, Dd, sm, lx, ld, ⟨W, ⟨m0, w0⟩, turn⟩⟩ => ?_
  refine ⟨fun m σ1 H1 => ∃ δ1 M1, Sm X.K F H1 σ1 δ1.s M1 ∧ Ext F M H M1 H1 ∧ δ1.x = δ.x ∧ W m δ1 M1, ⟨m0, δ, M, sm, .refl _ _ _, rfl, w0⟩, fun m σ1 H1 ⟨δ1, M1, sm1, e1, ex1, w1⟩ => ?_⟩
  refine ⟨F, δ1, M1, _, sm1, by rw [ex1]; exact lx.ext sm1.wd e1, turn m δ1 M1 w1, fun b H2 M2 w2 e2 q2 => ?_⟩
  have e12 := Ext.trans sm1.wd e1 e2
  cases b with
  | true =>
    refine ite_tt ⟨fun σ' H' => ∃ m', m' < m ∧ ∃ δ1 M1, Sm X.K F H' σ' δ1.s M1 ∧ Ext F M H M1 H' ∧ δ1.x = δ.x ∧ W m' δ1 M1, fun σ' H' h => h, ?_⟩
    have nxt : ∀ σ' H' δ' M', Sm X.K F H' σ' δ'.s M' → Ext F M2 H2 M' H' → δ'.x = δ1.x → (∃ m', m' < m ∧ W m' δ' M') → ∃ m', m' < m ∧ ∃ δ1 M1, Sm X.K F H' σ' δ1.s M1 ∧ Ext F M H M1 H' ∧ δ1.x = δ.x ∧ W m' δ1 M1 :=
      fun σ' H' δ' M' s' e' ex' ⟨m', hm, wm⟩ => ⟨m', hm, δ', M', s', Ext.trans w2 e12 e', ex'.trans ex1, wm⟩
    have lk2 := ld.ext w2 e12
    exact ⟨F, δ1, M2, { Dd with nx := fun δ' M' => ∃ m', m' < m ∧ W m' δ' M', ct := fun δ' M' => ∃ m', m' < m ∧ W m' δ' M', bk := Dd.nx }, sm1.ext w2 e2, by rw [ex1]; exact lx.ext w2 e12, ⟨nxt, lk2.rt, by rw [ex1]; exact lk2.nx, nxt⟩, q2⟩
  | false => exact ite_ff (ld.nx σ1 H2 δ1 M2 (sm1.ext w2 e2) e12 ex1 q2)

/-! ### what a loop walks -/
abbrev DTI := DSt → Mem → (List D → Mem → Prop) → Prop
/-- from M1, H1 on the iterator yields ds -/
def ItOk (K : PySem.W.Frag) (F : Addr → Prop) (M1 : Mem) (H1 : Hp) (J : It) (ds : List D) : Prop :=
  ∀ F' M H, (∀ a, F' a → Bar F M1 a ∨ H1 a = none) → Wd K F' M H → Ext F M1 H1 M H →
    (∀ (i : Nat) d, ds[i]? = some d → J.go i H ∧ ∀ x H', J.yld i H x H' → Rep K (Bar F' M) H' x d ∧ Wd K F' M H' ∧ Ext F' M H M H') ∧ ∀ i, ds.length ≤ i → J.stop i H
def liftI (K : PySem.W.Frag) (E : XK) (w : DTI) : TI := fun σ H R => ∃ F δ M Q, Sm K F H σ δ.s M ∧ LkX K E F M H δ.x ∧ w δ M Q ∧ ∀ J H' ds M', Wd K F M' H' → ItOk K F M' H' J ds → Ext F M H M' H' → Q ds M' → R J H'
abbrev DI (X : Cx) (E : XK) (tg iter : Expr) (w : DTI) : Prop := PI X tg iter (liftI X.K E w)
theorem pi_mono {tg iter : Expr} {t t' : TI} (h : PI X tg iter t) (m : ∀ σ H R, t' σ H R → t σ H R) : PI X tg iter t' := ⟨fun pins s σ H R I q => h.run pins s σ H R I (m σ H R q)⟩
theorem itOk_tup {K : PySem.W.Frag} {F : Addr → Prop} {M1 : Mem} {H1 : Hp} {a : Addr} {xs : List V} {ds : List D} (w : Wd K F M1 H1) (hs : SqT K H1 a xs) (ha : RepAll K (Bar F M1) H1 xs ds) : ItOk K F M1 H1 (Itt K a) ds := by
  intro F' M H hF wd e
  have hs' := SqT.ext w e hs
  refine ⟨fun i d hd => ?_, fun i hi => ⟨xs, hs', by rw [ha.length]; exact hi⟩⟩
  obtain ⟨v, hv, rv⟩ := ha.get hd
  refine ⟨⟨xs, v, hs', hv⟩, fun x H' ⟨eH, hx⟩ => ?_⟩
  subst eH
  have : x = v := Option.some.inj ((hx xs hs').symm.trans hv)
  subst this
  exact ⟨Rep.extF w e hF d x rv, wd, .refl _ _ _⟩
theorem itOk_lst {K : PySem.W.Frag} {F : Addr → Prop} {M1 : Mem} {H1 : Hp} {a : Addr} {xs : List V} {ds : List D} (w : Wd K F M1 H1) (hs : ∀ M H, Ext F M1 H1 M H → SqL K H a xs) (ha : RepAll K (Bar F M1) H1 xs ds) : ItOk K F M1 H1 (Itl K a) ds := by
  intro F' M H hF wd e
  have hs' := hs M H e
  refine ⟨fun i d hd => ?_, fun i hi => ⟨xs, hs', by rw [ha.length]; exact hi⟩⟩
  obtain ⟨v, hv, rv⟩ := ha.get hd
  refine ⟨⟨xs, v, hs', hv⟩, fun x H' ⟨eH, hx⟩ => ?_⟩
  subst eH
  have : x = v := Option.some.inj ((hx xs hs').symm.trans hv)
  subst this
  exact ⟨Rep.extF w e hF d x rv, wd, .refl _ _ _⟩
/-- over a list or a tuple -/
def iSeq (K : PySem.W.Frag) (tl : TE) : TI := fun σ H R => tl σ H fun x H1 => ∃ a, x = .ref a ∧ (((∃ xs, SqL K H1 a xs) ∧ R (Itl K a) H1) ∨ ((∃ xs, SqT K H1 a xs) ∧ R (Itt K a) H1))
theorem pi_seq {tg l : Expr} {tl : TE} (hl : PE X l tl) : PI X tg l (iSeq X.K tl) := by
  refine ⟨fun pins s σ H R I h => ?_⟩
  refine thn (hl.run pins s σ H _ I h) fun v s1 ⟨x, H1, I1, r1, q1⟩ => ?_
  obtain ⟨a, e, q⟩ := q1
  subst e
  cases r1
  rcases q with ⟨⟨xs, hq⟩, q⟩ | ⟨⟨xs, hq⟩, q⟩
  · obtain ⟨its, rv, p, hz⟩ := I1.list hq
    refine wpAny_pyIter_list p.isList ?_
    refine ⟨s1.heap.objs.size, [s1.heap.objs.size], _, _, H1, rfl, I1.kept (t' := s1.toks) fun b o e => Heap.get?_push_of_some _ e, turn_list a _, ⟨_, Heap.get?_push_size _ rfl, rfl, rfl⟩, fun b hb => ?_, q⟩
    have e : b = s1.heap.objs.size := by simpa using hb
    subst e
    exact I1.fpOk (Nat.le_refl _) (I1.hok.fresh (Nat.le_refl _))
  · obtain ⟨its, rv, p, hz⟩ := I1.tuple hq
    refine wpAny_pyIter_tuple (show s1.heap.IsTuple a its.toArray from p) ?_
    refine ⟨s1.heap.objs.size, [s1.heap.objs.size], _, _, H1, rfl, I1.kept (t' := s1.toks) fun b o e => Heap.get?_push_of_some _ e, turn_tuple a _, ⟨_, Heap.get?_push_size _ rfl, rfl, rfl⟩, fun b hb => ?_, q⟩
    have e : b = s1.heap.objs.size := by simpa using hb
    subst e
    exact I1.fpOk (Nat.le_refl _) (I1.hok.fresh (Nat.le_refl _))
def sqI : D → Option (List D)
  | .tup ds => some ds
  | .lst ds => some ds
  | .fro ds => some ds
  | _ => none
def wSeqI (wa : DTE) : DTI := fun δ M Q => wa δ M fun d M1 => match sqI d with | some ds => Q ds M1 | none => False
theorem di_seq {tg : Expr} (ha : DE X E a wa) : DI X E tg a (wSeqI wa) := by
  refine pi_mono (pi_seq ha) fun σ H R ⟨F, δ, M, Q, sm, lx, hw, lk⟩ => ?_
  refine ⟨F, δ, M, _, sm, lx, hw, fun v H1 d M1 r1 w1 e1 q1 => ?_⟩
  cases d with
  | tup ds => cases r1 with | @tup a xs _ hs ra => exact ⟨a, rfl, .inr ⟨⟨xs, hs⟩, lk _ H1 ds M1 w1 (itOk_tup w1 hs ra) e1 q1⟩⟩
  | lst ds => cases r1 with | @lst a xs _ hs n ra => exact ⟨a, rfl, .inl ⟨⟨xs, .of hs⟩, lk _ H1 ds M1 w1 (itOk_lst w1 (fun M H e => .of (e.keep _ _ hs (.inr (bar_none n)))) ra) e1 q1⟩⟩
  | fro ds => cases r1 with | @fro a xs _ hs ra => exact ⟨a, rfl, .inl ⟨⟨xs, hs.sql⟩, lk _ H1 ds M1 w1 (itOk_lst w1 (fun M H e => (SqF.ext w1 e hs).sql) ra) e1 q1⟩⟩
  | _ => exact (show False from q1).elim
/-- range(n), range(a, b) -/
def rngD (lo : Int) (n : Nat) : List D := (List.range n).map fun i => .int (lo + (i : Nat))
theorem rngD_get {lo : Int} {n i : Nat} {d : D} (h : (rngD lo n)[i]? = some d) : i < n ∧ d = .int (lo + (i : Nat)) := by
  unfold rngD at h
  rw [List.getElem?_map] at h
  by_cases hi : i < n
  · rw [List.getElem?_range hi] at h
    exact ⟨hi, (Option.some.inj h).symm⟩
  · rw [List.getElem?_eq_none (by simpa using hi)] at h; cases h
theorem rngD_len {lo : Int} {n : Nat} : (rngD lo n).length = n := by unfold rngD; simp
theorem itOk_rng {K : PySem.W.Frag} {F : Addr → Prop} {M1 : Mem} {H1 : Hp} {lo : Int} {n : Nat} : ItOk K F M1 H1 (Itr lo n) (rngD lo n) := by
  intro F' M H hF wd e
  refine ⟨fun i d hd => ?_, fun i hi => by rw [rngD_len] at hi; exact hi⟩
  obtain ⟨h1, h2⟩ := rngD_get hd
  refine ⟨h1, fun x H' ⟨eH, hx⟩ => ?_⟩
  subst eH; subst hx; subst h2
  exact ⟨.int _, wd, .refl _ _ _⟩
def wRng1 (wr : DTA) : DTI := fun δ M Q => wr δ M fun ds M1 => match ds with | [.int j] => (-(2 ^ 62) ≤ j ∧ j < 2 ^ 62) ∧ Q (rngD 0 j.toNat) M1 | _ => False
def wRng2 (wr : DTA) : DTI := fun δ M Q => wr δ M fun ds M1 => match ds with | [.int i, .int j] => (-(2 ^ 62) ≤ i ∧ i < 2 ^ 62 ∧ -(2 ^ 62) ≤ j ∧ j < 2 ^ 62) ∧ Q (rngD i (j - i).toNat) M1 | _ => False
theorem di_rng1 {tg : Expr} {wr : DTA} {p : Pos} (hm : X.mg "range" = none) (ha : DA X E [a] wr) (hg : Gl X "range" := by rfl) (hs : starEach [a] X.env = [(false, eval a X.env)] := by rfl) : DI X E tg (.Call (.Name "range" p) [a] [] pos) (wRng1 wr) := by
  refine pi_mono (pi_range1 hg hm ha hs) fun σ H R ⟨F, δ, M, Q, sm, lx, hw, lk⟩ => ?_
  refine ⟨F, δ, M, _, sm, lx, hw, fun vs H1 ds M1 r1 w1 e1 q1 => ?_⟩
  match ds, r1, q1 with
  | [.int j], .cons h1 .nil, q1 => cases h1; exact ⟨j, rfl, q1.1.1, q1.1.2, lk _ H1 _ M1 w1 itOk_rng e1 q1.2⟩
theorem di_rng2 {tg : Expr} {wr : DTA} {p : Pos} (hm : X.mg "range" = none) (ha : DA X E [a, b] wr) (hg : Gl X "range" := by rfl) (hs : starEach [a, b] X.env = [(false, eval a X.env), (false, eval b X.env)] := by rfl) (hs2 : starEach [b] X.env = [(false, eval b X.env)] := by rfl) : DI X E tg (.Call (.Name "range" p) [a, b] [] pos) (wRng2 wr) := by
  refine pi_mono (pi_range2 hg hm ha hs hs2) fun σ H R ⟨F, δ, M, Q, sm, lx, hw, lk⟩ => ?_
  refine ⟨F, δ, M, _, sm, lx, hw, fun vs H1 ds M1 r1 w1 e1 q1 => ?_⟩
  match ds, r1, q1 with
  | [.int i, .int j], .cons h1 (.cons h2 .nil), q1 => cases h1; cases h2; exact ⟨i, j, rfl, q1.1, lk _ H1 _ M1 w1 itOk_rng e1 q1.2⟩
/-- zip of two lists, of two tuples -/
def zipD (xs ys : List D) : List D := (xs.zip ys).map fun p => .tup [p.1, p.2]
theorem zipD_get {xs ys : List D} {i : Nat} {d : D} (h : (zipD xs ys)[i]? = some d) : ∃ x y, xs[i]? = some x ∧ ys[i]? = some y ∧ d = .tup [x, y] := by
  unfold zipD at h
  rw [List.getElem?_map] at h
  cases e : (xs.zip ys)[i]? with
  | none => rw [e] at h; cases h
  | some p =>
    rw [e] at h
    have := List.getElem?_zip_eq_some.mp e
    exact ⟨p.1, p.2, this.1, this.2, (Option.some.inj h).symm⟩
def wZip (wr : DTA) : DTI := fun δ M Q => wr δ M fun ds M1 => match ds with
  | [.lst xs, .lst ys] => Q (zipD xs ys) M1
  | [.tup xs, .tup ys] => Q (zipD xs ys) M1
  | _ => False
theorem zipD_len {xs ys : List D} : (zipD xs ys).length = min xs.length ys.length := by unfold zipD; simp
theorem di_zip {wr : DTA} {p tpos : Pos} {elts : List Expr} {kk : Nat} (hm : X.mg "zip" = none) (ha : DA X E [a, b] wr) (hg : Gl X "zip" := by rfl) (hs : starEach [a, b] X.env = (false, eval a X.env) :: starEach [b] X.env := by rfl) (hpl : (backTo pos (starEach [b] X.env)).any (·.1) = false := by rfl) :
    DI X E (.Tuple elts kk tpos) (.Call (.Name "zip" p) [a, b] [] pos) (wZip wr) := by
  refine pi_mono (RZ.pi_zipA hg hm ha hs hpl) fun σ H R ⟨F, δ, M, Q, sm, lx, hw, lk⟩ => ?_
  refine ⟨F, δ, M, _, sm, lx, hw, fun vs H1 ds M1 r1 w1 e1 q1 => ?_⟩
  match ds, r1, q1 with
  | [.lst xs, .lst ys], .cons (.lst (a := p) (xs := us) h1 n1 a1) (.cons (.lst (a := q) (xs := zs) h2 n2 a2) .nil), q1 =>
    refine ⟨p, q, us, zs, rfl, .inl ⟨.of h1, .of h2, lk _ H1 _ M1 w1 ?_ e1 q1⟩⟩
    intro F' M' H' hF wd e
    have s1 : SqL X.K H' p us := .of (e.keep _ _ h1 (.inr (bar_none n1)))
    have s2 : SqL X.K H' q zs := .of (e.keep _ _ h2 (.inr (bar_none n2)))
    refine ⟨fun i d hd => ?_, fun i hi => ⟨us, zs, s1, s2, by rw [zipD_len] at hi; rw [a1.length, a2.length]; omega⟩⟩
    obtain ⟨x, y, hx, hy, rfl⟩ := zipD_get hd
    obtain ⟨vx, hvx, rx⟩ := a1.get hx
    obtain ⟨vy, hvy, ry⟩ := a2.get hy
    refine ⟨⟨us, zs, vx, vy, s1, s2, hvx, hvy⟩, fun v H2 ⟨T, x', y', ev, nT, eH, fx, fy⟩ => ?_⟩
    subst ev; subst eH
    have : x' = vx := Option.some.inj ((fx us s1).symm.trans hvx)
    subst this
    have : y' = vy := Option.some.inj ((fy zs s2).symm.trans hvy)
    subst this
    exact ⟨.newTup wd nT (.cons (Rep.extF w1 e hF x _ rx) (.cons (Rep.extF w1 e hF y _ ry) .nil)), wd.laid nT, ext_laid nT⟩
  | [.tup xs, .tup ys], .cons (.tup (a := p) (xs := us) h1 a1) (.cons (.tup (a := q) (xs := zs) h2 a2) .nil), q1 =>
    refine ⟨p, q, us, zs, rfl, .inr ⟨h1, h2, lk _ H1 _ M1 w1 ?_ e1 q1⟩⟩
    intro F' M' H' hF wd e
    have s1 : SqT X.K H' p us := SqT.ext w1 e h1
    have s2 : SqT X.K H' q zs := SqT.ext w1 e h2
    refine ⟨fun i d hd => ?_, fun i hi => ⟨us, zs, s1, s2, by rw [zipD_len] at hi; rw [a1.length, a2.length]; omega⟩⟩
    obtain ⟨x, y, hx, hy, rfl⟩ := zipD_get hd
    obtain ⟨vx, hvx, rx⟩ := a1.get hx
    obtain ⟨vy, hvy, ry⟩ := a2.get hy
    refine ⟨⟨us, zs, vx, vy, s1, s2, hvx, hvy⟩, fun v H2 ⟨T, x', y', ev, nT, eH, fx, fy⟩ => ?_⟩
    subst ev; subst eH
    have : x' = vx := Option.some.inj ((fx us s1).symm.trans hvx)
    subst this
    have : y' = vy := Option.some.inj ((fy zs s2).symm.trans hvy)
    subst this
    exact ⟨.newTup wd nT (.cons (Rep.extF w1 e hF x _ rx) (.cons (Rep.extF w1 e hF y _ ry) .nil)), wd.laid nT, ext_laid nT⟩

/-! ### for -/
/-- a loop over ds from here on -/
structure FoGoal (ds : List D) (t : Tg) (tb : DTS) (D : DEnds) (δ : DSt) (M1 : Mem) : Prop where
  ex : ∃ W : Nat → DSt → Mem → Prop, W 0 δ M1 ∧ (∀ (i : Nat) d δ' M', ds[i]? = some d → W i δ' M' →
    t.setK d δ'.s fun s => tb { D with nx := W (i + 1), ct := W (i + 1), bk := D.nx } ⟨s, δ'.x⟩ M') ∧ ∀ δ' M', W ds.length δ' M' → D.nx δ' M'
def wFor (wi : DTI) (t : Tg) (tb : DTS) : DTS := fun D δ M => wi δ M fun ds M1 => FoGoal ds t tb D δ M1
theorem ds_for {iter : Expr} {body : List Stmt} {wi : DTI} {tg : Expr} {t : Tg} {tb : DTS} (hX : DX X E k) (hi : DI X E tg iter wi) (hg : DG X tg t) (hb : DSs X E body tb)
    (hs : ∀ x, foldedSetIterable iter X.env x = pure x := by intro _; rfl) : DS X E (.For tg iter body [] pos) (wFor wi t tb) := by
  refine ps_mono (ps_for hX.po hX.calm hi hg hb hs) fun Dh σ H ⟨F, δ, M, Dd, sm, lx, ld, hw⟩ => ?_
  refine ⟨F, δ, M, _, sm, lx, hw, fun J H1 ds M1 w1 it e1 ⟨W, h0, turn, done⟩ => ?_⟩
  refine ⟨fun i m σ2 H2 => i + m = ds.length ∧ ∃ δ2 M2, Sm X.K F H2 σ2 δ2.s M2 ∧ Ext F M1 H1 M2 H2 ∧ δ2.x = δ.x ∧ W i δ2 M2, ⟨ds.length, by omega, δ, M1, sm.ext w1 e1, .refl _ _ _, rfl, h0⟩, fun i m σ2 H2 ⟨hm, δ2, M2, sm2, e2, ex2, wi⟩ => ?_⟩
  obtain ⟨hgo, hstop⟩ := it F M2 H2 (fun _ z => .inl (.inl z)) sm2.wd e2
  have e12 := Ext.trans w1 e1 e2
  by_cases hlt : i < ds.length
  · have hd : ds[i]? = some ds[i] := List.getElem?_eq_getElem hlt
    obtain ⟨go, yl⟩ := hgo i _ hd
    refine .inr ⟨go, fun σ' H' => i + 1 + (m - 1) = ds.length ∧ ∃ δ2 M2, Sm X.K F H' σ' δ2.s M2 ∧ Ext F M1 H1 M2 H' ∧ δ2.x = δ.x ∧ W (i + 1) δ2 M2, fun σ' H' h => ⟨m - 1, by omega, h⟩, fun x H3 hy => ?_⟩
    obtain ⟨rx, w3, e3⟩ := yl x H3 hy
    have tn := turn i _ δ2 M2 hd wi
    obtain ⟨s, hset, tn⟩ := Tg.setK_e t _ _ _ tn
    · skip
      have e13 := Ext.trans sm2.wd e12 e3
      refine Tg.ok t _ x σ2 δ2.s s _ (sm2.ext w3 e3) rx hset fun σ3 sm3 _ => ?_
      have nxt : LkN X.K E F M2 H3 δ.x (W (i + 1)) fun σ' H' => i + 1 + (m - 1) = ds.length ∧ ∃ δ2 M2, Sm X.K F H' σ' δ2.s M2 ∧ Ext F M1 H1 M2 H' ∧ δ2.x = δ.x ∧ W (i + 1) δ2 M2 :=
        fun σ' H' δ' M' s' e' ex' q => ⟨by omega, δ', M', s', Ext.trans sm2.wd e2 (Ext.trans w3 e3 e'), ex', q⟩
      have ld3 := ld.ext w3 e13
      have ex2' : (⟨s, δ2.x⟩ : DSt).x = δ.x := ex2
      exact ⟨F, ⟨s, δ2.x⟩, M2, { Dd with nx := W (i + 1), ct := W (i + 1), bk := Dd.nx }, sm3, by rw [ex2']; exact lx.ext w3 e13, by rw [ex2']; exact ⟨nxt, ld3.rt, ld3.nx, nxt⟩, tn⟩
  · have hi : i = ds.length := by omega
    subst hi
    exact .inl ⟨hstop _ (Nat.le_refl _), ld.nx σ2 H2 δ2 M2 sm2 e12 ex2 (done δ2 M2 wi)⟩
end
end Bx

set_option Elab.async false
set_option linter.all false
set_option maxRecDepth 100000
set_option maxHeartbeats 2000000
namespace Bx
open PySem PySem.Spec L2
open PyProof.Rows hiding St

/-! ### list comprehensions -/
def wipeD (s : List (Option D)) : List Nat → List (Option D)
  | [] => s
  | v :: vs => (wipeD s vs).set v none
def noX : Value → Mem → Prop := fun _ _ => False
theorem RepS.wipe {K : PySem.W.Frag} {B : Addr → Prop} {H : Hp} {σ : L2.St} {s : List (Option D)} (r : RepS K B H σ s) : ∀ vs : List Nat, RepS K B H (L2.wipe σ vs) (wipeD s vs)
  | [] => r
  | v :: vs => by
    have ih := RepS.wipe r vs
    refine ⟨by show ((L2.wipe σ vs).set v none).length = ((wipeD s vs).set v none).length; rw [List.length_set, List.length_set, ih.1], fun i d h => ?_⟩
    have h : ((wipeD s vs).set v none)[i]? = some (some d) := h
    show ∃ u, ((L2.wipe σ vs).set v none)[i]? = some (some u) ∧ _
    by_cases e : v = i
    · subst e
      by_cases hl : v < (wipeD s vs).length
      · rw [List.getElem?_set_self hl] at h; cases h
      · rw [List.getElem?_eq_none (by rw [List.length_set]; omega)] at h; cases h
    · rw [List.getElem?_set_ne e] at h ⊢
      exact ih.2 i d h
theorem RepS.extF {K : PySem.W.Frag} {F F' : Addr → Prop} {M M' : Mem} {H H' : Hp} {σ : L2.St} {s : List (Option D)} (w : Wd K F M H) (e : Ext F M H M' H') (hF : ∀ a, F' a → Bar F M a ∨ H a = none) (r : RepS K (Bar F M) H σ s) : RepS K (Bar F' M') H' σ s :=
  ⟨r.1, fun i d h => let ⟨v, a, b⟩ := r.2 i d h; ⟨v, a, Rep.extF w e hF d v b⟩⟩
theorem RepO.anti {K : PySem.W.Frag} {B B' : Addr → Prop} {H : Hp} {a : Addr} {m : MO} (s : ∀ a, B' a → B a) (h : RepO K B H a m) : RepO K B' H a m := by
  cases m with
  | lst ds => obtain ⟨vs, q, r⟩ := h; exact ⟨vs, q, RepAll.anti s _ _ r⟩
  | ins C dx fs => obtain ⟨gs, q, e, r⟩ := h; exact ⟨gs, q, e, RepAll.anti s _ _ r⟩
  | dK kvs => obtain ⟨gs, q, e, r⟩ := h; exact ⟨gs, q, e, RepAll.anti s _ _ r⟩
  | clo κ t => obtain ⟨q1, q2, q3, r⟩ := h; exact ⟨q1, q2, fun z => q3 (s _ z), RepS.anti s r⟩
  | tab nm =>
    obtain ⟨ps, q1, q2, q3⟩ := h
    refine ⟨ps, q1, q2, fun pos cv hc => ?_⟩
    obtain ⟨c, e1, e2, e3⟩ := q3 pos cv hc
    exact ⟨c, e1, e2, fun z => e3 (s _ z)⟩
theorem RepO.st {K : PySem.W.Frag} {B B' : Addr → Prop} {H H' : Hp} {a : Addr} {m : MO} (k : ∀ a o, H a = some o → (¬ B a ∨ ¬ NoTup o) → H' a = some o) (n : ∀ a, (∃ o, H a = some o) → ¬ B a → ¬ B' a) (s : ∀ o, H a = some o → H' a = some o) (h : RepO K B H a m) : RepO K B' H' a m := by
  cases m with
  | lst ds => obtain ⟨vs, q, r⟩ := h; exact ⟨vs, s _ q, RepAll.st k n _ _ r⟩
  | ins C dx fs => obtain ⟨gs, q, e, r⟩ := h; exact ⟨gs, s _ q, e, RepAll.st k n _ _ r⟩
  | dK kvs => obtain ⟨gs, q, e, r⟩ := h; exact ⟨gs, s _ q, e, RepAll.st k n _ _ r⟩
  | clo κ t => obtain ⟨q1, q2, q3, r⟩ := h; exact ⟨s _ q1, k _ _ q2 (.inl q3), n _ ⟨_, q2⟩ q3, RepS.st k n r⟩
  | tab nm =>
    obtain ⟨ps, q1, q2, q3⟩ := h
    refine ⟨ps, s _ q1, q2, fun pos cv hc => ?_⟩
    obtain ⟨c, e1, e2, e3⟩ := q3 pos cv hc
    exact ⟨c, e1, k _ _ e2 (.inl e3), n _ ⟨_, e2⟩ e3⟩
theorem Bar.sub {F F' : Addr → Prop} {M : Mem} (h : ∀ a, F a → F' a) (a : Addr) (b : Bar F M a) : Bar F' M a := b.imp (h a) id
theorem Wd.sub {K : PySem.W.Frag} {F F' : Addr → Prop} {M : Mem} {H : Hp} (h : ∀ a, F a → F' a) (w : Wd K F' M H) : Wd K F M H := ⟨fun a m q => (w.mem a m q).anti (Bar.sub h), fun a q => w.hid a (h a q)⟩
theorem Ext.sub {F F' : Addr → Prop} {M M' : Mem} {H H' : Hp} (h : ∀ a, F a → F' a) (e : Ext F' M H M' H') : Ext F M H M' H' := ⟨fun a o q r => e.keep a o q (r.imp (h a) id), e.bar⟩
theorem noTup_lst {xs : List V} : NoTup (.lst xs) := ⟨fun _ z => (by cases z), fun _ _ z => (by cases z)⟩
/-- a new hidden object -/
theorem Wd.hide {K : PySem.W.Frag} {F : Addr → Prop} {M : Mem} {H : Hp} {p : Addr} {o : HO} (w : Wd K F M H) (n : H p = none) (nt : NoTup o) : Wd K (fun a => F a ∨ a = p) M (upd H p o) where
  mem := fun a m h => RepO.st (Ext.kst w (ext_laid n)) (Ext.nst (ext_laid (o := o) n) fun a z => by
      rcases z with z | z
      · exact .inl (.inl z)
      · subst z; exact .inr n) (fun u q => by rw [upd_ne (ne_of_none q n)]; exact q) (w.mem a m h)
  hid := fun a h => by
    rcases h with h | h
    · obtain ⟨h1, u, e, nt⟩ := w.hid a h
      exact ⟨h1, u, by rw [upd_ne (ne_of_none e n)]; exact e, nt⟩
    · subst h; exact ⟨w.noM n, o, upd_same, nt⟩
/-- a hidden object is written -/
theorem hid_st {F : Addr → Prop} {M : Mem} {H : Hp} {p : Addr} {o u : HO} (hp : F p) (h : H p = some u) (nt : NoTup u) : ∀ a x, H a = some x → (¬ Bar F M a ∨ ¬ NoTup x) → (upd H p o) a = some x := fun a x q r => by
  by_cases e : a = p
  · subst e
    rw [h] at q; cases q
    rcases r with r | r
    · exact absurd (.inl hp) r
    · exact absurd nt r
  · rw [upd_ne e]; exact q
theorem Wd.hidSet {K : PySem.W.Frag} {F : Addr → Prop} {M : Mem} {H : Hp} {p : Addr} {o u : HO} (w : Wd K F M H) (hp : F p) (h : H p = some u) (nu : NoTup u) (nt : NoTup o) : Wd K F M (upd H p o) where
  mem := fun a m q => RepO.st (hid_st hp h nu) (fun _ _ z => z) (fun x z => by
      have : a ≠ p := fun e => by subst e; rw [(w.hid _ hp).1] at q; cases q
      rw [upd_ne this]; exact z) (w.mem a m q)
  hid := fun a q => by
    obtain ⟨h1, x, e, nx⟩ := w.hid a q
    by_cases z : a = p
    · subst z; exact ⟨h1, o, upd_same, nt⟩
    · exact ⟨h1, x, by rw [upd_ne z]; exact e, nx⟩
abbrev DTs (X : Cx) (E : XK) (ifs : List Expr) (w : DTT) : Prop := PTs X ifs (liftT X.K E w)
def wYes : DTT := fun _ M Q => Q true M
/-- a comprehension over ds from here on -/
structure LcGoal (ds : List D) (δ : DSt) (t : Tg) (tt : DTT) (te : DTE) (vs : List Nat) (Q : DK) (M1 : Mem) : Prop where
  len : ds.length ≤ sizeLine
  ex : ∃ W : Nat → List D → Mem → Prop, W 0 [] M1 ∧ (∀ (i : Nat) d acc M', ds[i]? = some d → W i acc M' → t.setK d (wipeD δ.s vs) fun s => tt ⟨s, noX⟩ M' fun b M2 => onT b (te ⟨s, noX⟩ M2 fun y M3 => W (i + 1) (acc ++ [y]) M3) (W (i + 1) acc M2)) ∧ ∀ acc M', acc.length ≤ ds.length → W ds.length acc M' → Q (.lst acc) M'
def wLc (wi : DTI) (t : Tg) (tt : DTT) (te : DTE) (vs : List Nat) : DTE := fun δ M Q => wi δ M fun ds M1 => LcGoal ds δ t tt te vs Q M1
theorem lift_lc {K : PySem.W.Frag} {E : XK} {wi : DTI} {t : Tg} {tt : DTT} {te : DTE} {vs : List Nat} (hv : ∀ i ∈ t.ixs, i ∈ vs) {σ : L2.St} {H : Hp} {Q' : VK} (h : liftE K E (wLc wi t tt te vs) σ H Q') :
    tLc (liftI K E wi) (t.v K) (liftT K E0 tt) (liftE K E0 te) vs σ H Q' := by
  obtain ⟨F, δ, M, Q, sm, lx, hw, lk⟩ := h
  refine ⟨F, δ, M, _, sm, lx, hw, fun J H1 ds M1 w1 it e1 ⟨hlen, W, h0, turn, done⟩ => ?_⟩
  intro p hp
  have hF : ∀ a, (fun a => F a ∨ a = p) a → Bar F M1 a ∨ H1 a = none := fun a z => by
    rcases z with z | z
    · exact .inl (.inl z)
    · subst z; exact .inr hp
  have hFs : ∀ a, F a → (fun a => F a ∨ a = p) a := fun a z => .inl z
  refine ⟨fun i m H2 => i + m = ds.length ∧ ∃ acc va M2, Wd K (fun a => F a ∨ a = p) M2 H2 ∧ Ext F M1 H1 M2 H2 ∧ H2 p = some (.lst va) ∧ RepAll K (Bar (fun a => F a ∨ a = p) M2) H2 va acc ∧ acc.length ≤ i ∧ W i acc M2,
    ⟨ds.length, by omega, [], [], M1, w1.hide hp noTup_lst, ext_laid hp, upd_same, .nil, Nat.le_refl _, h0⟩, fun i m H2 ⟨hm, acc, va, M2, w2, e2, hpl, ra, hal, wi⟩ => ?_⟩
  have w2F := w2.sub hFs
  obtain ⟨hgo, hstop⟩ := it (fun a => F a ∨ a = p) M2 H2 hF w2 e2
  have e12 : Ext F M H M2 H2 := Ext.trans w1 e1 e2
  by_cases hlt : i < ds.length
  · have hd : ds[i]? = some ds[i] := List.getElem?_eq_getElem hlt
    obtain ⟨go, yl⟩ := hgo i _ hd
    refine .inr ⟨go, fun H' => i + 1 + (m - 1) = ds.length ∧ ∃ acc va M2, Wd K (fun a => F a ∨ a = p) M2 H' ∧ Ext F M1 H1 M2 H' ∧ H' p = some (.lst va) ∧ RepAll K (Bar (fun a => F a ∨ a = p) M2) H' va acc ∧ acc.length ≤ i + 1 ∧ W (i + 1) acc M2, fun H' h => ⟨m - 1, by omega, h⟩, fun x H3 hy => ?_⟩
    obtain ⟨rx, w3, e3⟩ := yl x H3 hy
    have tn := turn i _ acc M2 hd wi
    obtain ⟨s, hset, tn⟩ := Tg.setK_e t _ _ _ tn
    · skip
      have hp3 : H3 p = some (.lst va) := e3.keep _ _ hpl (.inl (.inr rfl))
      have ra3 := RepAll.ext w2 e3 _ _ ra
      have e13 : Ext F M1 H1 M2 H3 := Ext.trans w2F e2 (e3.sub hFs)
      have eM3 : Ext F M H M2 H3 := Ext.trans w1 e1 e13
      have smw : Sm K (fun a => F a ∨ a = p) H3 (L2.wipe σ vs) (wipeD δ.s vs) M2 := ⟨RepS.wipe (RepS.extF sm.wd eM3 (fun a z => by
        rcases z with z | z
        · exact .inl (.inl z)
        · subst z
          cases hH : H a with
          | none => exact .inr rfl
          | some o =>
            cases hM : M a with
            | none => have := e1.keep a o hH (.inr hM); rw [hp] at this; cases this
            | some mo => exact .inl (.inr ⟨mo, hM⟩)) sm.sl) vs, w3⟩
      refine Tg.ok t _ x (L2.wipe σ vs) (wipeD δ.s vs) s _ smw rx hset fun σ3 sm3 hwp => ⟨hwp' hwp hv, ?_⟩
      refine ⟨(fun a => F a ∨ a = p), ⟨s, noX⟩, M2, _, sm3, (fun _ _ _ _ _ _ z => (xok_no z).elim), tn, fun b H4 M4 w4 e4 q4 => ?_⟩
      have hp4 : H4 p = some (.lst va) := e4.keep _ _ hp3 (.inl (.inr rfl))
      have ra4 := RepAll.ext w3 e4 _ _ ra3
      have e14 : Ext F M1 H1 M4 H4 := Ext.trans (w3.sub hFs) e13 (e4.sub hFs)
      cases b with
      | true =>
        refine ite_tt ⟨(fun a => F a ∨ a = p), ⟨s, noX⟩, M4, _, sm3.ext w4 e4, (fun _ _ _ _ _ _ z => (xok_no z).elim), q4, fun y H5 dy M5 ry w5 e5 q5 => ?_⟩
        have hp5 : H5 p = some (.lst va) := e5.keep _ _ hp4 (.inl (.inr rfl))
        have ra5 := RepAll.ext w4 e5 _ _ ra4
        have e15 : Ext F M1 H1 M5 H5 := Ext.trans (w4.sub hFs) e14 (e5.sub hFs)
        refine ⟨va, hp5, by rw [ra5.length]; omega, by omega, acc ++ [dy], va ++ [y], M5, w5.hidSet (.inr rfl) hp5 noTup_lst noTup_lst, ⟨fun a o q r => ?_, e15.bar⟩, upd_same, ?_, by rw [List.length_append]; show acc.length + 1 ≤ i + 1; omega, q5⟩
        · rw [upd_ne (ne_of_none q hp)]; exact e15.keep a o q r
        · exact RepAll.st (hid_st (.inr rfl) hp5 noTup_lst) (fun _ _ z => z) _ _ (ra5.append (.cons ry .nil))
      | false => exact ite_ff ⟨by omega, acc, va, M4, w4, e14, hp4, ra4, by omega, q4⟩
  · have hi : i = ds.length := by omega
    subst hi
    refine .inl ⟨hstop _ (Nat.le_refl _), lk _ H2 _ M2 (.lst hpl ?_ (RepAll.anti (Bar.sub hFs) _ _ ra)) w2F e12 (done acc M2 hal wi)⟩
    rintro (z | ⟨o, z⟩)
    · obtain ⟨_, u, hu, _⟩ := w1.hid p z
      rw [hp] at hu; cases hu
    · rw [(w2.hid p (.inr rfl)).1] at z; cases z
where
  hwp' {t : Tg} {vs : List Nat} {σ σ3 : L2.St} (h : ∀ us, (∀ i ∈ t.ixs, i ∈ us) → L2.wipe σ3 us = L2.wipe (L2.wipe σ vs) us) (hv : ∀ i ∈ t.ixs, i ∈ vs) : L2.wipe σ3 vs = L2.wipe σ vs := by
    have ww : ∀ us : List Nat, L2.wipe (L2.wipe σ us) us = L2.wipe σ us := fun us => by
      have key : ∀ (us ws : List Nat), (∀ i ∈ us, i ∈ ws) → L2.wipe (L2.wipe σ ws) us = L2.wipe σ ws := fun us ws => by
        induction us with
        | nil => intro _; rfl
        | cons v us ih =>
          intro hs
          have := ih fun i hi => hs i (List.mem_cons_of_mem _ hi)
          show (L2.wipe (L2.wipe σ ws) us).set v none = _
          rw [this]
          have hv : v ∈ ws := hs v List.mem_cons_self
          clear ih this hs
          induction ws with
          | nil => cases hv
          | cons u ws ih =>
            show ((L2.wipe σ ws).set u none).set v none = (L2.wipe σ ws).set u none
            by_cases e : u = v
            · subst e; rw [List.set_set]
            · rw [List.set_comm _ _ e]
              rcases List.mem_cons.mp hv with z | z
              · exact absurd z.symm e
              · rw [ih z]
      exact key us us fun i h => h
    exact (h vs hv).trans (ww vs)
section
variable {X : Cx} {E : XK} {k : Nat} {a b c e : Expr} {wa wb wc : DTE} {ta tb : DTT} {pos : Pos}
theorem dts_nil : DTs X E [] wYes := ⟨fun pins s σ H Q' I ⟨F, δ, M, Q, sm, lx, hw, lk⟩ => pts_nil.run pins s σ H Q' I (lk true H M sm.wd (.refl _ _ _) hw)⟩
theorem dts_one (h : DT X E c ta) : DTs X E [c] ta := pts_one h
theorem de_lc {elt tg iter : Expr} {ifs : List Expr} {scope : Scope} {own : List (Str × Nat)} {wi : DTI} {t : Tg} {tt : DTT} {te : DTE} (hX : DX X E k) (ok : BlkOk X.N X.env.scope scope own) (hi : DI X E tg iter wi)
    (hb : ∀ (s : Shared) (H : Hp) (C : Addr) (cl : List (Str × Addr)) (fp : List Addr), DX (X.blk s H scope (compEnvC scope cl C X.env) fp) E0 k →
      DG (X.blk s H scope (compEnvC scope cl C X.env) fp) tg t ∧ DTs (X.blk s H scope (compEnvC scope cl C X.env) fp) E0 ifs tt ∧ DE (X.blk s H scope (compEnvC scope cl C X.env) fp) E0 elt te)
    (hv : ∀ i ∈ t.ixs, i ∈ own.map (·.2) := by decide) (hs : ∀ x, foldedSetIterable iter X.env x = pure x := by intro _; rfl) :
    DE X E (.ListComp elt [⟨tg, iter, ifs, 0⟩] scope pos) (wLc wi t tt te (own.map (·.2))) :=
  pe_mono (pe_lc (g := t.v X.K) (tt := liftT X.K E0 tt) (te := liftE X.K E0 te) hX.calm hX.nd hi ok (fun s H C cl fp => (hb s H C cl fp (hX.blk ..)).1) (fun s H C cl fp => (hb s H C cl fp (hX.blk ..)).2.1) (fun s H C cl fp => (hb s H C cl fp (hX.blk ..)).2.2) hs) fun _ _ _ h => lift_lc hv h
/-- name = [..] on one line -/
theorem ds_setLc {y : Str} {py spos : Pos} {elt tg iter : Expr} {ifs : List Expr} {scope : Scope} {own : List (Str × Nat)} {wi : DTI} {t : Tg} {tt : DTT} {te : DTE} (hX : DX X E k) (i : Nat) (ok : BlkOk X.N X.env.scope scope own) (hi : DI X E tg iter wi)
    (hb : ∀ (s : Shared) (H : Hp) (C : Addr) (cl : List (Str × Addr)) (fp : List Addr), DX (X.blk s H scope (compEnvC scope cl C X.env) fp) E0 k →
      DG (X.blk s H scope (compEnvC scope cl C X.env) fp) tg t ∧ DTs (X.blk s H scope (compEnvC scope cl C X.env) fp) E0 ifs tt ∧ DE (X.blk s H scope (compEnvC scope cl C X.env) fp) E0 elt te)
    (hsw : swapsWith (.ListComp elt [⟨tg, iter, ifs, 0⟩] scope pos) (some (.Name y py)) spos.line X.env = pure true) (hy : X.N[i]? = some y := by rfl) (hyl : X.env.scope.names.lookup y = some .local := by rfl)
    (hv : ∀ i ∈ t.ixs, i ∈ own.map (·.2) := by decide) (hs : ∀ x, foldedSetIterable iter X.env x = pure x := by intro _; rfl) :
    DS X E (.Assign [.Name y py] (.ListComp elt [⟨tg, iter, ifs, 0⟩] scope pos) spos) (wAsg (wLc wi t tt te (own.map (·.2))) (.nm i)) := by
  refine ps_mono (ps_setLc (g := t.v X.K) (tt := liftT X.K E0 tt) (te := liftE X.K E0 te) hX.calm hX.nd hy hyl hsw hi ok (fun s H C cl fp => (hb s H C cl fp (hX.blk ..)).1) (fun s H C cl fp => (hb s H C cl fp (hX.blk ..)).2.1) (fun s H C cl fp => (hb s H C cl fp (hX.blk ..)).2.2) hs) fun Dh σ H ⟨F, δ, M, Dd, sm, lx, ld, hw⟩ => ?_
  refine lift_lc hv ⟨F, δ, M, _, sm, lx, hw, fun v H1 d M1 r1 w1 e1 q1 => ?_⟩
  have q1 : setK δ.s i (some d) fun s => Dd.nx ⟨s, δ.x⟩ M1 := q1
  rw [setK_eq] at q1
  exact ld.nx _ H1 ⟨δ.s.set i (some d), δ.x⟩ M1 ⟨(sm.ext w1 e1).sl.set r1 i, w1⟩ e1 rfl q1

/-! ### built-ins, by values -/
abbrev DRC := List D → Mem → DK → Prop
def OkC (K : PySem.W.Frag) (r : List V → Hp → VK → Prop) (w : DRC) : Prop := ∀ F M H vs ds (Q : DK) (Q' : VK), Wd K F M H → RepAll K (Bar F M) H vs ds → w ds M Q →
  (∀ v H' d M', Rep K (Bar F M') H' v d → Wd K F M' H' → Ext F M H M' H' → Q d M' → Q' v H') → r vs H Q'
def wCB (w : DRC) (wr : DTA) : DTE := fun δ M Q => wr δ M fun ds M1 => w ds M1 Q
theorem lift_cb {K : PySem.W.Frag} {r : List V → Hp → VK → Prop} {w : DRC} {wr : DTA} (ok : OkC K r w) {σ : L2.St} {H : Hp} {Q' : VK} (h : liftE K E (wCB w wr) σ H Q') : tCB r (liftA K E wr) σ H Q' := by
  obtain ⟨F, δ, M, Q, sm, lx, hw, lk⟩ := h
  exact ⟨F, δ, M, _, sm, lx, hw, fun vs H1 ds M1 r1 w1 e1 q1 => ok F M1 H1 vs ds Q Q' w1 r1 q1 fun v' H' d' M' r3 w3 e3 q3 => lk v' H' d' M' r3 w3 (Ext.trans w1 e1 e3) q3⟩
theorem de_cb {r : List V → Hp → VK → Prop} {w : DRC} {wr : DTA} {x : Str} {id : String} {p : Pos} {es : List Expr} (hc : CallR X (.builtin id) r) (ok : OkC X.K r w) (hm : X.mg x = none) (ha : DA X E (e :: es) wr) (hv : bootBuiltins x = some (.builtin id) := by decide +kernel) (hg : Gl X x := by rfl)
    (hn : x ≠ "__name__" := by decide) (hdb : (x == ("__debug__" : Str)) = false := by decide) (he : starEach (e :: es) X.env = (false, eval e X.env) :: starEach es X.env := by rfl) (hpl : (backTo pos (starEach es X.env)).any (·.1) = false := by rfl) : DE X E (.Call (.Name x p) (e :: es) [] pos) (wCB w wr) :=
  pe_mono (pe_callB hc hg hm hv ha hn hdb he hpl) fun _ _ _ h => lift_cb ok h
theorem de_cty {r : List V → Hp → VK → Prop} {w : DRC} {wr : DTA} {x : Str} {T : String} {p : Pos} {es : List Expr} (hc : CallR X (.type T) r) (ok : OkC X.K r w) (hm : X.mg x = none) (ha : DA X E (e :: es) wr) (hv : bootBuiltins x = some (.type T) := by decide +kernel) (hg : Gl X x := by rfl)
    (hn : x ≠ "__name__" := by decide) (hdb : (x == ("__debug__" : Str)) = false := by decide) (he : starEach (e :: es) X.env = (false, eval e X.env) :: starEach es X.env := by rfl) (hpl : (backTo pos (starEach es X.env)).any (·.1) = false := by rfl) : DE X E (.Call (.Name x p) (e :: es) [] pos) (wCB w wr) :=
  pe_mono (pe_callTy hc hg hm hv ha hn hdb he hpl) fun _ _ _ h => lift_cb ok h
/-- len -/
def wLen : DRC := fun ds M Q => match ds with
  | [.str z] => z.length ≤ sizeLine ∧ Q (.int z.length) M
  | [d] => match sq M d with | some es => Q (.int es.length) M | none => False
  | _ => False
theorem callR_or {f : Value} {r r' : List V → Hp → VK → Prop} (h : CallR X f r) (h' : CallR X f r') : CallR X f (fun xs H Q => r xs H Q ∨ r' xs H Q) := by
  intro pins s σ H xs us Q I rx q
  rcases q with q | q
  · exact h pins s σ H xs us Q I rx q
  · exact h' pins s σ H xs us Q I rx q
theorem ok_len {K : PySem.W.Frag} : OkC K (fun xs H Q => (∃ p ys, xs = [.ref p] ∧ (SqL K H p ys ∨ SqT K H p ys) ∧ Q (.int ys.length) H) ∨ ∃ z, xs = [.str z] ∧ z.length ≤ sizeLine ∧ Q (.int z.length) H) wLen := by
  intro F M H vs ds Q Q' wd ra hw lk
  match ds, ra, hw with
  | [d], .cons (v := v) r .nil, hw =>
    have fin : (match sq M d with | some es => Q (.int es.length) M | none => False) → (∃ p ys, [v] = [V.ref p] ∧ (SqL K H p ys ∨ SqT K H p ys) ∧ Q' (.int ys.length) H) := fun h => by
      cases hs : sq M d with
      | none => rw [hs] at h; exact h.elim
      | some es =>
        rw [hs] at h
        obtain ⟨p, xs, rfl, hq, ra⟩ := r.sq wd hs
        exact ⟨p, xs, rfl, hq, lk _ H _ M (by rw [ra.length]; exact .int _) wd (.refl _ _ _) h⟩
    cases d with
    | str z => cases r; exact .inr ⟨z, rfl, hw.1, lk _ H _ M (.int _) wd (.refl _ _ _) hw.2⟩
    | _ => exact .inl (fin hw)
  | [], _, hw => exact (show False from hw).elim
  | .tup _ :: _ :: _, _, hw => exact (show False from hw).elim
  | .str _ :: _ :: _, _, hw => exact (show False from hw).elim
  | .lst _ :: _ :: _, _, hw => exact (show False from hw).elim
  | .fro _ :: _ :: _, _, hw => exact (show False from hw).elim
  | .ref _ :: _ :: _, _, hw => exact (show False from hw).elim
  | .non :: _ :: _, _, hw => exact (show False from hw).elim
  | .bl _ :: _ :: _, _, hw => exact (show False from hw).elim
  | .int _ :: _ :: _, _, hw => exact (show False from hw).elim
theorem de_len {wr : DTA} {p : Pos} (hm : X.mg "len" = none) (ha : DA X E [e] wr) (hg : Gl X "len" := by rfl) (he : starEach [e] X.env = (false, eval e X.env) :: starEach [] X.env := by rfl) (hpl : (backTo pos (starEach [] X.env)).any (·.1) = false := by rfl) : DE X E (.Call (.Name "len" p) [e] [] pos) (wCB wLen wr) :=
  de_cb (callR_or call_len_seq call_len_str) ok_len hm ha (by decide +kernel) hg (by decide) (by decide) he hpl
/-- all, any of a list of truth values -/
def D.asB : D → Option Bool | .bl b => some b | _ => none
def bools : List D → Option (List Bool)
  | [] => some []
  | d :: ds => match d.asB, bools ds with | some b, some bs => some (b :: bs) | _, _ => none
theorem bools_rep {K : PySem.W.Frag} {B : Addr → Prop} {H : Hp} : ∀ {vs : List V} {ds : List D} {bs : List Bool}, RepAll K B H vs ds → bools ds = some bs → vs = bs.map V.bl
  | _, [], _, h, e => by cases h; cases e; rfl
  | _, d :: ds, bs, h, e => by
    cases h with
    | cons h1 h2 =>
      have e : (match d.asB, bools ds with | some b, some bs => some (b :: bs) | _, _ => none) = some bs := e
      cases hd : d.asB with
      | none => rw [hd] at e; cases e
      | some b =>
        cases hb : bools ds with
        | none => rw [hd, hb] at e; cases e
        | some bs' =>
          rw [hd, hb] at e
          cases e
          cases d <;> first | (cases h1; cases hd; rw [bools_rep h2 hb]; rfl) | cases hd
def wAll : DRC := fun ds M Q => match ds with | [d] => (match sqL M d with | some es => (match bools es with | some bs => Q (.bl (bs.all id)) M | none => False) | none => False) | _ => False
def wAny : DRC := fun ds M Q => match ds with | [d] => (match sqL M d with | some es => (match bools es with | some bs => Q (.bl (bs.any id)) M | none => False) | none => False) | _ => False
theorem ok_all {K : PySem.W.Frag} : OkC K (rAll K) wAll := by
  intro F M H vs ds Q Q' wd ra hw lk
  match ds, ra, hw with
  | [d], .cons r .nil, hw =>
    have hw : (match sqL M d with | some es => (match bools es with | some bs => Q (.bl (bs.all id)) M | none => False) | none => False) := hw
    cases hs : sqL M d with
    | none => rw [hs] at hw; exact hw.elim
    | some es =>
      rw [hs] at hw
      have hw : (match bools es with | some bs => Q (.bl (bs.all id)) M | none => False) := hw
      cases hb : bools es with
      | none => rw [hb] at hw; exact hw.elim
      | some bs =>
        rw [hb] at hw
        obtain ⟨p, xs, rfl, hq, ra⟩ := r.sqL wd hs
        exact ⟨p, bs, rfl, bools_rep ra hb ▸ hq, lk _ H _ M (.bl _) wd (.refl _ _ _) hw⟩
theorem ok_any {K : PySem.W.Frag} : OkC K (rAny K) wAny := by
  intro F M H vs ds Q Q' wd ra hw lk
  match ds, ra, hw with
  | [d], .cons r .nil, hw =>
    have hw : (match sqL M d with | some es => (match bools es with | some bs => Q (.bl (bs.any id)) M | none => False) | none => False) := hw
    cases hs : sqL M d with
    | none => rw [hs] at hw; exact hw.elim
    | some es =>
      rw [hs] at hw
      have hw : (match bools es with | some bs => Q (.bl (bs.any id)) M | none => False) := hw
      cases hb : bools es with
      | none => rw [hb] at hw; exact hw.elim
      | some bs =>
        rw [hb] at hw
        obtain ⟨p, xs, rfl, hq, ra⟩ := r.sqL wd hs
        exact ⟨p, bs, rfl, bools_rep ra hb ▸ hq, lk _ H _ M (.bl _) wd (.refl _ _ _) hw⟩
theorem de_all {wr : DTA} {p : Pos} (hX : DX X E k) (hm : X.mg "all" = none) (ha : DA X E [e] wr) (hg : Gl X "all" := by rfl) (he : starEach [e] X.env = (false, eval e X.env) :: starEach [] X.env := by rfl) (hpl : (backTo pos (starEach [] X.env)).any (·.1) = false := by rfl) : DE X E (.Call (.Name "all" p) [e] [] pos) (wCB wAll wr) :=
  de_cb (cr_all hX.calm) ok_all hm ha (by decide +kernel) hg (by decide) (by decide) he hpl
theorem de_any {wr : DTA} {p : Pos} (hX : DX X E k) (hm : X.mg "any" = none) (ha : DA X E [e] wr) (hg : Gl X "any" := by rfl) (he : starEach [e] X.env = (false, eval e X.env) :: starEach [] X.env := by rfl) (hpl : (backTo pos (starEach [] X.env)).any (·.1) = false := by rfl) : DE X E (.Call (.Name "any" p) [e] [] pos) (wCB wAny wr) :=
  de_cb (cr_any hX.calm) ok_any hm ha (by decide +kernel) hg (by decide) (by decide) he hpl
/-- ints -/
def wAbs : DRC := fun ds M Q => match ds with | [.int i] => Q (.int (if i < 0 then -i else i)) M | _ => False
def wMax2 : DRC := fun ds M Q => match ds with | [.int i, .int j] => Q (.int (if j > i then j else i)) M | _ => False
def wMin2 : DRC := fun ds M Q => match ds with | [.int i, .int j] => Q (.int (if j < i then j else i)) M | _ => False
def wInt1 : DRC := fun ds M Q => match ds with | [.int i] => Q (.int i) M | [.bl b] => Q (.int (if b then 1 else 0)) M | _ => False
theorem ok_abs {K : PySem.W.Frag} : OkC K (fun xs H Q => ∃ i, xs = [.int i] ∧ Q (.int (if i < 0 then -i else i)) H) wAbs := fun F M H vs ds Q Q' wd ra hw lk => by
  match ds, ra, hw with
  | [.int i], .cons r .nil, hw => cases r; exact ⟨i, rfl, lk _ H _ M (.int _) wd (.refl _ _ _) hw⟩
theorem ok_max2 {K : PySem.W.Frag} : OkC K (fun xs H Q => ∃ i j, xs = [.int i, .int j] ∧ Q (.int (if j > i then j else i)) H) wMax2 := fun F M H vs ds Q Q' wd ra hw lk => by
  match ds, ra, hw with
  | [.int i, .int j], .cons r (.cons r2 .nil), hw => cases r; cases r2; exact ⟨i, j, rfl, lk _ H _ M (.int _) wd (.refl _ _ _) hw⟩
theorem ok_min2 {K : PySem.W.Frag} : OkC K (fun xs H Q => ∃ i j, xs = [.int i, .int j] ∧ Q (.int (if j < i then j else i)) H) wMin2 := fun F M H vs ds Q Q' wd ra hw lk => by
  match ds, ra, hw with
  | [.int i, .int j], .cons r (.cons r2 .nil), hw => cases r; cases r2; exact ⟨i, j, rfl, lk _ H _ M (.int _) wd (.refl _ _ _) hw⟩
theorem ok_int1 {K : PySem.W.Frag} : OkC K (fun xs H Q => (∃ i, xs = [.int i] ∧ Q (.int i) H) ∨ ∃ k, xs = [.bl k] ∧ Q (.int (if k then 1 else 0)) H) wInt1 := fun F M H vs ds Q Q' wd ra hw lk => by
  match ds, ra, hw with
  | [.int i], .cons r .nil, hw => cases r; exact .inl ⟨i, rfl, lk _ H _ M (.int _) wd (.refl _ _ _) hw⟩
  | [.bl i], .cons r .nil, hw => cases r; exact .inr ⟨i, rfl, lk _ H _ M (.int _) wd (.refl _ _ _) hw⟩
theorem de_abs {wr : DTA} {p : Pos} (hm : X.mg "abs" = none) (ha : DA X E [e] wr) (hg : Gl X "abs" := by rfl) (he : starEach [e] X.env = (false, eval e X.env) :: starEach [] X.env := by rfl) (hpl : (backTo pos (starEach [] X.env)).any (·.1) = false := by rfl) : DE X E (.Call (.Name "abs" p) [e] [] pos) (wCB wAbs wr) :=
  de_cb call_abs ok_abs hm ha (by decide +kernel) hg (by decide) (by decide) he hpl
theorem de_max2 {wr : DTA} {p : Pos} (hX : DX X E k) (hm : X.mg "max" = none) (ha : DA X E [a, b] wr) (hg : Gl X "max" := by rfl) (he : starEach [a, b] X.env = (false, eval a X.env) :: starEach [b] X.env := by rfl) (hpl : (backTo pos (starEach [b] X.env)).any (·.1) = false := by rfl) : DE X E (.Call (.Name "max" p) [a, b] [] pos) (wCB wMax2 wr) :=
  de_cb (call_max2 hX.calm) ok_max2 hm ha (by decide +kernel) hg (by decide) (by decide) he hpl
theorem de_min2 {wr : DTA} {p : Pos} (hX : DX X E k) (hm : X.mg "min" = none) (ha : DA X E [a, b] wr) (hg : Gl X "min" := by rfl) (he : starEach [a, b] X.env = (false, eval a X.env) :: starEach [b] X.env := by rfl) (hpl : (backTo pos (starEach [b] X.env)).any (·.1) = false := by rfl) : DE X E (.Call (.Name "min" p) [a, b] [] pos) (wCB wMin2 wr) :=
  de_cb (call_min2 hX.calm) ok_min2 hm ha (by decide +kernel) hg (by decide) (by decide) he hpl
theorem de_int {wr : DTA} {p : Pos} (hm : X.mg "int" = none) (ha : DA X E [e] wr) (hg : Gl X "int" := by rfl) (he : starEach [e] X.env = (false, eval e X.env) :: starEach [] X.env := by rfl) (hpl : (backTo pos (starEach [] X.env)).any (·.1) = false := by rfl) : DE X E (.Call (.Name "int" p) [e] [] pos) (wCB wInt1 wr) :=
  de_cty call_int1 ok_int1 hm ha (by decide +kernel) hg (by decide) (by decide) he hpl
/-- tuple(x), list(x) -/
def wTupOf : DRC := fun ds M Q => match ds with | [.tup es] => Q (.tup es) M | [d] => (match sqL M d with | some es => Q (.tup es) M | none => False) | _ => False
def wLstOf : DRC := fun ds M Q => match ds with | [d] => (match sq M d with | some es => Q (.lst es) M | none => False) | _ => False
theorem ok_tupOf {K : PySem.W.Frag} : OkC K (fun xs H Q => ∃ p ys, xs = [.ref p] ∧ ((SqL K H p ys ∧ ∀ l, H l = none → Q (.ref l) (upd H l (.tup ys))) ∨ (SqT K H p ys ∧ Q (.ref p) H))) wTupOf := fun F M H vs ds Q Q' wd ra hw lk => by
  match ds, ra, hw with
  | [d], .cons (v := v) r .nil, hw =>
    have fin : (match sqL M d with | some es => Q (.tup es) M | none => False) → ∃ p ys, [v] = [V.ref p] ∧ ((SqL K H p ys ∧ ∀ l, H l = none → Q' (.ref l) (upd H l (.tup ys))) ∨ (SqT K H p ys ∧ Q' (.ref p) H)) := fun h => by
      cases hs : sqL M d with
      | none => rw [hs] at h; exact h.elim
      | some es =>
        rw [hs] at h
        obtain ⟨p, xs, rfl, hq, ra⟩ := r.sqL wd hs
        exact ⟨p, xs, rfl, .inl ⟨hq, fun l hl => lk _ _ _ M (.newTup wd hl ra) (wd.laid hl) (ext_laid hl) h⟩⟩
    cases d with
    | tup es => cases r with | @tup a xs _ hs ra => exact ⟨a, xs, rfl, .inr ⟨hs, lk _ H _ M (.tup hs ra) wd (.refl _ _ _) hw⟩⟩
    | _ => exact fin hw
  | [], _, hw => exact (show False from hw).elim
  | .tup _ :: _ :: _, _, hw => exact (show False from hw).elim
  | .str _ :: _ :: _, _, hw => exact (show False from hw).elim
  | .lst _ :: _ :: _, _, hw => exact (show False from hw).elim
  | .fro _ :: _ :: _, _, hw => exact (show False from hw).elim
  | .ref _ :: _ :: _, _, hw => exact (show False from hw).elim
  | .non :: _ :: _, _, hw => exact (show False from hw).elim
  | .bl _ :: _ :: _, _, hw => exact (show False from hw).elim
  | .int _ :: _ :: _, _, hw => exact (show False from hw).elim
theorem ok_lstOf {K : PySem.W.Frag} : OkC K (fun xs H Q => ∃ p ys, xs = [.ref p] ∧ (SqL K H p ys ∨ SqT K H p ys) ∧ ∀ l, H l = none → Q (.ref l) (upd H l (.lst ys))) wLstOf := fun F M H vs ds Q Q' wd ra hw lk => by
  match ds, ra, hw with
  | [d], .cons (v := v) r .nil, hw =>
    have h : (match sq M d with | some es => Q (.lst es) M | none => False) := hw
    cases hs : sq M d with
    | none => rw [hs] at h; exact h.elim
    | some es =>
      rw [hs] at h
      obtain ⟨p, xs, rfl, hq, ra⟩ := r.sq wd hs
      exact ⟨p, xs, rfl, hq, fun l hl => lk _ _ _ M (.newLst wd hl ra) (wd.laid hl) (ext_laid hl) h⟩
theorem de_tuple {wr : DTA} {p : Pos} (hm : X.mg "tuple" = none) (ha : DA X E [e] wr) (hg : Gl X "tuple" := by rfl) (he : starEach [e] X.env = (false, eval e X.env) :: starEach [] X.env := by rfl) (hpl : (backTo pos (starEach [] X.env)).any (·.1) = false := by rfl) : DE X E (.Call (.Name "tuple" p) [e] [] pos) (wCB wTupOf wr) :=
  de_cty call_tuple_of ok_tupOf hm ha (by decide +kernel) hg (by decide) (by decide) he hpl
theorem de_list {wr : DTA} {p : Pos} (hm : X.mg "list" = none) (ha : DA X E [e] wr) (hg : Gl X "list" := by rfl) (he : starEach [e] X.env = (false, eval e X.env) :: starEach [] X.env := by rfl) (hpl : (backTo pos (starEach [] X.env)).any (·.1) = false := by rfl) : DE X E (.Call (.Name "list" p) [e] [] pos) (wCB wLstOf wr) :=
  de_cty call_list_of ok_lstOf hm ha (by decide +kernel) hg (by decide) (by decide) he hpl
/-- isinstance(x, T), T a built-in type -/
def D.ty : D → String
  | .non => "NoneType" | .bl _ => "bool" | .int _ => "int" | .str _ => "str" | .tup _ => "tuple" | .lst _ => "list" | .fro _ => "list" | .ref _ => ""
def D.isT (T : String) : D → Option Bool
  | .ref _ => none
  | d => some (d.ty == T || (T == "int" && d.ty == "bool"))
def wIsT (T : String) (wa : DTE) : DTE := fun δ M Q => wa δ M fun d M1 => match d.isT T with | some b => Q (.bl b) M1 | none => False
theorem Rep.tyX {K : PySem.W.Frag} {B : Addr → Prop} {H : Hp} {v : V} {d : D} (r : Rep K B H v d) (h : ∀ a, d ≠ .ref a) : TyX K H v (.type d.ty) := by
  cases d with
  | non => cases r; exact .base .non
  | bl b => cases r; exact .base (.bl b)
  | int b => cases r; exact .base (.int b)
  | str b => cases r; exact .base (.str b)
  | tup ds =>
    cases r with
    | tup hs ha =>
      rcases hs with (hs | ⟨o, hs⟩) | ⟨o, its, n, hk, hc, _⟩
      · exact .base (.tup hs)
      · exact .fTuple hs
      · exact .kTuple hk hc
  | lst ds => cases r with | lst hs _ ha => exact .base (.lst hs)
  | fro ds =>
    cases r with
    | fro hs ha =>
      rcases hs with ⟨hs, _⟩ | ⟨o, hs⟩ | ⟨o, its, n, hk, hc, _⟩
      · exact .base (.lst hs)
      · exact .base (.frz hs)
      · exact .kList hk hc
  | ref a => exact absurd rfl (h a)
/-- what the types say of one another -/
def kitAll (T : String) : Bool := ["NoneType", "bool", "int", "str", "tuple", "list"].all fun t => kitB t T == some (t == T || (T == "int" && t == "bool"))
theorem de_isT {T : String} {x : Str} {p q : Pos} (hm : X.mg "isinstance" = none) (hmT : X.mg x = none) (ha : DE X E a wa) (hv : bootBuiltins x = some (.type T) := by decide +kernel) (hk : kitAll T = true := by decide +kernel) (hg : Gl X "isinstance" := by rfl) (hgT : Gl X x := by rfl) (hn : x ≠ "__name__" := by decide) (hd : (x == ("__debug__" : Str)) = false := by decide)
    (he : starEach [a, .Name x q] X.env = (false, eval a X.env) :: starEach [.Name x q] X.env := by rfl) (he2 : starEach [.Name x q] X.env = (false, eval (.Name x q) X.env) :: starEach [] X.env := by rfl) (hpl : (backTo pos (starEach [.Name x q] X.env)).any (·.1) = false := by rfl) :
    DE X E (.Call (.Name "isinstance" p) [a, .Name x q] [] pos) (wIsT T wa) := by
  refine pe_mono (pe_callB call_isi hg hm (by decide +kernel) (pa_cons ha (pa_cons (pe_bltn (v := .ty T) hgT hmT hv rfl hn hd) pa_nil he2) he) (by decide) (by decide) he hpl) fun σ H Q' ⟨F, δ, M, Q, sm, lx, hw, lk⟩ => ?_
  refine ⟨F, δ, M, _, sm, lx, hw, fun v H1 d M1 r1 w1 e1 q1 => ?_⟩
  have nr : ∀ a, d ≠ .ref a := fun a z => by subst z; exact (show False from q1)
  have hb : d.isT T = some (d.ty == T || (T == "int" && d.ty == "bool")) := by cases d <;> first | rfl | exact absurd rfl (nr _)
  rw [hb] at q1
  refine ⟨v, .ty T, _, _, _, rfl, .ty T, r1.tyX nr, kit_ty (r := (d.ty == T || (T == "int" && d.ty == "bool"))) ?_, lk _ H1 _ M1 (.bl _) w1 e1 q1⟩
  unfold kitAll at hk
  simp only [List.all_cons, List.all_nil, Bool.and_true, Bool.and_eq_true, beq_iff_eq] at hk
  obtain ⟨h1, h2, h3, h4, h5, h6⟩ := hk
  cases d <;> first | assumption | exact absurd rfl (nr _)

/-! ### xs.append(e); xs[i] = e -/
def wApp (wo wa : DTE) : DTE := fun δ M Q => wo δ M fun o M1 => match o with
  | .ref p => onO (moL (M1 p)) fun _ => wa δ M1 fun d M2 => onO (moL (M2 p)) fun ds => ds.length < sizeLine ∧ Q .non (updM M2 p (.lst (ds ++ [d])))
  | _ => False
theorem rep_write {K : PySem.W.Frag} {F : Addr → Prop} {M : Mem} {H : Hp} {p : Addr} {ds ds' : List D} {vs' : List V} (w : Wd K F M H) (hm : M p = some (.lst ds)) (ra : RepAll K (Bar F M) H vs' ds') :
    Wd K F (updM M p (.lst ds')) (upd H p (.lst vs')) ∧ Ext F M H (updM M p (.lst ds')) (upd H p (.lst vs')) := by
  have x : Ext F M H (updM M p (.lst ds')) (upd H p (.lst vs')) := ext_write hm (w.nf hm)
  exact ⟨w.write (m' := .lst ds') hm ⟨vs', upd_same, RepAll.ext w x ds' vs' ra⟩, x⟩
theorem de_append {o : Expr} {wo : DTE} {apos cpos : Pos} (ho : DE X E o wo) (ha : DE X E e wa) (hbase : attributeBase o "append" X.env (eval o X.env) = eval o X.env := by rfl)
    (hfew : ((backTo cpos (starEach [e] X.env)).all (fun x => !x.1) && (backToKw cpos (keywordEach [] X.env)).all (fun x => x.1.isSome)
      && decide (([e] : List Expr).length + ([] : List Keyword).length + (if ([] : List Keyword).isEmpty then 0 else 1) < 30)) = true := by rfl)
    (hline : (apos.endLine == cpos.line) = true := by rfl) (hs : starEach [e] X.env = (false, eval e X.env) :: starEach [] X.env := by rfl) (hplain : (backTo cpos (starEach [] X.env)).any (·.1) = false := by rfl) :
    DE X E (.Call (.Attribute o "append" apos) [e] [] cpos) (wApp wo wa) := by
  refine pe_mono (pe_bm PySem.F.plainAttrs_list PySem.F.slot_list_append PySem.F.type_list_append mt_append ho (pa_cons ha pa_nil hs) hbase hfew hline hs hplain) fun σ H Q' ⟨F, δ, M, Q, sm, lx, hw, lk⟩ => ?_
  refine ⟨F, δ, M, _, sm, lx, hw, fun v H1 o M1 r1 w1 e1 q1 => ?_⟩
  cases o with
  | ref p =>
    cases r1
    obtain ⟨ds0, hm, q1⟩ := onO_e q1
    · skip
      obtain ⟨vs0, h0, _⟩ := w1.mem p _ (moL_some hm)
      refine ⟨.inl ⟨rfl, vs0, .of h0⟩, F, δ, M1, _, sm.ext w1 e1, lx.ext w1 e1, q1, fun x H2 d M2 r2 w2 e2 q2 => ?_⟩
      obtain ⟨ds, hm2, q2⟩ := onO_e q2
      · have hm2 := moL_some hm2
        obtain ⟨vs, h2, ra⟩ := w2.mem p _ hm2
        obtain ⟨w3, e3⟩ := rep_write (vs' := vs ++ [x]) w2 hm2 (ra.append (.cons r2 .nil))
        exact ⟨p, vs, x, rfl, rfl, h2, by rw [ra.length]; exact q2.1, lk _ _ _ _ .non w3 (Ext.trans w1 e1 (Ext.trans w2 e2 e3)) q2.2⟩
  | _ => exact (show False from q1).elim
end
end Bx

set_option Elab.async false
set_option linter.all false
set_option maxRecDepth 100000
set_option maxHeartbeats 2000000
namespace Bx
open PySem PySem.Spec L2
open PyProof.Rows hiding St

/-! ### defs -/
abbrev DSpec := List D → Mem → DK → (Value → Mem → Prop) → Prop
def DSp (K : PySem.W.Frag) (n : Nat) (spec : DSpec) : Sp := fun vs H Q E => ∃ F M ds Qd Ed, ds.length = n ∧ RepAll K (Bar F M) H vs ds ∧ Wd K F M H ∧ LkX K E F M H Ed ∧ spec ds M Qd Ed ∧
  ∀ v H' d M', Rep K (Bar F M') H' v d → Wd K F M' H' → Ext F M H M' H' → Qd d M' → Q v H'
/-- the def named x stands, and keeps the promise -/
def DFn (P : Program) (w : World) (K : PySem.W.Frag) (mg : Str → Option Value) (base : Heap) (k : Nat) (x : Str) (n : Nat) (spec : DSpec) : Prop :=
  ∃ f fd ps, ps.length = n ∧ FnOk P w K mg base (L2N.CX P w) k f fd ps (DSp K n spec) ∧ mg x = some (.ref f) ∧ PySem.W.keepIn K (.ref f) = true ∧ Binds K fd ps []
def wCall (n : Nat) (spec : DSpec) (wr : DTA) : DTE := fun δ M Q => wr δ M fun ds M1 => ds.length = n ∧ spec ds M1 Q δ.x
theorem lift_call {K : PySem.W.Frag} {E : XK} {n : Nat} {spec : DSpec} {wr : DTA} {σ : L2.St} {H : Hp} {Q' : VK} (h : liftE K E (wCall n spec wr) σ H Q') : tCall (DSp K n spec) [] E (liftA K E wr) σ H Q' := by
  obtain ⟨F, δ, M, Q, sm, lx, hw, lk⟩ := h
  refine ⟨F, δ, M, _, sm, lx, hw, fun vs H1 ds M1 r1 w1 e1 q1 => ?_⟩
  show DSp K n spec (vs ++ []) H1 Q' E
  rw [List.append_nil]
  exact ⟨F, M1, ds, Q, δ.x, q1.1, r1, w1, lx.ext w1 e1, q1.2, fun v H' d M' r w e q => lk v H' d M' r w (Ext.trans w1 e1 e) q⟩
section
variable {X : Cx} {E : XK} {j k n : Nat} {spec : DSpec} {a b c e : Expr} {wa wb wc : DTE} {ta tb : DTT} {pos p : Pos} {x : Str} {es : List Expr} {wr : DTA}
theorem de_call (hX : DX X E k) (c : DFn X.prog X.w X.K X.mg X.base j x n spec) (ha : DA X E (e :: es) wr) (hj : j ≤ k := by decide) (hg : Gl X x := by rfl) (hdb : (x == ("__debug__" : Str)) = false := by decide) (he : starEach (e :: es) X.env = (false, eval e X.env) :: starEach es X.env := by rfl) (hpl : (backTo pos (starEach es X.env)).any (·.1) = false := by rfl) :
    DE X E (.Call (.Name x p) (e :: es) [] pos) (wCall n spec wr) := by
  obtain ⟨f, fd, ps, hl, F, hm, hk, hb⟩ := c
  exact pe_mono (pe_call F (hX.room.mono hj) hg hm hk hb .nil hX.pass ha hdb he hpl) fun _ _ _ h => lift_call h
theorem de_call0 (hX : DX X E k) (c : DFn X.prog X.w X.K X.mg X.base j x n spec) (hj : j ≤ k := by decide) (hg : Gl X x := by rfl) (hdb : (x == ("__debug__" : Str)) = false := by decide) :
    DE X E (.Call (.Name x p) [] [] pos) (wCall n spec wNil) := by
  obtain ⟨f, fd, ps, hl, F, hm, hk, hb⟩ := c
  refine pe_mono (pe_call0 F (hX.room.mono hj) hg hm hk hb .nil hX.pass hdb) fun σ H Q' h => ?_
  obtain ⟨F, δ, M, Q, sm, lx, hw, lk⟩ := lift_call h
  have q := lk [] H [] M .nil sm.wd (.refl _ _ _) hw
  exact q
end
def startD (N : List Str) (ds : List D) : List (Option D) := ds.map some ++ List.replicate (N.length - ds.length) none
theorem start_rep {K : PySem.W.Frag} {B : Addr → Prop} {H : Hp} {N : List Str} {vs : List V} {ds : List D} (r : RepAll K B H vs ds) : RepS K B H (L2.start N vs) (startD N ds) := by
  refine ⟨by unfold L2.start startD; simp [r.length], fun i d h => ?_⟩
  unfold startD at h
  by_cases hi : i < ds.length
  · rw [List.getElem?_append_left (by simpa using hi), List.getElem?_map] at h
    have hd : ds[i]? = some d := by
      rw [List.getElem?_eq_getElem hi] at h ⊢
      simpa using h
    obtain ⟨v, hv, rv⟩ := r.get hd
    refine ⟨v, ?_, rv⟩
    unfold L2.start
    rw [List.getElem?_append_left (by simpa [r.length] using hi), List.getElem?_map, hv]
    rfl
  · rw [List.getElem?_append_right (by simpa using hi)] at h
    obtain ⟨_, z⟩ := List.getElem?_eq_some_iff.mp h
    simp at z
theorem Fun_okN {P : Program} {w : World} {K : PySem.W.Frag} {mg : Str → Option Value} {base : Heap} {x qual : Str} {st : Stmt} {f : Addr} {fd : FuncData} {N ps : List Str} {k : Nat} {sp : Sp} (F : Fun K x qual st f fd) (S : FnScope N ps (defScope st)) (len : ∀ vs H Q E, sp vs H Q E → vs.length = ps.length)
    (hbody : ∀ (cdv : Value) (A : Around) (outer : List Env) (s : Shared) (H : Hp) (vs : List V) (Q : VK) (E : XK), (∃ o, K.lookup f = some o ∧ ∃ gd, o.data = .func gd ∧ gd.code = cdv) → Room k (A.deeper (envOfC qual (defScope st) s.heap.objs.size f cdv)) → sp vs H Q E →
      ∃ t, PSs (cxOf (L2N.CX P w) P w K mg base N qual (defScope st) f cdv A outer s H E) (defBody st) t ∧ t { nx := fun _ H' => Q .non H', rt := Q } (L2.start N vs) H) : FnOk P w K mg base (L2N.CX P w) (k + 1) f fd ps sp := by
  obtain ⟨oc, od, kV, doc, pm, an, cdv, ct, osl, rfl, lk, hcd⟩ := F.ex
  exact fn_of lk hcd S len fun A outer s H vs Q E hr hsp => hbody cdv A outer s H vs Q E ⟨_, lk, _, rfl, rfl⟩ hr hsp
theorem fn_core {P : Program} {w : World} {K : PySem.W.Frag} {mg : Str → Option Value} {base : Heap} {k n : Nat} {x : Str} {spec : DSpec} {st : Stmt} {f : Addr} {fd : FuncData} {N ps : List Str} {wb : DTS} (F : Fun K x x st f fd) (S : FnScope N ps (defScope st)) 
    (body : ∀ (cdv : Value) (A : Around) (outer : List Env) (s : Shared) (H : Hp) (E : XK), DX (cxOf (L2N.CX P w) P w K mg base N x (defScope st) f cdv A outer s H E) E k → DSs (cxOf (L2N.CX P w) P w K mg base N x (defScope st) f cdv A outer s H E) E (defBody st) wb)
    (rd : ∀ ds M Q Ed, ds.length = n → spec ds M Q Ed → wb { nx := fun _ M' => Q .non M', rt := Q } ⟨startD N ds, Ed⟩ M) (hl : ps.length = n := by rfl) : FnOk P w K mg base (L2N.CX P w) (k + 1) f fd ps (DSp K n spec) := by
  refine Fun_okN F S (fun vs H Q E ⟨_, _, ds, _, _, hn, ra, _⟩ => by rw [ra.length, hn, hl]) (fun cdv A outer s H vs Q E _ hr ⟨F1, M, ds, Qd, Ed, hn, ra, wd, lx, hs, lk⟩ => ?_)
  have tk : L2N.Takes (cxOf (L2N.CX P w) P w K mg base N x (defScope st) f cdv A outer s H E) fun cls d _ H => E cls d H := L2N.takes_of rfl rfl rfl rfl
  have hX : DX (cxOf (L2N.CX P w) P w K mg base N x (defScope st) f cdv A outer s H E) E k := ⟨rfl, passes_of rfl, L2N.passes_call tk fun _ _ _ _ z => z, tk, S.nd, hr⟩
  refine ⟨_, body cdv A outer s H E hX, F1, ⟨startD N ds, Ed⟩, M, { nx := fun _ M' => Qd .non M', rt := Qd }, ⟨start_rep ra, wd⟩, lx, ⟨fun σ' H' δ' M' sm e _ q => ?_, fun v H' d M' r w e q => lk v H' d M' r w e q, fun _ _ _ _ _ _ _ z => z.elim, fun _ _ _ _ _ _ _ z => z.elim⟩, rd ds M Qd Ed hn hs⟩
  exact lk .non H' .non M' .non sm.wd e q
theorem DFn.mk {P : Program} {w : World} {K : PySem.W.Frag} {mg : Str → Option Value} {base : Heap} {k n : Nat} {x : Str} {spec : DSpec} {st : Stmt} {f : Addr} {fd : FuncData} {N ps : List Str} {wb : DTS} (F : Fun K x x st f fd) (S : FnScope N ps (defScope st)) (hm : mg x = some (.ref f)) (hb : Binds K fd ps [])
    (body : ∀ (cdv : Value) (A : Around) (outer : List Env) (s : Shared) (H : Hp) (E : XK), DX (cxOf (L2N.CX P w) P w K mg base N x (defScope st) f cdv A outer s H E) E k → DSs (cxOf (L2N.CX P w) P w K mg base N x (defScope st) f cdv A outer s H E) E (defBody st) wb)
    (rd : ∀ ds M Q Ed, ds.length = n → spec ds M Q Ed → wb { nx := fun _ M' => Q .non M', rt := Q } ⟨startD N ds, Ed⟩ M) (hl : ps.length = n := by rfl) : DFn P w K mg base (k + 1) x n spec :=
  ⟨f, fd, ps, hl, fn_core F S body rd hl, hm, F.kp, hb⟩
/-- a weaker promise -/
theorem DFn.imp {P : Program} {w : World} {K : PySem.W.Frag} {mg : Str → Option Value} {base : Heap} {k n : Nat} {x : Str} {spec spec' : DSpec} (h : DFn P w K mg base k x n spec) (m : ∀ ds M Q Ed, ds.length = n → spec' ds M Q Ed → spec ds M Q Ed) : DFn P w K mg base k x n spec' := by
  obtain ⟨f, fd, ps, hl, F, hm, hk, hb⟩ := h
  exact ⟨f, fd, ps, hl, F.imp fun vs H Q E ⟨F1, M, ds, Qd, Ed, hn, ra, wd, lx, hs, lk⟩ => ⟨F1, M, ds, Qd, Ed, hn, ra, wd, lx, m _ _ _ _ hn hs, lk⟩, hm, hk, hb⟩
theorem DFn.mono {P : Program} {w : World} {K : PySem.W.Frag} {mg : Str → Option Value} {base : Heap} {j k n : Nat} {x : Str} {spec : DSpec} (h : DFn P w K mg base j x n spec) (l : j ≤ k) : DFn P w K mg base k x n spec := by
  obtain ⟨f, fd, ps, hl, F, hm, hk, hb⟩ := h
  exact ⟨f, fd, ps, hl, F.mono l, hm, hk, hb⟩

/-! ### the end of a law -/
/-- the law's promise -/
def spLaw : DSpec := fun ds M Q _ => ∃ ns : List Int, ds = [.fro (ns.map D.int)] ∧ ns.length ≤ 63 ∧ ∀ M', Q (.bl true) M'
theorem repAll_ints {K : PySem.W.Frag} {B : Addr → Prop} {H : Hp} : ∀ ns : List Int, RepAll K B H (ns.map V.int) (ns.map D.int)
  | [] => .nil
  | _ :: ns => .cons (.int _) (repAll_ints ns)
theorem walk_ofX {l : PySem.W.OpenLaw} {k : Nat} {q : Program} {loose : List Str} {XP : (Str → Option Value) → Heap → Prop} {YP : World → Heap → Prop} {d : DefRec} {K : Params → PySem.W.Frag} {x : Str}
    (hn : l.most = some 63) (hdf : d.params.defaults = []) (hr : Room k callerA)
    (hY : ∀ (w : World) (h : Heap), YP w h → (K w.params).In h)
    (F : ∀ (w : World) (mg : Str → Option Value) (fa : Addr) (h : Heap), (K w.params).In h → h.Ns mainGlobals mg → XP mg h → mg d.name = some (.ref fa) →
      ∃ fd : FuncData, (∀ (s : Shared) (u : Value), BindsTo s fd ⟨[u], []⟩ [(x, u)]) ∧
        ∀ base : Heap, (K w.params).In base → base.Ns mainGlobals mg → FnOk l.prog w (K w.params) mg base (L2N.CX l.prog w) k fa fd [x] (DSp (K w.params) 1 spLaw)) :
    PySem.W.WalkO q loose XP YP l.row.toRowW d [] (fun f vs => PySem.call f vs) := by
  refine Att.attach_call hn hdf fun w s₀ s₁ mg mb fa o pm cd doc a vs ns G Y ho hd hcd hmg hobj hints hlen hg => ?_
  have KX := hY w _ Y
  obtain ⟨fd, hb, hF⟩ := F w mg fa _ KX G.T.g G.X hmg
  refine law_call KX G.T.g G.T.b G.T.builtins G.T.nolimit hg hobj hints (Nat.le_trans hlen (by decide)) hr hF hb (fun H hO hS => ?_) fun H e s' h => ?_
  · refine ⟨fun _ => False, fun _ => none, [.fro (ns.map D.int)], fun d _ => d = .bl true, fun _ _ => False, rfl, .cons (.fro ?_ (repAll_ints ns)) .nil, ⟨fun _ _ z => (by cases z), fun _ z => z.elim⟩, fun _ _ _ _ _ _ z => (xok_no z).elim, ⟨ns, rfl, hlen, fun _ => rfl⟩, fun v H' d M' r _ _ q => ?_⟩
    · rcases hS with (hS | hS) | hS
      · exact .inl ⟨hS, fun z => by rcases z with z | ⟨_, z⟩ <;> cases z⟩
      · exact .inr (.inl hS)
      · exact .inr (.inr hS)
    · subst q; cases r; rfl
  · obtain ⟨_, _, _, _, _, _, _, _, _, _, _, _, _, _, _, _, z⟩ := h

/-! ### short words for the printed terms -/
/-- the def named x stands at the module's top -/
def Here (K : PySem.W.Frag) (mg : Str → Option Value) (x : Str) (ps : List Str) (st : Stmt) : Prop := ∃ f fd, Fun K x x st f fd ∧ mg x = some (.ref f) ∧ Binds K fd ps []
theorem here_mk {K : PySem.W.Frag} {h : Heap} {mg : Str → Option Value} {x : Str} {ps : List Str} {st : Stmt} {f : Addr} {oc : Value} {od an : Option Addr} {osl : Array (Option Value)} {kV doc pm cdv ct : Value} (X : K.In h) (G : h.Ns mainGlobals mg)
    (a : PySem.W.nsIn K mainGlobals x = some (some (.ref f))) (l : K.lookup f = some ⟨oc, od, .func (PySem.W.fnOf x x (defArgs st) (defBody st) (defScope st) .none kV doc pm an cdv ct), osl⟩) (c : PySem.W.codeIn K cdv x = true) (k : PySem.W.keepIn K (.ref f) = true)
    (b : ∀ (kV doc pm : Value) (an : Option Addr) (cdv ct : Value) (us : List Value), us.length = ps.length → bindArgs (PySem.W.fnOf x x (defArgs st) (defBody st) (defScope st) .none kV doc pm an cdv ct) ⟨us, []⟩ = pure (ps.zip us)) : Here K mg x ps st := by
  have F := fun_mk (st := st) l c k
  exact ⟨f, _, F, PySem.W.mg_of X G a, F.binds b⟩
theorem DFn.here {P : Program} {w : World} {K : PySem.W.Frag} {mg : Str → Option Value} {base : Heap} {k n : Nat} {x : Str} {spec : DSpec} {st : Stmt} {N ps : List Str} {wb : DTS} (T : Here K mg x ps st) (S : FnScope N ps (defScope st))
    (body : ∀ (f : Addr) (cdv : Value) (A : Around) (outer : List Env) (s : Shared) (H : Hp) (E : XK), DX (cxOf (L2N.CX P w) P w K mg base N x (defScope st) f cdv A outer s H E) E k → DSs (cxOf (L2N.CX P w) P w K mg base N x (defScope st) f cdv A outer s H E) E (defBody st) wb)
    (rd : ∀ ds M Q Ed, ds.length = n → spec ds M Q Ed → wb { nx := fun _ M' => Q .non M', rt := Q } ⟨startD N ds, Ed⟩ M) (hl : ps.length = n := by rfl) : DFn P w K mg base (k + 1) x n spec := by
  obtain ⟨f, fd, F, hm, hb⟩ := T
  exact DFn.mk F S hm hb (body f) rd hl
/-- a global int -/
def IntAt (mg : Str → Option Value) (x : Str) (i : Int) : Prop := ∃ t, mg x = some (.int i t)
section
variable {X : Cx} {E : XK} {k : Nat} {a b c e : Expr} {wa wb wc : DTE} {ta tb : DTT} {pos : Pos}
theorem dgi {x : Str} {i : Int} (h : IntAt X.mg x i) (hg : Gl X x := by rfl) (hdb : (x == ("__debug__" : Str)) = false := by decide) : DE X E (.Name x pos) (wC (.int i)) := by
  obtain ⟨t, h⟩ := h
  exact dglob hg h (v := .int i) ⟨t, rfl⟩ (fun _ _ _ => .int _) hdb
theorem dt_eq (hX : DX X E k) (ha : DE X E a wa) (hb : DE X E b wb) : DT X E (.Compare a [.Eq] [b] pos) (wTest (wOp wEqV wa wb)) := dt_cmp (op_eqD hX.room.units) ok_eqV ha hb (nomark _)
theorem dt_ne (hX : DX X E k) (ha : DE X E a wa) (hb : DE X E b wb) : DT X E (.Compare a [.NotEq] [b] pos) (wTest (wOp wNeV wa wb)) := dt_cmp (op_neD hX.room.units) ok_neV ha hb (nomark _)
theorem dt_lt (ha : DE X E a wa) (hb : DE X E b wb) : DT X E (.Compare a [.Lt] [b] pos) (wTest (wOp (wI0 fun i j => .bl (decide (i < j))) wa wb)) := dt_cmp op_lt (okI0 fun _ _ _ _ => .bl _) ha hb (nomark _)
theorem dt_le (ha : DE X E a wa) (hb : DE X E b wb) : DT X E (.Compare a [.LtE] [b] pos) (wTest (wOp (wI0 fun i j => .bl (decide (i ≤ j))) wa wb)) := dt_cmp op_le (okI0 fun _ _ _ _ => .bl _) ha hb (nomark _)
theorem dt_gt (ha : DE X E a wa) (hb : DE X E b wb) : DT X E (.Compare a [.Gt] [b] pos) (wTest (wOp (wI0 fun i j => .bl (decide (j < i))) wa wb)) := dt_cmp op_gt (okI0 fun _ _ _ _ => .bl _) ha hb (nomark _)
theorem dt_ge (ha : DE X E a wa) (hb : DE X E b wb) : DT X E (.Compare a [.GtE] [b] pos) (wTest (wOp (wI0 fun i j => .bl (decide (j ≤ i))) wa wb)) := dt_cmp op_ge (okI0 fun _ _ _ _ => .bl _) ha hb (nomark _)
theorem dt_is (ha : DE X E a wa) (hb : DE X E b wb) : DT X E (.Compare a [.Is] [b] pos) (wTest (wOp wIs wa wb)) := dt_cmp (op_isN.or op_isBl) ok_is ha hb (nomark _)
theorem dt_isnot (ha : DE X E a wa) (hb : DE X E b wb) : DT X E (.Compare a [.IsNot] [b] pos) (wTest (wOp wIsNot wa wb)) := dt_cmp (op_notN.or op_notBl) ok_isNot ha hb (nomark _)
theorem dt_inL (hX : DX X E k) (ha : DE X E a wa) (hb : DE X E b wb) (hm : behindInMarks .In b = false := by rfl) : DT X E (.Compare a [.In] [b] pos) (wTest (wOp (wInV false) wa wb)) := dt_cmp (op_inD (room_65 hX.room)) ok_inV ha hb hm
theorem dt_notInL (hX : DX X E k) (ha : DE X E a wa) (hb : DE X E b wb) (hm : behindInMarks .NotIn b = false := by rfl) : DT X E (.Compare a [.NotIn] [b] pos) (wTest (wOp (wInV true) wa wb)) := dt_cmp (op_notInD (room_65 hX.room)) ok_notInV ha hb hm
theorem dt_inF (ha : DE X E a wa) (hb : DE X E b wb) (hm : behindInMarks .In b = false := by rfl) : DT X E (.Compare a [.In] [b] pos) (wTest (wOp (wInF false) wa wb)) := dt_cmp op_in_seq ok_inF ha hb hm
theorem dt_notInF (ha : DE X E a wa) (hb : DE X E b wb) (hm : behindInMarks .NotIn b = false := by rfl) : DT X E (.Compare a [.NotIn] [b] pos) (wTest (wOp (wInF true) wa wb)) := dt_cmp op_notIn_seq ok_inF ha hb hm
theorem dt_lele (ha : DE X E a wa) (hb : DE X E b wb) (hc : DE X E c wc) (hm : lastMarks [.LtE, .LtE] [b, c] = false := by with_unfolding_all rfl) : DT X E (.Compare a [.LtE, .LtE] [b, c] pos) (wTest (wChain kLe kLe wa wb wc)) :=
  dt_chain op_le (okI0 fun _ _ _ _ => .bl _) op_le (okI0 fun _ _ _ _ => .bl _) ha hb hc hm
theorem dt_ltle (ha : DE X E a wa) (hb : DE X E b wb) (hc : DE X E c wc) (hm : lastMarks [.Lt, .LtE] [b, c] = false := by with_unfolding_all rfl) : DT X E (.Compare a [.Lt, .LtE] [b, c] pos) (wTest (wChain kLt kLe wa wb wc)) :=
  dt_chain op_lt (okI0 fun _ _ _ _ => .bl _) op_le (okI0 fun _ _ _ _ => .bl _) ha hb hc hm
end
end Bx

set_option Elab.async false
set_option linter.all false
set_option maxRecDepth 100000
set_option maxHeartbeats 8000000
namespace Bx
open PySem PySem.Spec L2
open PyProof.Rows hiding St
/-! ### set(a list of ints), sorted of it -/
abbrev freshSet (w : World) : Obj := { cls := .type "set", dict := none, data := .set #[] 0 (.fresh 0 0 (!w.params.followText "set-order")) }
section
variable {P : Program} {w : World} {A : Around} {E : Value → Shared → Prop} {s : Shared}
theorem setOfInts {l : Addr} {xs : Array Value} (ns : List Int) {Q : Value → Shared → Prop} (calm : A.handled = none) (li : s.heap.IsList l xs) (hints : IntsAre xs.toList ns) (room : ns.length + 1 < scanBound)
    (done : ∀ (g : Heap) (tk c : Nat), SetR w g s.heap.objs.size (fun j => decide (j ∈ ns)) c → c ≤ ns.length → (∀ b o, s.heap.get? b = some o → g.get? b = some o) → Q (.ref s.heap.objs.size) { s with heap := g, toks := tk }) :
    wpAny (model P w) A (call (.type "set") [.ref l]) Q E s := by
  have size : xs.size = ns.length := by simpa using hints.length
  obtain ⟨c, tl, mro⟩ := F.called_set.mro
  have m1 := F.called_set.made
  have m2 := F.called_set.sub
  refine wpAny_call (codeAny_of_tree ?_)
  show wpAny _ _ (callAny (.type "set") _) _ _ _
  refine wpAny_pure ⟨Code.quiet_builtin _ (by decide +kernel), codeAny_builtin F.entry_type_call ?_⟩
  rw [Around.under_plain (weight_type_call_type "set" [.ref l] []) rfl]
  have n1 := F.called_set.notType
  have n2 := F.called_set.canCreate
  have n3 := F.typeCall_set_1 (.ref l)
  repeat (any_goals (first | assumption | wp_step))
  refine codeAny_mono (code_set_led1 (.ref l) (E := E) (Q₁ := fun obj t => obj = .ref s.heap.objs.size ∧ t = { s with heap := s.heap.push (freshSet w) }) ⟨rfl, rfl⟩) fun r t ht => ?_
  cases r with
  | error e => exact ht
  | ok fl => cases fl with
    | ret obj =>
      obtain ⟨rfl, rfl⟩ := ht
      have at0 : (s.heap.push (freshSet w)).get? s.heap.objs.size = some (freshSet w) := Heap.get?_push_size _ rfl
      have ty0 : Shared.TypeIs { s with heap := s.heap.push (freshSet w) } (.ref s.heap.objs.size) "set" := ⟨_, at0, rfl⟩
      have i1 := F.called_set.init.lookup
      have i2 := F.called_set.init.bind (.ref s.heap.objs.size)
      repeat (any_goals (first | assumption | wp_step))
      refine codeAny_mono (codeAny_call_builtin (R := wants (fun r u => r = .none ∧ ∃ g tk c, u = { s with heap := g, toks := tk } ∧ SetR w g s.heap.objs.size (fun j => decide (j ∈ ns)) c ∧ c ≤ ns.length ∧
        ∀ b o, s.heap.get? b = some o → g.get? b = some o) E) F.called_set.init.plain F.entry_set_init (check_set_init_1 ty0 ?_)) fun r u hu => ?_
      · obtain ⟨⟨cl, dc, dt, so⟩, go, gc, nl, gd⟩ := li
        simp only at gc gd
        subst gc gd
        have go' : (s.heap.push (freshSet w)).get? l = some { cls := .type "list", dict := dc, data := .seq xs nl, slots := so } := Heap.get?_push_of_some _ go
        have q1 := F.sub_list_set
        have q2 := F.sub_list_frozenset
        have q3 : (Value.type "list" == Value.type "dict") = false := by decide
        have li' : (s.heap.push (freshSet w)).IsList l xs := ⟨_, go', rfl, nl, rfl⟩
        unfold Builtin.«set.__init__» noKeywords Builtin.Frozenset.updateFrom
        generalize hp : pyIter = pI
        wp_walk
        subst hp
        refine wpAny_pyIter_list li' (wpAny_bind (wpAny_runValue ?_))
        have lt : l < s.heap.objs.size := Heap.lt_size go
        have sz : (s.heap.push (freshSet w)).objs.size = s.heap.objs.size + 1 := Heap.size_push ..
        have ne : l ≠ (s.heap.push (freshSet w)).objs.size := by rw [sz]; exact Nat.ne_of_lt (Nat.lt_succ_of_lt lt)
        have fresh : s.heap.objs.size ∉ [(s.heap.push (freshSet w)).objs.size, l] := by
          rw [sz]
          intro z
          rcases List.mem_cons.mp z with z | z
          · exact Nat.ne_of_lt (Nat.lt_succ_self _) z
          · exact Nat.ne_of_gt lt (List.mem_singleton.mp z)
        have val : ∀ (i : Nat) (v : Value), xs[i]? = some v → ∃ k t, ns[i]? = some k ∧ v = .int k t := fun i v hv => by
          have hi : i < ns.length := by rw [← size]; exact (Array.getElem?_eq_some_iff.mp hv).1
          obtain ⟨t, e⟩ := hints.int_at i v (by rw [Array.getElem?_toList]; exact hv)
          exact ⟨ns[i], t, List.getElem?_eq_getElem hi, by rw [e, List.getD_eq_getElem?_getD, List.getElem?_eq_getElem hi]; rfl⟩
        have calm3 : A.in1.in1.in1.handled = none := by simpa using calm
        refine set_update_ints (Walks.list calm3 _ l ne xs).toS s.heap.objs.size fresh ns size room val (xs.size - 0) 0 _ (by omega) (Nat.zero_le _) ⟨⟨_, Heap.get?_push_size _ rfl, rfl, rfl⟩, li'.push _⟩ ?first ?last
        case first => exact ⟨0, Nat.le_refl 0, setR_new_at (Heap.get?_push_of_some _ at0)⟩
        case last =>
          intro u c' mv hc hS
          obtain ⟨g, gg, dd, tk, oo⟩ := u
          obtain rfl : gg = s.gens := mv.gens
          obtain rfl : dd = s.drawn := mv.drawn
          obtain rfl : oo = s.os := mv.os
          show wpAny _ _ _ _ _ _
          refine wpAny_pure ?_
          show wpAny _ _ (ret Value.none) _ _ _
          refine wpAny_pure ⟨rfl, g, tk, c', rfl, hS, by rw [← size]; exact hc, fun b o e => ?_⟩
          have lb : b < s.heap.objs.size := Heap.lt_size e
          refine mv.heap b o (fun z => ?_) (Heap.get?_push_of_some _ (Heap.get?_push_of_some _ e))
          rcases List.mem_cons.mp z with z | z
          · exact Nat.ne_of_lt lb z
          · have e : b = s.heap.objs.size + 1 := (List.mem_singleton.mp z).trans sz
            exact absurd lb (by rw [e]; exact Nat.not_lt.mpr (Nat.le_succ _))
      · cases r with
        | error e => exact hu
        | ok f2 => cases f2 with
          | ret r =>
            obtain ⟨rfl, g, tk, c', rfl, hS, hc, hk⟩ := hu
            repeat (any_goals (first | assumption | wp_step))
            exact done _ _ _ hS hc hk
          | _ => exact hu.elim
    | _ => exact ht.elim
end

end Bx

set_option Elab.async false
set_option linter.all false
set_option maxRecDepth 100000
set_option maxHeartbeats 4000000
namespace Bx
open PySem PySem.Spec L2
open PyProof.Rows hiding St

section
variable {X : Cx} {E : XK} {k : Nat} {a b c e : Expr} {wa wb wc : DTE} {pos : Pos}
def rSetI (K : PySem.W.Frag) (w : World) : List V → Hp → VK → Prop := fun xs H Q => ∃ (l : Addr) (ns : List Int), xs = [.ref l] ∧ SqL K H l (ns.map V.int) ∧ ns.length + 1 < scanBound ∧ ∀ p n, H p = none → n ≤ ns.length → Q (.ref p) (upd H p (SetO w p (fun j => decide (j ∈ ns)) n))
theorem intsAre_vals : ∀ {ns : List Int} {us : List Value}, Vals (ns.map V.int) us → IntsAre us ns
  | [], _, .nil => .nil
  | n :: ns, _, h => by
    cases h with
    | cons r t =>
      obtain ⟨tk, rfl⟩ := r
      exact .cons n tk (intsAre_vals t)
theorem cr_setI (hc : X.calm = true) : CallR X (.type "set") (rSetI X.K X.w) := by
  intro pins s σ H xs us Q I r h
  obtain ⟨l, ns, rfl, hl, hn, q⟩ := h
  rw [Vals.ref1 r]
  obtain ⟨its, rv, pl, hz⟩ := I.list hl
  refine setOfInts ns (I.ok.hd hc) pl.isList (by simpa using intsAre_vals rv) hn fun g tk c R hcn hk => ?_
  exact ⟨.ref s.heap.objs.size, _, I.laid (t' := tk) hk (Nat.le_refl _) (setO_new R), rfl, q _ c (I.hok.fresh (Nat.le_refl _)) hcn⟩
/-- the ints among data -/
def intsD : List D → Option (List Int)
  | [] => some []
  | .int i :: ds => (match intsD ds with | some is => some (i :: is) | none => none)
  | _ :: _ => none
theorem intsD_rep {K : PySem.W.Frag} {B : Addr → Prop} {H : Hp} : ∀ {vs : List V} {ds : List D} {is : List Int}, RepAll K B H vs ds → intsD ds = some is → vs = is.map V.int
  | _, [], _, h, e => by cases h; cases e; rfl
  | _, .int i :: ds, is, h, e => by
    cases h with
    | cons h1 h2 =>
      have e : (match intsD ds with | some is => some (i :: is) | none => none) = some is := e
      cases hd : intsD ds with
      | none => rw [hd] at e; cases e
      | some js => rw [hd] at e; cases e; cases h1; rw [intsD_rep h2 hd]; rfl
  | _, .non :: _, _, _, e => by cases e
  | _, .bl _ :: _, _, _, e => by cases e
  | _, .str _ :: _, _, _, e => by cases e
  | _, .tup _ :: _, _, _, e => by cases e
  | _, .lst _ :: _, _, _, e => by cases e
  | _, .fro _ :: _, _, _, e => by cases e
  | _, .ref _ :: _, _, _, e => by cases e
theorem intsD_map : ∀ is : List Int, intsD (is.map D.int) = some is
  | [] => rfl
  | i :: is => by show (match intsD (is.map D.int) with | some is => some (i :: is) | none => none) = _; rw [intsD_map is]
/-- ints, each once, rising -/
def wSortedSet (wa : DTE) : DTE := fun δ M Q => wa δ M fun d M1 => onO (sqL M1 d) fun ds => onO (intsD ds) fun is =>
  is.length < 63 ∧ ∀ ns : List Int, ns.Pairwise (· < ·) → (∀ k, k ∈ ns ↔ k ∈ is) → Q (.lst (ns.map D.int)) M1
theorem de_sortedSet {p q : Pos} {ps : Pos} (hX : DX X E k) (hm : X.mg "sorted" = none) (hm2 : X.mg "set" = none) (ha : DE X E a wa) (hg : Gl X "sorted" := by rfl) (hg2 : Gl X "set" := by rfl)
    (he2 : starEach [a] X.env = (false, eval a X.env) :: starEach [] X.env := by rfl) (hpl2 : (backTo ps (starEach [] X.env)).any (·.1) = false := by rfl)
    (he : starEach [.Call (.Name "set" q) [a] [] ps] X.env = (false, eval (.Call (.Name "set" q) [a] [] ps) X.env) :: starEach [] X.env := by rfl) (hpl : (backTo pos (starEach [] X.env)).any (·.1) = false := by rfl) :
    DE X E (.Call (.Name "sorted" p) [.Call (.Name "set" q) [a] [] ps] [] pos) (wSortedSet wa) := by
  refine pe_mono (pe_callB (cr_sortedSet hX.calm) hg hm (by decide +kernel) (pa_cons (pe_callTy (cr_setI hX.calm) hg2 hm2 (by decide +kernel) (pa_cons ha pa_nil he2) (by decide) (by decide) he2 hpl2) pa_nil he) (by decide) (by decide) he hpl) fun σ H Q' ⟨F, δ, M, Q, sm, lx, hw, lk⟩ => ?_
  refine ⟨F, δ, M, _, sm, lx, hw, fun v H1 d M1 r1 w1 e1 q1 => ?_⟩
  obtain ⟨ds, hs, q1⟩ := onO_e q1
  · obtain ⟨is, hi, q1⟩ := onO_e q1
    · skip
      obtain ⟨p, xs, rfl, hq, ra⟩ := r1.sqL w1 hs
      have ex := intsD_rep ra hi
      subst ex
      refine ⟨p, is, rfl, hq, Nat.lt_of_lt_of_le (show is.length + 1 < 64 by omega) (by decide), fun c n hc hn => ?_⟩
      refine ⟨c, _, n, rfl, upd_same, by omega, fun ns t hp hm hl ht => ?_⟩
      have w2 := w1.laid (o := SetO X.w c (fun j => decide (j ∈ is)) n) hc
      have e2 : Ext F M1 H1 M1 (upd H1 c (SetO X.w c (fun j => decide (j ∈ is)) n)) := ext_laid hc
      exact lk _ _ _ M1 (.newLst w2 ht (repAll_ints ns)) (w2.laid ht) (Ext.trans w1 e1 (Ext.trans w2 e2 (ext_laid ht))) (q1.2 ns hp fun k => by rw [hm k]; exact decide_eq_true_iff)
/-! ### a list put together, to be changed -/
def wCatM : DR2 := fun x y M Q => match x, y with | .lst i, .lst j => i.length + j.length ≤ sizeLine ∧ ∀ p, M p = none → Q (.ref p) (updM M p (.lst (i ++ j))) | _, _ => False
theorem ok_catM {K : PySem.W.Frag} : OkR K rCat wCatM := by
  intro F M H x y d1 d2 Q Q' wd r1 r2 hw lk
  cases d1 with
  | lst i => cases d2 with
    | lst j =>
      cases r1 with
      | @lst a xs _ hs _ ha =>
        cases r2 with
        | @lst b ys _ ht _ hb =>
          refine ⟨a, b, xs, ys, rfl, rfl, hs, ht, by rw [ha.length, hb.length]; exact hw.1, fun p hp => ?_⟩
          have x : Ext F M H (updM M p (.lst (i ++ j))) (upd H p (.lst (xs ++ ys))) := ext_laidM hp
          exact lk _ _ _ _ (.ref p) (wd.laidM (m := .lst (i ++ j)) hp ⟨_, upd_same, RepAll.ext wd x _ _ (ha.append hb)⟩) x (hw.2 p (wd.noM hp))
    | _ => exact (show False from hw).elim
  | _ => exact (show False from hw).elim
theorem de_catM (ha : DE X E a wa) (hb : DE X E b wb) : DE X E (.BinOp a .Add b pos) (wOp wCatM wa wb) := de_op op_cat ok_catM ha hb
/-! ### xs[i] = e -/
def wIxSet (wv wo wi : DTE) : DTS := fun D δ M => wv δ M fun d M1 => wo δ M1 fun o M2 => wi δ M2 fun i M3 => match o, i with
  | .ref p, .int j => onO (moL (M3 p)) fun ds => onO (ixN ds.length j) fun n => D.nx δ (updM M3 p (.lst (ds.set n d)))
  | _, _ => False
theorem ds_ixset {o i v : Expr} {wo wi wv : DTE} {tpos : Pos} (hv : DE X E v wv) (ho : DE X E o wo) (hi : DE X E i wi) (hs : swapsWithSole [.Subscript o i tpos] v pos.line X.env = pure false := by rfl) (hw : swappedStores [.Subscript o i tpos] v X.env = pure none := by rfl) (h1 : (assignEach [.Subscript o i tpos] X.env).map (·.2) = [assign (.Subscript o i tpos) X.env] := by rfl)
    (h2 : ∀ v, assign (.Subscript o i tpos) X.env v = (do let ov ← holding [v] (eval o X.env); let iv ← holding [v, ov] (eval i X.env); standAt tpos; holding [v, ov, iv] (setItem ov iv v); release [v, ov, iv] []) := by intro _; rfl) :
    DS X E (.Assign [.Subscript o i tpos] v pos) (wIxSet wv wo wi) := by
  refine ps_mono (ps_asg hv (pg_sub ho hi set_list h2) hs hw h1) fun Dh σ H ⟨F, δ, M, Dd, sm, lx, ld, hw⟩ => ?_
  refine ⟨F, δ, M, _, sm, lx, hw, fun x H1 d M1 r1 w1 e1 q1 => ?_⟩
  refine ⟨F, δ, M1, _, sm.ext w1 e1, lx.ext w1 e1, q1, fun y H2 o M2 r2 w2 e2 q2 => ?_⟩
  have e12 := Ext.trans w1 e1 e2
  refine ⟨F, δ, M2, _, sm.ext w2 e12, lx.ext w2 e12, q2, fun z H3 i M3 r3 w3 e3 q3 => ?_⟩
  cases o with
  | ref p => cases i with
    | int j =>
      cases r2; cases r3
      obtain ⟨ds, hm, q3⟩ := onO_e q3
      · obtain ⟨n, hn, q3⟩ := onO_e q3
        · have hm := moL_some hm
          obtain ⟨vs, h3, ra⟩ := w3.mem p _ hm
          have rx := Rep.ext w2 e3 _ _ (Rep.ext w1 e2 _ _ r1)
          obtain ⟨w4, e4⟩ := rep_write (vs' := vs.set n x) w3 hm (ra.set rx n)
          have e14 := Ext.trans w2 e12 (Ext.trans w3 e3 e4)
          exact ⟨p, vs, j, n, rfl, rfl, h3, by rw [ra.length]; exact hn, ld.nx σ _ δ _ (sm.ext w4 e14) e14 rfl q3⟩
    | _ => exact (show False from q3).elim
  | _ => exact (show False from q3).elim
end

/-! ### readings of loops and comprehensions without effect -/
theorem lc_pure {ds : List D} {δ : DSt} {t : Tg} {tt : DTT} {te : DTE} {vs : List Nat} {Q : DK} {M : Mem} (f : D → Option D) (hlen : ds.length ≤ sizeLine)
    (turn : ∀ (i : Nat) d, ds[i]? = some d → ∀ (Y : DK) (N : Mem → Prop), (∀ y, f d = some y → Y y M) → (f d = none → N M) → t.setK d (wipeD δ.s vs) fun s => tt ⟨s, noX⟩ M fun b M2 => onT b (te ⟨s, noX⟩ M2 fun y M3 => Y y M3) (N M2)) (done : Q (.lst (ds.filterMap f)) M) : LcGoal ds δ t tt te vs Q M := by
  refine ⟨hlen, fun i acc M' => M' = M ∧ acc = (ds.take i).filterMap f, ⟨rfl, rfl⟩, fun i d acc M' hd ⟨eM, ea⟩ => ?_, fun acc M' _ ⟨eM, ea⟩ => ?_⟩
  · subst eM; subst ea
    refine turn i d hd (fun y M3 => M3 = M' ∧ (ds.take i).filterMap f ++ [y] = (ds.take (i + 1)).filterMap f) (fun M2 => M2 = M' ∧ (ds.take i).filterMap f = (ds.take (i + 1)).filterMap f) (fun y hy => ⟨rfl, ?_⟩) (fun hn => ⟨rfl, ?_⟩)
    · rw [List.take_add_one, hd, List.filterMap_append]; simp [hy]
    · rw [List.take_add_one, hd, List.filterMap_append]; simp [hn]
  · subst eM; subst ea
    rw [List.take_length]
    exact done
theorem lc_map {ds : List D} {δ : DSt} {t : Tg} {te : DTE} {vs : List Nat} {Q : DK} {M : Mem} (g : D → D) (hlen : ds.length ≤ sizeLine)
    (turn : ∀ (i : Nat) d, ds[i]? = some d → ∀ (Y : DK), Y (g d) M → t.setK d (wipeD δ.s vs) fun s => te ⟨s, noX⟩ M fun y M3 => Y y M3) (done : Q (.lst (ds.map g)) M) : LcGoal ds δ t wYes te vs Q M := by
  refine lc_pure (fun d => some (g d)) hlen (fun i d hd Y N h1 _ => ?_) (by rw [List.filterMap_eq_map']; exact done)
  have := turn i d hd Y (h1 _ rfl)
  exact this
/-! ### a def that promises nothing -/
theorem DFn.void {P : Program} {w : World} {K : PySem.W.Frag} {mg : Str → Option Value} {base : Heap} {k n : Nat} {x : Str} {st : Stmt} {ps : List Str} (T : Here K mg x ps st) (hl : ps.length = n := by rfl) : DFn P w K mg base k x n (fun _ _ _ _ => False) := by
  obtain ⟨f, fd, F, hm, hb⟩ := T
  exact ⟨f, fd, ps, hl, ⟨fun vs H Q E ⟨_, _, _, _, _, _, _, _, _, z, _⟩ => z.elim, fun A outer s H args us vs Q E _ _ _ _ ⟨_, _, _, _, _, _, _, _, _, z, _⟩ => z.elim⟩, hm, F.kp, hb⟩
end Bx

set_option Elab.async false
set_option linter.all false
set_option maxRecDepth 100000
set_option maxHeartbeats 4000000
namespace Bx
open PySem PySem.Spec L2 HT
open PyProof.Rows hiding St
/-! ### t[::-1] of a tuple -/
section
variable {prog : Program} {w : World} {A : Around} {E : Value → Shared → Prop} {s : Shared}
theorem adjust_back (n : Nat) : Builtin.Slice.sliceAdjust none none (-1) (n : Int) = ((n : Int) - 1, -1) := by
  simp [Builtin.Slice.sliceAdjust]
theorem places_back (n : Nat) : Builtin.Slice.slicePlaces ((n : Int) - 1) (-1) (-1) = n := by
  unfold Builtin.Slice.slicePlaces
  by_cases h : n = 0
  · subst h; decide
  · have : (n : Int) - 1 > -1 := by omega
    simp [this]
theorem sliced_back {sl : Addr} {vl vu vs : Value} {n : Nat} {Q : Int × Int × Nat → Shared → Prop} (hs : s.heap.IsSliceOf sl vl vu vs) (p1 : IsPart vl none) (p2 : IsPart vu none) (p3 : IsPart vs (some (-1))) (h : Q ((n : Int) - 1, -1, n) s) :
    wpAny (model prog w) A (Builtin.Slice.sliceApplied (.ref sl) (pure (n : Int))) Q E s := by
  obtain ⟨o, ho, hc, hd⟩ := id hs
  unfold Builtin.Slice.sliceApplied Builtin.Slice.sliceFields
  refine wpAny_bind (wpAny_bind (wpAny_field ho hd (x := vl) rfl (wpAny_bind (wpAny_field ho hd (x := vu) rfl (wpAny_bind (wpAny_field ho hd (x := vs) rfl (wpAny_pure ?_)))))))
  refine wpAny_bind (slicePart_ p3 ?_)
  show wpAny _ _ (if ((-1 : Int) == 0) = true then _ else _) _ _ s
  rw [if_neg (by decide)]
  refine wpAny_bind (slicePart_ p1 (wpAny_bind (slicePart_ p2 (wpAny_bind (wpAny_pure ?_)))))
  show wpAny _ _ (match Builtin.Slice.sliceAdjust none none (-1) (n : Int) with | (lo, hi) => pure (lo, (-1 : Int), Builtin.Slice.slicePlaces lo hi (-1))) _ _ s
  rw [adjust_back]
  show wpAny _ _ (pure ((n : Int) - 1, (-1 : Int), Builtin.Slice.slicePlaces ((n : Int) - 1) (-1) (-1))) _ _ s
  rw [places_back]
  exact wpAny_pure h
theorem pick_back (xs : Array Value) : ((List.range xs.size).filterMap fun (k : Nat) => xs[(((xs.size : Int) - 1) + (k : Int) * -1).toNat]?).toArray = xs.toList.reverse.toArray := by
  congr 1
  have key : ∀ (l : List Value), (List.range l.length).filterMap (fun k => l[l.length - 1 - k]?) = l.reverse := fun l => by
    apply List.ext_getElem?
    intro i
    have e : (List.range l.length).filterMap (fun k => l[l.length - 1 - k]?) = (List.range l.length).map (fun k => l.getD (l.length - 1 - k) Value.none) := by
      have : ∀ (r : List Nat), (∀ k ∈ r, k < l.length) → r.filterMap (fun k => l[l.length - 1 - k]?) = r.map (fun k => l.getD (l.length - 1 - k) Value.none) := fun r => by
        induction r with
        | nil => intro _; rfl
        | cons k r ih =>
          intro h
          have hk := h k List.mem_cons_self
          have hlt : l.length - 1 - k < l.length := by omega
          rw [List.filterMap_cons, List.getElem?_eq_getElem hlt, List.map_cons, ih fun j hj => h j (List.mem_cons_of_mem _ hj)]
          simp [List.getD_eq_getElem?_getD, List.getElem?_eq_getElem hlt]
      exact this _ fun k hk => List.mem_range.mp hk
    rw [e, List.getElem?_map]
    by_cases hi : i < l.length
    · have hlt : l.length - 1 - i < l.length := by omega
      rw [List.getElem?_range hi, List.getElem?_reverse hi]
      simp [List.getD_eq_getElem?_getD, List.getElem?_eq_getElem hlt]
    · rw [List.getElem?_eq_none (by simpa using hi), List.getElem?_eq_none (by simpa using hi)]
      rfl
  have hl := key xs.toList
  rw [Array.length_toList] at hl
  rw [← hl]
  have : ∀ (r : List Nat), (∀ k ∈ r, k < xs.size) → r.filterMap (fun (k : Nat) => xs[(((xs.size : Int) - 1) + (k : Int) * -1).toNat]?) = r.filterMap (fun k => xs.toList[xs.size - 1 - k]?) := fun r h => by
    induction r with
    | nil => rfl
    | cons k r ih =>
      have hk := h k List.mem_cons_self
      rw [List.filterMap_cons, List.filterMap_cons, ih fun j hj => h j (List.mem_cons_of_mem _ hj)]
      have : (((xs.size : Int) - 1) + (k : Int) * -1).toNat = xs.size - 1 - k := by omega
      rw [this, Array.getElem?_toList]
  exact this _ fun k hk => List.mem_range.mp hk
theorem getItem_back {t sl : Addr} {xs : Array Value} {vl vu vs : Value} {Q : Value → Shared → Prop} (ht : IsTup s.heap t xs) (hs : s.heap.IsSliceOf sl vl vu vs) (p1 : IsPart vl none) (p2 : IsPart vu none) (p3 : IsPart vs (some (-1))) (small : xs.size ≤ sizeLine)
    (h : Q (.ref s.heap.objs.size) { s with heap := s.heap.push { cls := .type "tuple", data := .seq xs.toList.reverse.toArray } }) : wpAny (model prog w) A (getItem (.ref t) (.ref sl)) Q E s := by
  have ok : sizeOk (.seq xs.toList.reverse.toArray) := by
    show xs.toList.reverse.toArray.size ≤ sizeLine
    simpa using small
  obtain ⟨o, ho, hc, hd⟩ := id hs
  have ty : s.TypeIs (.ref sl) "slice" := ⟨o, ho, hc⟩
  unfold getItem
  try with_reducible refine wpAny_holding ?_
  first | refine wpAny_bind (wpAny_pure ?_) | skip
  refine wpAny_bind (wpAny_sequenceKey ht.typeIs (by decide) (wpAny_bind (wpAny_callSpecial?_slot (name := Str.ofString "__getitem__") ht.typeIs PyProof.Rows.slot_tuple_getitem
    (wpAny_call_entry PyProof.Rows.slot_tuple_getitem ht.typeIs entry_tuple_getitem ?_ (args_tuple_getitem _ _)))))
  show wpAny _ _ (Builtin.Tuple.tupleItemsOf (.ref t) >>= _) _ _ s
  refine wpAny_bind (tupleItemsOf_ ht (wpAny_bind (wpAny_typeOf ty ?_)))
  rw [if_pos (by decide)]
  refine wpAny_bind (sliced_back hs p1 p2 p3 ?_)
  have no : ¬ ((((xs.size : Int) - 1) == 0 && (-1 : Int) == 1 && xs.size == xs.size) = true) := by
    rw [show ((-1 : Int) == 1) = false from by decide]; simp
  show wpAny _ _ (if (((xs.size : Int) - 1) == 0 && (-1 : Int) == 1 && xs.size == xs.size) = true then _ else _) _ _ s
  rw [if_neg no, pick_back]
  first
    | exact wpAny_bind (m := Builtin.Tuple.tupleExact _) (wpAny_newObj_type (wpAny_pure ⟨_, rfl, wpAny_pure h⟩) ok)
    | exact wpAny_bind (m := Builtin.Tuple.tupleExact _) (wpAny_newObj_type (wpAny_bind (wpAny_pure (wpAny_pure ⟨_, rfl, wpAny_pure h⟩))) ok)
end
section
variable {X : Cx} {E : XK} {k : Nat} {a b c e : Expr} {wa wb wc : DTE} {pos : Pos}
def tBackT (K : PySem.W.Frag) (te : TE) : TE := fun σ H Q => te σ H fun x H1 => ∃ a xs, x = .ref a ∧ SqT K H1 a xs ∧ ∀ p, H1 p = none → Q (.ref p) (upd H1 p (.tup xs.reverse))
theorem pe_backT {te : TE} {j : Nat} {p1 p2 p3 : Pos} (he : PE X e te) : PE X (.Subscript e (.Slice none none (some (.UnaryOp .USub (.Constant (.int 1) j p1) p2)) p3) pos) (tBackT X.K te) := by
  refine ⟨fun pins s σ H Q I h => Subscript_ (thn (he.run pins s σ H _ I h) fun v s1 ⟨x, H1, I1, r1, a, xs, ex, hx, q⟩ => ?_)⟩
  subst ex
  cases r1
  have third : PO X (some (.UnaryOp .USub (.Constant (.int 1) j p1) p2)) (tPart (tUn (rU fun i => .int (-i)) (tC (.int 1)))) := po_some (pe_un un_neg pe_int)
  refine wpAny_Slice (thn (po_none.run pins s1 σ H1 (fun o H2 => o = none ∧ H2 = H1) I1 ⟨rfl, rfl⟩) fun vl s2 ⟨l, H2, I2, pl, el, e2⟩ => ?_)
  subst el e2
  refine thn (po_none.run pins s2 σ H2 (fun o H3 => o = none ∧ H3 = H2) I2 ⟨rfl, rfl⟩) fun vu s3 ⟨u, H3, I3, pu, eu, e3⟩ => ?_
  subst eu e3
  refine thn (third.run pins s3 σ H3 (fun o H4 => o = some (-1) ∧ H4 = H3) I3 ⟨1, rfl, -1, rfl, rfl, rfl⟩) fun vs s4 ⟨o, H4, I4, ps, eo, e4⟩ => ?_
  subst eo e4
  have I5 : Inv X pins σ H4 { s4 with heap := s4.heap.push { cls := .type "slice", data := .fields #[vl, vu, vs] } } := I4.kept (t' := s4.toks) fun b ob q => Heap.get?_push_of_some _ q
  obtain ⟨its, r, ht, hz⟩ := I5.tuple hx
  have hlen := r.length
  show wpAny (model X.prog X.w) X.A (subscriptTail e _ (.ref a) (.ref s4.heap.objs.size)) (EP X pins σ Q) X.xe _
  refine tail_any (ops := [.ref a, .ref s4.heap.objs.size]) ht.typeIs PyProof.Rows.slot_tuple_getitem.lookup ?_ (by with_unfolding_all rfl)
  refine getItem_back ht (Heap.IsSliceOf.new _ vl vu vs) pl pu ps (by rw [List.size_toArray]; omega) ?_
  refine ⟨.ref _, _, I5.laid (t' := s4.toks) (o := .tup xs.reverse) (fun b ob q => Heap.get?_push_of_some _ q) (Nat.le_refl _) ?_, rfl, q _ (I5.hok.fresh (Nat.le_refl _))⟩
  exact ⟨by rw [List.length_reverse]; exact hz, _, r.reverse, IsTup.new _ _⟩
def wBackT (wa : DTE) : DTE := fun δ M Q => wa δ M fun d M1 => match d with | .tup ds => Q (.tup ds.reverse) M1 | _ => False
theorem de_revT {j : Nat} {p1 p2 p3 : Pos} (hX : DX X E k) (ha : DE X E a wa) : DE X E (.Subscript a (.Slice none none (some (.UnaryOp .USub (.Constant (.int 1) j p1) p2)) p3) pos) (wBackT wa) := by
  refine pe_mono (pe_backT ha) fun σ H Q' ⟨F, δ, M, Q, sm, lx, hw, lk⟩ => ?_
  refine ⟨F, δ, M, _, sm, lx, hw, fun v H1 d M1 r1 w1 e1 q1 => ?_⟩
  cases d with
  | tup ds =>
    cases r1 with
    | @tup a xs _ hs ra => exact ⟨a, xs, rfl, hs, fun p hp => lk _ _ _ M1 (.newTup w1 hp ra.reverse) (w1.laid hp) (Ext.trans w1 e1 (ext_laid hp)) q1⟩
  | _ => exact (show False from q1).elim
end
end Bx

set_option Elab.async false
set_option linter.all false
set_option maxRecDepth 100000
namespace Bx
open PySem PySem.Spec L2
open PyProof.Rows hiding St
/-! ### small facts -/
theorem fit_int (n : Nat) (i : Int) : D.fit n (.int i) = true := by cases n <;> simp [D.fit]
theorem fit_bl (n : Nat) (i : Bool) : D.fit n (.bl i) = true := by cases n <;> simp [D.fit]
theorem fit_non (n : Nat) : D.fit n .non = true := by cases n <;> simp [D.fit]
theorem fit_tupC {n : Nat} {ds : List D} : D.fit (n + 1) (.tup ds) = D.fitAll n ds := by simp [D.fit]
theorem fit_lstC {n : Nat} {ds : List D} : D.fit (n + 1) (.lst ds) = D.fitAll n ds := by simp [D.fit]
theorem fitAll_cons {n : Nat} {d : D} {ds : List D} : D.fitAll n (d :: ds) = (D.fit n d && D.fitAll n ds) := by simp [D.fitAll]
theorem fitAll_nil {n : Nat} : D.fitAll n [] = true := by simp [D.fitAll]
theorem fit_tup2 {n : Nat} {a b : D} (h : D.fit (n + 1) (.tup [a, b]) = true) : D.fit n a = true ∧ D.fit n b = true := by simpa [D.fit, D.fitAll] using h
theorem fit_up {n m : Nat} {d : D} (h : D.fit n d = true) (l : n ≤ m) : D.fit m d = true := D.fit_mono n m d l h
theorem fitAll_mem {n : Nat} : ∀ {ds : List D}, D.fitAll n ds = true ↔ ∀ d ∈ ds, D.fit n d = true
  | [] => by simp [D.fitAll]
  | d :: ds => by simp [D.fitAll, fitAll_mem (ds := ds)]
/-! ### clauses and boxes as data -/
def isWholeD : D → Int → Int → Bool
  | .int i, lo, hi => decide (lo ≤ i) && decide (i ≤ hi)
  | _, _, _ => false
def isBl : D → Bool
  | .bl _ => true
  | _ => false
def isTruths : D → Bool
  | .tup [a, b] => isBl a && isBl b
  | _ => false
def isStepD : D → Bool
  | .tup [a, b] => isWholeD a 1 6 && isWholeD b 0 5
  | _ => false
def risesD : List D → Bool
  | .int a :: .int b :: r => decide (a < b) && risesD (.int b :: r)
  | _ => true
def fstD : D → D
  | .tup (a :: _) => a
  | d => d
def isStepsD : D → Bool
  | .tup ds => decide (1 ≤ ds.length) && decide (ds.length ≤ 3) && ds.all isStepD && D.eqv ((ds.map fstD).getD 0 .non) (.int 1) && risesD (ds.map fstD)
  | _ => false
def isStart : D → Bool
  | .str x => x == "landing" || x == "release"
  | _ => false
def isClauseD : D → Bool
  | .tup [b, f, e, t, s, w] => isStart b && isWholeD f 0 6 && isTruths e && isTruths t && isStepsD s && isBl w
  | _ => false
def isBoxD : D → Bool
  | .tup [.int a, .int b] => isWholeD (.int a) 0 (10 ^ 30) && isWholeD (.int b) 0 (10 ^ 30) && decide (a ≤ b)
  | _ => false

/-! ### ints among data -/
def rising : List Int → Bool
  | a :: b :: r => decide (a < b) && rising (b :: r)
  | _ => true
theorem zip_tail_all : ∀ (is : List Int), ((is.zip is.tail).all fun p => decide (p.1 < p.2)) = rising is
  | [] => rfl
  | [_] => rfl
  | a :: b :: r => by
    have ih := zip_tail_all (b :: r)
    simp only [List.tail_cons, List.zip_cons_cons, List.all_cons, rising] at ih ⊢
    rw [ih]
theorem cut_tail (ds : List D) : cutD ds (some 1) none = ds.tail := by
  unfold cutD
  rw [show HT.sIx ds.length 0 (some 1) = min 1 ds.length from HT.sIx_nat ds.length 0 1, HT.sIx_none]
  cases ds with
  | nil => rfl
  | cons x r =>
    have : min 1 (x :: r).length = 1 := by simp
    rw [this]
    simp
theorem bools_map (bs : List Bool) : bools (bs.map D.bl) = some bs := by
  induction bs with
  | nil => rfl
  | cons b bs ih => show (match (D.bl b).asB, bools (bs.map D.bl) with | some b, some bs => some (b :: bs) | _, _ => none) = _; rw [ih]; rfl
theorem bools_mapF {α : Type} (g : α → Bool) (xs : List α) : bools (xs.map fun x => D.bl (g x)) = some (xs.map g) := by
  have := bools_map (xs.map g)
  rw [List.map_map] at this
  exact this
theorem all_mapid {α : Type} (g : α → Bool) (xs : List α) : (xs.map g).all id = xs.all g := by rw [List.all_map]; rfl
/-- of a pair of ints: the first below the second -/
def ltPair : D → Bool
  | .tup [.int a, .int b] => decide (a < b)
  | _ => false
theorem zipD_ints (is : List Int) : zipD (is.map D.int) (is.map D.int).tail = (is.zip is.tail).map fun p => D.tup [.int p.1, .int p.2] := by
  unfold zipD
  rw [← List.map_tail, List.zip_map, List.map_map]
  rfl
theorem all_ltPair (is : List Int) : (zipD (is.map D.int) (is.map D.int).tail).all ltPair = rising is := by
  rw [zipD_ints, List.all_map, ← zip_tail_all]
  rfl
def isIntsD : List D → Bool
  | [] => true
  | .int _ :: r => isIntsD r
  | _ :: _ => false
theorem ints_of : ∀ {ds : List D}, isIntsD ds = true → ∃ is : List Int, ds = is.map D.int
  | [], _ => ⟨[], rfl⟩
  | .int i :: r, h => by
    obtain ⟨is, e⟩ := ints_of (ds := r) h
    exact ⟨i :: is, by rw [e]; rfl⟩
theorem rises_ints : ∀ is : List Int, risesD (is.map D.int) = rising is
  | [] => rfl
  | [_] => rfl
  | a :: b :: r => by
    show (decide (a < b) && risesD ((b :: r).map D.int)) = _
    rw [rises_ints (b :: r)]
    rfl
theorem isWholeD_int {v : D} {lo hi : Int} (h : isWholeD v lo hi = true) : ∃ i, v = .int i ∧ lo ≤ i ∧ i ≤ hi := by
  cases v with
  | int i =>
    have h : (decide (lo ≤ i) && decide (i ≤ hi)) = true := h
    rw [Bool.and_eq_true] at h
    exact ⟨i, rfl, of_decide_eq_true h.1, of_decide_eq_true h.2⟩
  | _ => cases h
theorem isStepD_pair {v : D} (h : isStepD v = true) : ∃ a b, v = .tup [.int a, .int b] ∧ 1 ≤ a ∧ a ≤ 6 ∧ 0 ≤ b ∧ b ≤ 5 := by
  cases v with
  | tup es =>
    match es, h with
    | [x, y], h =>
      have h : (isWholeD x 1 6 && isWholeD y 0 5) = true := h
      rw [Bool.and_eq_true] at h
      obtain ⟨a, rfl, h1, h2⟩ := isWholeD_int h.1
      obtain ⟨b, rfl, h3, h4⟩ := isWholeD_int h.2
      exact ⟨a, b, rfl, h1, h2, h3, h4⟩
  | _ => cases h
theorem steps_ints {ds : List D} (h : ds.all isStepD = true) : ∃ ps : List (Int × Int), ds = ps.map (fun p => D.tup [.int p.1, .int p.2]) ∧ ds.map fstD = (ps.map (·.1)).map D.int ∧ ∀ p ∈ ps, 1 ≤ p.1 ∧ p.1 ≤ 6 ∧ 0 ≤ p.2 ∧ p.2 ≤ 5 := by
  induction ds with
  | nil => exact ⟨[], rfl, rfl, fun _ h => by cases h⟩
  | cons d ds ih =>
    rw [List.all_cons, Bool.and_eq_true] at h
    obtain ⟨a, b, rfl, h1, h2, h3, h4⟩ := isStepD_pair h.1
    obtain ⟨ps, e1, e2, e3⟩ := ih h.2
    refine ⟨(a, b) :: ps, by rw [e1]; rfl, by rw [List.map_cons, e2]; rfl, fun p hp => ?_⟩
    rcases List.mem_cons.mp hp with e | hp
    · subst e; exact ⟨h1, h2, h3, h4⟩
    · exact e3 p hp
theorem beqStr_comm (x y : Str) : (x == y) = (y == x) := by
  by_cases h : x = y
  · subst h; rfl
  · rw [beq_eq_false_iff_ne.mpr h, beq_eq_false_iff_ne.mpr fun e => h e.symm]
theorem isBoxD_len {es : List D} (h : es.length ≠ 2) : isBoxD (.tup es) = false := by
  match es, h with
  | [], _ => rfl
  | [x], _ => cases x <;> rfl
  | [_, _], h => exact absurd rfl h
  | x :: y :: _ :: _, _ => cases x <;> cases y <;> rfl
theorem cmulL {i j : Int} (h : -(2 ^ 64) < i ∧ i < 2 ^ 64 := by decide) : CMul i j := .inl h
theorem cmulR {i j : Int} (h : -(2 ^ 64) < j ∧ j < 2 ^ 64 := by decide) : CMul i j := .inr h
theorem ixN_n {n j : Nat} (hj : j < n) : ixN n (j : Int) = some j := by
  unfold ixN
  rw [if_pos (by omega), if_pos (by omega)]
  simp
theorem ixl {n : Nat} (j : Nat) (h : Nat.ble (j + 1) n = true := by rfl) : ixN n (j : Int) = some j := ixN_n (Nat.le_of_ble_eq_true h)
theorem bn {b : Bool} (h : (!b) = false) : b = true := by cases b; cases h; rfl
theorem bt {b : Bool} (h : (!b) = true) : b = false := by cases b; rfl; cases h
theorem few {n : Nat} (h : Nat.ble 1 n = true := by rfl) (h2 : Nat.ble n 200 = true := by rfl) : 0 < n ∧ n < 2 ^ 30 := ⟨Nat.le_of_ble_eq_true h, Nat.lt_of_le_of_lt (Nat.le_of_ble_eq_true h2) (by decide)⟩
theorem cmod {j : Int} (h : 0 < j := by decide) : 0 < j := h
theorem cdiv {i j : Int} (h : 0 < j ∧ j < 1073741824 := by decide) : CDiv i j := h
theorem sl {n : Nat} (h : Nat.ble n 200 = true := by rfl) : n ≤ sizeLine := Nat.le_trans (Nat.le_of_ble_eq_true h) (by decide)
/-! ### the well of numbers -/
def VatAt (M : Mem) (p : Addr) : Prop := ∃ a b : Int, M p = some (.lst [.int a, .int b])
def vatO (a b : Int) : MO := .lst [.int a, .int b]
theorem VatAt.upd {M : Mem} {p : Addr} {a b : Int} : VatAt (updM M p (vatO a b)) p := ⟨a, b, updM_same⟩
/-- M, but for the well at p -/
def VatEx (M M' : Mem) (p : Addr) : Prop := VatAt M' p ∧ ∀ q, q ≠ p → M' q = M q
theorem VatEx.refl {M : Mem} {p : Addr} (h : VatAt M p) : VatEx M M p := ⟨h, fun _ _ => rfl⟩
theorem VatEx.trans {M M1 M2 : Mem} {p : Addr} (a : VatEx M M1 p) (b : VatEx M1 M2 p) : VatEx M M2 p := ⟨b.1, fun q h => (b.2 q h).trans (a.2 q h)⟩
theorem VatEx.upd {M M1 : Mem} {p : Addr} {a b : Int} (e : VatEx M M1 p) : VatEx M (updM M1 p (vatO a b)) p := ⟨.upd, fun q h => by rw [updM_ne h]; exact e.2 q h⟩
theorem moL_vat {M : Mem} {p : Addr} {a b : Int} (h : M p = some (.lst [.int a, .int b])) : moL (M p) = some [.int a, .int b] := by rw [h]; rfl
theorem rising_pw : ∀ {is : List Int}, rising is = true ↔ is.Pairwise (· < ·)
  | [] => by simp [rising]
  | [a] => by simp [rising]
  | a :: b :: r => by
    have ih := rising_pw (is := b :: r)
    show (decide (a < b) && rising (b :: r)) = true ↔ _
    rw [Bool.and_eq_true, ih, decide_eq_true_iff, List.pairwise_cons (a := a)]
    constructor
    · rintro ⟨h1, h2⟩
      refine ⟨fun c hc => ?_, h2⟩
      rcases List.mem_cons.mp hc with e | e
      · subst e; exact h1
      · exact Int.lt_trans h1 ((List.pairwise_cons.mp h2).1 c e)
    · rintro ⟨h1, h2⟩
      exact ⟨h1 b List.mem_cons_self, h2⟩
theorem sorted_eq : ∀ {as bs : List Int}, as.Pairwise (· < ·) → bs.Pairwise (· < ·) → (∀ k, k ∈ as ↔ k ∈ bs) → as = bs
  | [], [], _, _, _ => rfl
  | [], b :: bs, _, _, h => by have := (h b).mpr List.mem_cons_self; simp at this
  | a :: as, [], _, _, h => by have := (h a).mp List.mem_cons_self; simp at this
  | a :: as, b :: bs, ha, hb, h => by
    have ⟨a1, a2⟩ := List.pairwise_cons.mp ha
    have ⟨b1, b2⟩ := List.pairwise_cons.mp hb
    have e : a = b := by
      rcases List.mem_cons.mp ((h a).mp List.mem_cons_self) with e | e
      · exact e
      · rcases List.mem_cons.mp ((h b).mpr List.mem_cons_self) with e2 | e2
        · exact e2.symm
        · have := b1 a e; have := a1 b e2; omega
    subst e
    congr 1
    refine sorted_eq a2 b2 fun k => ⟨fun hk => ?_, fun hk => ?_⟩
    · rcases List.mem_cons.mp ((h k).mp (List.mem_cons_of_mem _ hk)) with e | e
      · subst e; have := a1 k hk; omega
      · exact e
    · rcases List.mem_cons.mp ((h k).mpr (List.mem_cons_of_mem _ hk)) with e | e
      · subst e; have := b1 k hk; omega
      · exact e
theorem eqv_int {i j : Int} : D.eqv (.int i) (.int j) = (i == j) := by simp [D.eqv]
theorem eqvAll_ints : ∀ (as bs : List Int), D.eqvAll (as.map D.int) (bs.map D.int) = decide (as = bs)
  | [], [] => by simp [D.eqvAll]
  | [], _ :: _ => by simp [D.eqvAll]
  | _ :: _, [] => by simp [D.eqvAll]
  | a :: as, b :: bs => by
    have ih := eqvAll_ints as bs
    simp only [List.map_cons, D.eqvAll, eqv_int, ih]
    by_cases h : a = b <;> by_cases h2 : as = bs <;> simp [h, h2]
/-- ints against the sorted set of them -/
theorem eqv_sorted {is ns : List Int} (h : ns.Pairwise (· < ·)) (m : ∀ k, k ∈ ns ↔ k ∈ is) : D.eqv (.lst (is.map D.int)) (.lst (ns.map D.int)) = rising is := by
  have : D.eqv (.lst (is.map D.int)) (.lst (ns.map D.int)) = decide (is = ns) := by simp only [D.eqv]; exact eqvAll_ints is ns
  rw [this]
  cases e : rising is with
  | true => exact decide_eq_true (sorted_eq (rising_pw.mp e) h fun k => (m k).symm)
  | false =>
    refine decide_eq_false fun z => ?_
    subst z
    rw [rising_pw.mpr h] at e
    cases e
theorem fit_ints (n : Nat) (is : List Int) : D.fitAll n (is.map D.int) = true := fitAll_mem.mpr fun d hd => by
  obtain ⟨i, _, rfl⟩ := List.mem_map.mp hd
  exact fit_int _ _
/-! ### clauses -/
structure Cl where
  land : Bool
  free : Int
  e0 : Bool
  e1 : Bool
  s0 : Bool
  s1 : Bool
  steps : List (Int × Int)
  whole : Bool
def stepD (p : Int × Int) : D := .tup [.int p.1, .int p.2]
def Cl.d (c : Cl) : D := .tup [.str (if c.land then "landing" else "release"), .int c.free, .tup [.bl c.e0, .bl c.e1], .tup [.bl c.s0, .bl c.s1], .tup (c.steps.map stepD), .bl c.whole]
structure Cl.Ok (c : Cl) : Prop where
  free : 0 ≤ c.free ∧ c.free ≤ 6
  len : 1 ≤ c.steps.length ∧ c.steps.length ≤ 3
  step : ∀ p ∈ c.steps, (1 ≤ p.1 ∧ p.1 ≤ 6) ∧ 0 ≤ p.2 ∧ p.2 ≤ 5
  one : (c.steps.map (·.1)).head? = some 1
  up : rising (c.steps.map (·.1)) = true
/-- a box -/
def boxD (l r : Int) : D := .tup [.int l, .int r]
/-- a comprehension each of whose items has P, while I stands -/
theorem lc_each {ds : List D} {δ : DSt} {t : Tg} {te : DTE} {vs : List Nat} {Q : DK} {M : Mem} (I : Mem → Prop) (P : D → Prop) (hlen : ds.length ≤ sizeLine) (h0 : I M)
    (turn : ∀ (i : Nat) d M', ds[i]? = some d → I M' → ∀ Y : DK, (∀ y M3, P y → I M3 → Y y M3) → t.setK d (wipeD δ.s vs) fun s => te ⟨s, noX⟩ M' fun y M3 => Y y M3) (done : ∀ ys M', I M' → ys.length = ds.length → (∀ y ∈ ys, P y) → Q (.lst ys) M') : LcGoal ds δ t wYes te vs Q M := by
  refine ⟨hlen, fun i acc M' => I M' ∧ acc.length = i ∧ ∀ y ∈ acc, P y, ⟨h0, rfl, fun _ h => by cases h⟩, fun i d acc M' hd ⟨hI, ha, hP⟩ => ?_, fun acc M' _ ⟨hI, ha, hP⟩ => done acc M' hI ha hP⟩
  have := turn i d M' hd hI (fun y M3 => I M3 ∧ (acc ++ [y]).length = i + 1 ∧ ∀ z ∈ acc ++ [y], P z) fun y M3 h1 h2 => ⟨h2, by rw [List.length_append, ha]; rfl, fun z hz => by
      rcases List.mem_append.mp hz with hz | hz
      · exact hP z hz
      · rw [List.mem_singleton.mp hz]; exact h1⟩
  exact this
theorem map_of_all {α : Type} {f : α → D} {P : α → Prop} : ∀ {ys : List D}, (∀ y ∈ ys, ∃ a, y = f a ∧ P a) → ∃ as : List α, ys = as.map f ∧ ∀ a ∈ as, P a
  | [], _ => ⟨[], rfl, fun _ h => by cases h⟩
  | y :: ys, h => by
    obtain ⟨a, e, pa⟩ := h y List.mem_cons_self
    obtain ⟨as, e2, ps⟩ := map_of_all fun z hz => h z (List.mem_cons_of_mem _ hz)
    refine ⟨a :: as, by rw [e, e2]; rfl, fun b hb => ?_⟩
    rcases List.mem_cons.mp hb with e | hb
    · subst e; exact pa
    · exact ps b hb
/-- what a clause's steps begin at -/
def okF (is : List Int) : Prop := (1 ≤ is.length ∧ is.length ≤ 3) ∧ (∀ i ∈ is, 1 ≤ i ∧ i ≤ 6) ∧ is.head? = some 1 ∧ rising is = true
instance (is : List Int) : Decidable (okF is) := by unfold okF; infer_instance
theorem okF_of {is : List Int} {ps : List Int} (h : okF is) (hl : ps.length = is.length) (hp : ∀ p ∈ ps, 0 ≤ p ∧ p ≤ 5) (c : Cl) (e : c.steps = is.zip ps) (f : 0 ≤ c.free ∧ c.free ≤ 6) : c.Ok := by
  have e1 : c.steps.map (·.1) = is := by rw [e, List.map_fst_zip (by omega)]
  refine ⟨f, ?_, fun p hq => ?_, ?_, ?_⟩
  · rw [e, List.length_zip, hl, Nat.min_self]; exact h.1
  · rw [e] at hq
    obtain ⟨a, b⟩ := p
    have := List.of_mem_zip hq
    exact ⟨h.2.1 _ this.1, hp _ this.2⟩
  · rw [e1]; exact h.2.2.1
  · rw [e1]; exact h.2.2.2
theorem zipD_steps (is ps : List Int) : zipD (is.map D.int) (ps.map D.int) = (is.zip ps).map stepD := by
  unfold zipD
  rw [List.zip_map, List.map_map]
  rfl
/-! ### how wide, how deep -/
mutual
/-- no list or tuple in it of more than m items -/
def D.wide (m : Nat) : D → Bool
  | .tup ds => decide (ds.length ≤ m) && D.wideAll m ds
  | .lst ds => decide (ds.length ≤ m) && D.wideAll m ds
  | _ => true
def D.wideAll (m : Nat) : List D → Bool
  | [] => true
  | d :: ds => D.wide m d && D.wideAll m ds
end
theorem wideAll_mem {m : Nat} : ∀ {ds : List D}, D.wideAll m ds = true ↔ ∀ d ∈ ds, D.wide m d = true
  | [] => by simp [D.wideAll]
  | d :: ds => by simp [D.wideAll, wideAll_mem (ds := ds)]
mutual
theorem D.wide_mono {m k : Nat} (l : m ≤ k) : ∀ d : D, D.wide m d = true → D.wide k d = true
  | .tup ds, h => by
    have h : (decide (ds.length ≤ m) && D.wideAll m ds) = true := by simpa [D.wide] using h
    rw [Bool.and_eq_true] at h
    have := of_decide_eq_true h.1
    have a : D.wideAll k ds = true := D.wideAll_mono l ds h.2
    simp [D.wide, a]; omega
  | .lst ds, h => by
    have h : (decide (ds.length ≤ m) && D.wideAll m ds) = true := by simpa [D.wide] using h
    rw [Bool.and_eq_true] at h
    have := of_decide_eq_true h.1
    have a : D.wideAll k ds = true := D.wideAll_mono l ds h.2
    simp [D.wide, a]; omega
  | .non, _ => rfl
  | .bl _, _ => rfl
  | .int _, _ => rfl
  | .str _, _ => rfl
  | .fro _, _ => rfl
  | .ref _, _ => rfl
theorem D.wideAll_mono {m k : Nat} (l : m ≤ k) : ∀ ds : List D, D.wideAll m ds = true → D.wideAll k ds = true
  | [], _ => by simp [D.wideAll]
  | d :: ds, h => by
    have h : (D.wide m d && D.wideAll m ds) = true := by simpa [D.wideAll] using h
    rw [Bool.and_eq_true] at h
    simp [D.wideAll, D.wide_mono l d h.1, D.wideAll_mono l ds h.2]
end
/-- at most n deep, at most m wide -/
def D.sp (n m : Nat) (d : D) : Prop := D.fit n d = true ∧ D.wide m d = true
theorem sp_tup {n m : Nat} {ds : List D} : D.sp (n + 1) m (.tup ds) ↔ ds.length ≤ m ∧ ∀ d ∈ ds, D.sp n m d := by
  unfold D.sp
  rw [fit_tupC, fitAll_mem, show D.wide m (.tup ds) = (decide (ds.length ≤ m) && D.wideAll m ds) by simp [D.wide], Bool.and_eq_true, decide_eq_true_iff, wideAll_mem]
  constructor
  · rintro ⟨h1, h2, h3⟩; exact ⟨h2, fun d hd => ⟨h1 d hd, h3 d hd⟩⟩
  · rintro ⟨h1, h2⟩; exact ⟨fun d hd => (h2 d hd).1, h1, fun d hd => (h2 d hd).2⟩
theorem sp_lst {n m : Nat} {ds : List D} : D.sp (n + 1) m (.lst ds) ↔ ds.length ≤ m ∧ ∀ d ∈ ds, D.sp n m d := by
  unfold D.sp
  rw [fit_lstC, fitAll_mem, show D.wide m (.lst ds) = (decide (ds.length ≤ m) && D.wideAll m ds) by simp [D.wide], Bool.and_eq_true, decide_eq_true_iff, wideAll_mem]
  constructor
  · rintro ⟨h1, h2, h3⟩; exact ⟨h2, fun d hd => ⟨h1 d hd, h3 d hd⟩⟩
  · rintro ⟨h1, h2⟩; exact ⟨fun d hd => (h2 d hd).1, h1, fun d hd => (h2 d hd).2⟩
theorem sp_int (n m : Nat) (i : Int) : D.sp n m (.int i) := ⟨fit_int _ _, rfl⟩
theorem sp_bl (n m : Nat) (i : Bool) : D.sp n m (.bl i) := ⟨fit_bl _ _, rfl⟩
theorem sp_non (n m : Nat) : D.sp n m .non := ⟨fit_non _, rfl⟩
theorem sp_str (n m : Nat) {x : Str} (h : PyData.strOk x = true := by decide +kernel) : D.sp n m (.str x) := ⟨by cases n <;> simp [D.fit, h], rfl⟩
theorem D.sp.up {n m k : Nat} {d : D} (h : D.sp n m d) (l : m ≤ k) : D.sp n k d := ⟨h.1, D.wide_mono l d h.2⟩
theorem D.sp.deep {n k m : Nat} {d : D} (h : D.sp n m d) (l : n ≤ k) : D.sp k m d := ⟨fit_up h.1 l, h.2⟩
theorem cut_mem {ds : List D} {lo hi : Option Int} {d : D} (h : d ∈ cutD ds lo hi) : d ∈ ds := List.mem_of_mem_drop (List.mem_of_mem_take h)
theorem cut_len (ds : List D) (lo hi : Option Int) : (cutD ds lo hi).length ≤ HT.sIx ds.length ds.length hi - HT.sIx ds.length 0 lo := by
  unfold cutD
  rw [List.length_take]
  exact Nat.min_le_left _ _
theorem cut_len_le (ds : List D) (lo hi : Option Int) : (cutD ds lo hi).length ≤ ds.length := by
  unfold cutD
  rw [List.length_take, List.length_drop]
  omega
theorem cut_last (ds : List D) : (cutD ds (some (-1)) none).length ≤ 1 := by
  refine Nat.le_trans (cut_len _ _ _) ?_
  have : HT.sIx ds.length 0 (some (-1)) = ((-1 : Int) + (ds.length : Int)).toNat := by
    show (if (-1 : Int) < 0 then ((-1 : Int) + (ds.length : Int)).toNat else min (-1 : Int).toNat ds.length) = _
    rw [if_pos (by decide)]
  rw [HT.sIx_none, this]
  omega
/-- a comprehension that leaves nothing -/
theorem lc_none {ds : List D} {δ : DSt} {t : Tg} {tt : DTT} {te : DTE} {vs : List Nat} {Q : DK} {M : Mem} (hlen : ds.length ≤ sizeLine)
    (turn : ∀ (i : Nat) d, ds[i]? = some d → ∀ (Y : DK) (N : Mem → Prop), N M → t.setK d (wipeD δ.s vs) fun s => tt ⟨s, noX⟩ M fun b M2 => onT b (te ⟨s, noX⟩ M2 fun y M3 => Y y M3) (N M2)) (done : Q (.lst []) M) : LcGoal ds δ t tt te vs Q M :=
  lc_pure (fun _ => none) hlen (fun i d hd Y N _ h => turn i d hd Y N (h rfl)) (by rw [show ds.filterMap (fun _ => (none : Option D)) = [] by simp]; exact done)
/-- what clauses and boxes answer -/
theorem isStart_land (b : Bool) : isStart (.str (if b then "landing" else "release")) = true := by
  cases b
  · show (("release" : Str) == "landing" || ("release" : Str) == "release") = true
    rw [beq_self_eq_true, Bool.or_true]
  · show (("landing" : Str) == "landing" || ("landing" : Str) == "release") = true
    rw [beq_self_eq_true, Bool.true_or]
theorem isStep_stepD {p : Int × Int} (h : (1 ≤ p.1 ∧ p.1 ≤ 6) ∧ 0 ≤ p.2 ∧ p.2 ≤ 5) : isStepD (stepD p) = true := by
  show ((decide (1 ≤ p.1) && decide (p.1 ≤ 6)) && (decide (0 ≤ p.2) && decide (p.2 ≤ 5))) = true
  rw [decide_eq_true h.1.1, decide_eq_true h.1.2, decide_eq_true h.2.1, decide_eq_true h.2.2]; rfl
theorem fst_stepD (ps : List (Int × Int)) : (ps.map stepD).map fstD = (ps.map (·.1)).map D.int := by
  rw [List.map_map, List.map_map]; rfl
theorem isClauseD_ok {c : Cl} (h : c.Ok) : isClauseD c.d = true := by
  show (isStart (.str (if c.land then "landing" else "release")) && (decide (0 ≤ c.free) && decide (c.free ≤ 6)) && true && true && isStepsD (.tup (c.steps.map stepD)) && true) = true
  have st : isStepsD (.tup (c.steps.map stepD)) = true := by
    show (decide (1 ≤ (c.steps.map stepD).length) && decide ((c.steps.map stepD).length ≤ 3) && (c.steps.map stepD).all isStepD && D.eqv (((c.steps.map stepD).map fstD).getD 0 .non) (.int 1) && risesD ((c.steps.map stepD).map fstD)) = true
    rw [fst_stepD, rises_ints, h.up, List.length_map, decide_eq_true h.len.1, decide_eq_true h.len.2]
    have a : (c.steps.map stepD).all isStepD = true := by
      rw [List.all_eq_true]
      intro d hd
      obtain ⟨p, hp, rfl⟩ := List.mem_map.mp hd
      exact isStep_stepD (h.step p hp)
    have o := h.one
    have e : D.eqv (((c.steps.map (·.1)).map D.int).getD 0 .non) (.int 1) = true := by
      cases hm : c.steps.map (·.1) with
      | nil => rw [hm] at o; cases o
      | cons x r => rw [hm] at o; cases o; simp [D.eqv]
    rw [a, e]; rfl
  rw [isStart_land, st, decide_eq_true h.free.1, decide_eq_true h.free.2]; rfl
theorem sp_cl {c : Cl} (h : c.Ok) : D.sp 3 6 c.d := by
  refine sp_tup.mpr ⟨by show 6 ≤ 6; decide, fun d hd => ?_⟩
  simp only [List.mem_cons, List.not_mem_nil, or_false] at hd
  rcases hd with e | e | e | e | e | e <;> subst e
  · exact sp_str _ _ (by cases c.land <;> decide +kernel)
  · exact sp_int _ _ _
  · exact sp_tup.mpr ⟨by show 2 ≤ 6; decide, fun d hd => by
      simp only [List.mem_cons, List.not_mem_nil, or_false] at hd
      rcases hd with e | e <;> subst e <;> exact sp_bl _ _ _⟩
  · exact sp_tup.mpr ⟨by show 2 ≤ 6; decide, fun d hd => by
      simp only [List.mem_cons, List.not_mem_nil, or_false] at hd
      rcases hd with e | e <;> subst e <;> exact sp_bl _ _ _⟩
  · refine sp_tup.mpr ⟨by rw [List.length_map]; have := h.len.2; omega, fun d hd => ?_⟩
    obtain ⟨p, hp, rfl⟩ := List.mem_map.mp hd
    exact sp_tup.mpr ⟨by show 2 ≤ 6; decide, fun d hd => by
      simp only [List.mem_cons, List.not_mem_nil, or_false] at hd
      rcases hd with e | e <;> subst e <;> exact sp_int _ _ _⟩
  · exact sp_bl _ _ _
theorem sp_box (l r : Int) : D.sp 3 6 (boxD l r) := by
  refine sp_tup.mpr ⟨by show 2 ≤ 6; decide, fun d hd => ?_⟩
  simp only [List.mem_cons, List.not_mem_nil, or_false] at hd
  rcases hd with e | e <;> subst e <;> exact sp_int _ _ _
instance (c : Cl) : Decidable c.Ok := decidable_of_iff ((0 ≤ c.free ∧ c.free ≤ 6) ∧ (1 ≤ c.steps.length ∧ c.steps.length ≤ 3) ∧ (∀ p ∈ c.steps, (1 ≤ p.1 ∧ p.1 ≤ 6) ∧ 0 ≤ p.2 ∧ p.2 ≤ 5) ∧ (c.steps.map (·.1)).head? = some 1 ∧ rising (c.steps.map (·.1)) = true)
  ⟨fun ⟨a, b, c, d, e⟩ => ⟨a, b, c, d, e⟩, fun ⟨a, b, c, d, e⟩ => ⟨a, b, c, d, e⟩⟩
/-- one of a few -/
theorem mem_ix {α : Type} {es : List α} {r : Int} (h0 : 0 ≤ r) (h1 : r < es.length) {Q : α → Prop} (q : ∀ d ∈ es, Q d) : onO (atI es r) Q := by
  obtain ⟨j, rfl⟩ := Int.eq_ofNat_of_zero_le h0
  have hj : j < es.length := by omega
  exact onO_i (atI_nat (List.getElem?_eq_getElem hj)) (q _ (List.getElem_mem hj))
end Bx

set_option Elab.async false
set_option linter.all false
set_option maxRecDepth 100000
set_option maxHeartbeats 4000000
namespace Bx
open PySem PySem.Spec L2
open PyProof.Rows hiding St
/-! ### zip, each of the two a list or a tuple -/
/-- t: a tuple -/
def Kit (t : Bool) (h : Heap) (it l : Addr) (i : Nat) : Prop := match t with | true => h.IsTupleIter it l i | false => h.IsListIter it l i
def Ksq (t : Bool) (h : Heap) (l : Addr) (xs : Array Value) : Prop := match t with | true => h.IsTuple l xs | false => h.IsList l xs
theorem Kit.ext {t : Bool} {a : Addr} {h h' : Heap} {it l : Addr} {i : Nat} (k : Kit t h it l i) (e : Heap.ExtBut a h h') (n : it ≠ a) : Kit t h' it l i := by
  cases t
  · exact Heap.IsListIter.extBut k e n
  · exact Heap.IsTupleIter.extBut k e n
theorem Ksq.ext {t : Bool} {a : Addr} {h h' : Heap} {l : Addr} {xs : Array Value} (k : Ksq t h l xs) (e : Heap.ExtBut a h h') (n : l ≠ a) : Ksq t h' l xs := by
  cases t
  · exact Heap.IsList.extBut k e n
  · exact Heap.IsTuple.extBut k e n
theorem Kit.at {t : Bool} {h h' : Heap} {it l : Addr} {i : Nat} (k : Kit t h it l i) (e : ∀ o, h.get? it = some o → h'.get? it = some o) : Kit t h' it l i := by
  cases t
  · exact Heap.IsListIter.at k e
  · exact Heap.IsTupleIter.at k e
theorem Kit.obj {t : Bool} {h : Heap} {it l : Addr} {i : Nat} (k : Kit t h it l i) : ∃ o, h.get? it = some o ∧ o.data = .fields #[.ref l, .int i 0] := by
  cases t
  · obtain ⟨o, e, _, d⟩ := (show h.IsListIter it l i from k); exact ⟨o, e, d⟩
  · obtain ⟨o, e, _, d⟩ := (show h.IsTupleIter it l i from k); exact ⟨o, e, d⟩
section
variable {prog : Program} {w : World} {A : Around} {E : Value → Shared → Prop} {s : Shared}
theorem knext_item {t : Bool} {it l : Addr} {i : Nat} {items : Array Value} {x : Value} {Q : Value → Shared → Prop} (hit : Kit t s.heap it l i) (hl : Ksq t s.heap l items) (hx : items[i]? = some x)
    (hQ : ∀ h', Kit t h' it l (i + 1) → Heap.SameBut it s.heap h' → Q x { s with heap := h' }) : wpAny (model prog w) A (Builtin.SmallTypes.nextOf (.ref it)) Q E s := by
  cases t
  · exact wpAny_nextOf_list_item hit hl hx hQ
  · exact RZ.nextOf_tuple_item hit hl hx hQ
theorem knext_end {t : Bool} {it l : Addr} {i : Nat} {items : Array Value} {Q : Value → Shared → Prop} (hh : A.handled = none) (hit : Kit t s.heap it l i) (hl : Ksq t s.heap l items) (hx : items[i]? = none)
    (hE : ∀ h' e, Heap.ExtBut it s.heap h' → (∃ o, h'.get? e = some o ∧ o.cls = .type "StopIteration") → E (.ref e) { s with heap := h' }) : wpAny (model prog w) A (Builtin.SmallTypes.nextOf (.ref it)) Q E s := by
  cases t
  · exact wpAny_nextOf_list_end hh hit hl hx hE
  · exact RZ.nextOf_tuple_end hh hit hl hx hE
theorem kzip_item {t u : Bool} {z TI TO i1 i2 l1 l2 : Addr} {k1 k2 : Nat} {xs ys : Array Value} {x y a b : Value} {Q : Value → Shared → Prop} (D : ZipApart z TI TO i1 i2 l1 l2)
    (hz : IsZip s.heap z TI TO .none) (hTI : IsPair s.heap TI (.ref i1) (.ref i2)) (hTO : IsPair s.heap TO a b)
    (h1 : Kit t s.heap i1 l1 k1) (h2 : Kit u s.heap i2 l2 k2) (hl1 : Ksq t s.heap l1 xs) (hl2 : Ksq u s.heap l2 ys) (hx : xs[k1]? = some x) (hy : ys[k2]? = some y)
    (hQ : ∀ h', IsZip h' z TI TO (rawInt s.heap.objs.size) → IsPair h' TO x y → Kit t h' i1 l1 (k1 + 1) → Kit u h' i2 l2 (k2 + 1) → IsPair h' s.heap.objs.size x y → h'.objs.size = s.heap.objs.size + 1 →
      (∀ c o, c ≠ z → c ≠ TO → c ≠ i1 → c ≠ i2 → s.heap.get? c = some o → h'.get? c = some o) → Q (.ref s.heap.objs.size) { s with heap := h' }) :
    wpAny (model prog w) A (Builtin.«zip.__next__» ⟨[.ref z], []⟩) (fun fin s' => ∃ v, fin = .done (.ret v) ∧ Q v s') E s := by
  show wpAny _ _ (field (.ref z) 2 >>= _) _ _ _
  refine wpAny_bind (wpAny_field hz rfl (x := .bool false) rfl ?_)
  show wpAny _ _ (field (.ref z) 3 >>= _) _ _ _
  refine wpAny_bind (wpAny_field hz rfl (x := .ref TI) rfl (wpAny_bind (wpAny_seqItems hTI rfl ?_)))
  show wpAny _ _ (Builtin.SmallTypes.ownedTupleIsFree (.ref z) >>= _) _ _ _
  refine wpAny_bind ?_
  unfold Builtin.SmallTypes.ownedTupleIsFree
  refine wpAny_bind (wpAny_field hz rfl (x := .none) rfl (wpAny_pure ?_))
  simp only [if_true]
  refine wpAny_bind (wpAny_rule (wpAny_bind (wpAny_field hz rfl (x := .ref TO) rfl (wpAny_bind (wpAny_setField_rec hz (by simp) fun g1 z1 s1 => ?_)))))
  replace z1 : IsZip g1 z TI TO .ellipsis := z1
  refine wpAny_bind ?_
  simp only [List.zipIdx_cons, List.zipIdx_nil, List.forIn_cons, List.forIn_nil]
  refine wpAny_bind (wpAny_bind (wpAny_onRaise ?_))
  show wpAny _ _ (Builtin.SmallTypes.nextOf (.ref i1) >>= _) _ _ _
  refine wpAny_bind (knext_item (h1.ext s1.extBut D.i1z) (hl1.ext s1.extBut D.l1z) hx fun g2 h12 s2 => wpAny_pure ?_)
  have p2 : IsPair g2 TO a b := s2.extBut _ _ D.TOi1 (s1.extBut _ _ D.TOz hTO)
  refine wpAny_bind (wpAny_seqItems p2 rfl (wpAny_bind (wpAny_updateSeq_pair p2 fun g3 p3 s3 => ?_)))
  replace p3 : IsPair g3 TO x b := p3
  refine wpAny_bind (wpAny_letGo (wpAny_pure (wpAny_bind (wpAny_bind (wpAny_onRaise ?_)))))
  show wpAny _ _ (Builtin.SmallTypes.nextOf (.ref i2) >>= _) _ _ _
  refine wpAny_bind (knext_item (((h2.ext s1.extBut D.i2z).ext s2.extBut D.i12.symm).ext s3.extBut D.TOi2.symm) (((hl2.ext s1.extBut D.l2z).ext s2.extBut D.l2i1).ext s3.extBut D.l2TO) hy fun g4 h24 s4 => wpAny_pure ?_)
  have p4 : IsPair g4 TO x b := s4.extBut _ _ D.TOi2 p3
  refine wpAny_bind (wpAny_seqItems p4 rfl (wpAny_bind (wpAny_updateSeq_pair p4 fun g5 p5 s5 => ?_)))
  replace p5 : IsPair g5 TO x y := p5
  refine wpAny_bind (wpAny_letGo (wpAny_pure (wpAny_pure (wpAny_bind (wpAny_seqItems p5 rfl (wpAny_bind (wpAny_newTuple ?_)))))))
  have hsz : g5.objs.size = s.heap.objs.size := by rw [s5.1, s4.1, s3.1, s2.1, s1.1]
  have z5 : IsZip g5 z TI TO .ellipsis := s5.extBut _ _ D.TOz.symm (s4.extBut _ _ D.i2z.symm (s3.extBut _ _ D.TOz.symm (s2.extBut _ _ D.i1z.symm z1)))
  have k5 : ∀ c o, c ≠ z → c ≠ TO → c ≠ i1 → c ≠ i2 → s.heap.get? c = some o → g5.get? c = some o := fun c o c1 c2 c3 c4 e =>
    s5.extBut _ _ c2 (s4.extBut _ _ c4 (s3.extBut _ _ c2 (s2.extBut _ _ c3 (s1.extBut _ _ c1 e))))
  have h15 : Kit t g5 i1 l1 (k1 + 1) := ((h12.ext s3.extBut D.TOi1.symm).ext s4.extBut D.i12).ext s5.extBut D.TOi1.symm
  have h25 : Kit u g5 i2 l2 (k2 + 1) := h24.ext s5.extBut D.TOi2.symm
  have zl : z < g5.objs.size := Heap.lt_size z5
  show wpAny _ _ (Builtin.SmallTypes.ownedTupleHandOut (.ref z) (.ref g5.objs.size) >>= _) _ _ _
  refine wpAny_bind ?_
  unfold Builtin.SmallTypes.ownedTupleHandOut
  have z6 : IsZip (g5.push { cls := .type "tuple", data := .seq #[x, y] }) z TI TO .ellipsis := Heap.get?_push_of_some _ z5
  refine wpAny_bind (wpAny_setField_rec z6 (by simp) fun g7 z7 s7 => ?_)
  replace z7 : IsZip g7 z TI TO (rawInt g5.objs.size) := z7
  refine wpAny_setField_rec z7 (by simp) fun g8 z8 s8 => ?_
  replace z8 : IsZip g8 z TI TO (rawInt g5.objs.size) := z8
  have up : ∀ c o, c ≠ z → g5.get? c = some o → g8.get? c = some o := fun c o c1 e => s8.extBut _ _ c1 (s7.extBut _ _ c1 (Heap.get?_push_of_some _ e))
  have T8 : IsPair g8 g5.objs.size x y := s8.extBut _ _ (Nat.ne_of_gt zl) (s7.extBut _ _ (Nat.ne_of_gt zl) (Heap.get?_push_size _ rfl))
  have sz8 : g8.objs.size = g5.objs.size + 1 := by rw [s8.1, s7.1, Heap.size_push]
  rw [hsz] at z8 T8 sz8
  refine wpAny_pure ⟨_, rfl, ?_⟩
  show Q (.ref g5.objs.size) _
  rw [hsz]
  exact hQ g8 z8 (up _ _ D.TOz p5) (h15.at fun o e => up _ o D.i1z e) (h25.at fun o e => up _ o D.i2z e) T8 sz8 fun c o c1 c2 c3 c4 e => up c o c1 (k5 c o c1 c2 c3 c4 e)
theorem kzip_end {t u : Bool} {z TI TO i1 i2 l1 l2 : Addr} {k1 k2 : Nat} {xs ys : Array Value} {a b : Value} {Q : Fin → Shared → Prop} (hh : A.handled = none) (D : ZipApart z TI TO i1 i2 l1 l2)
    (hz : IsZip s.heap z TI TO .none) (hTI : IsPair s.heap TI (.ref i1) (.ref i2)) (hTO : IsPair s.heap TO a b)
    (h1 : Kit t s.heap i1 l1 k1) (h2 : Kit u s.heap i2 l2 k2) (hl1 : Ksq t s.heap l1 xs) (hl2 : Ksq u s.heap l2 ys) (hend : xs[k1]? = none ∨ ys[k2]? = none)
    (hE : ∀ h' e, (∀ c o, c ≠ z → c ≠ TO → c ≠ i1 → c ≠ i2 → s.heap.get? c = some o → h'.get? c = some o) → (∃ o, h'.get? e = some o ∧ o.cls = .type "StopIteration") → E (.ref e) { s with heap := h' }) :
    wpAny (model prog w) A (Builtin.«zip.__next__» ⟨[.ref z], []⟩) Q E s := by
  show wpAny _ _ (field (.ref z) 2 >>= _) _ _ _
  refine wpAny_bind (wpAny_field hz rfl (x := .bool false) rfl ?_)
  show wpAny _ _ (field (.ref z) 3 >>= _) _ _ _
  refine wpAny_bind (wpAny_field hz rfl (x := .ref TI) rfl (wpAny_bind (wpAny_seqItems hTI rfl ?_)))
  show wpAny _ _ (Builtin.SmallTypes.ownedTupleIsFree (.ref z) >>= _) _ _ _
  refine wpAny_bind ?_
  unfold Builtin.SmallTypes.ownedTupleIsFree
  refine wpAny_bind (wpAny_field hz rfl (x := .none) rfl (wpAny_pure ?_))
  simp only [if_true]
  refine wpAny_bind (wpAny_rule (wpAny_bind (wpAny_field hz rfl (x := .ref TO) rfl (wpAny_bind (wpAny_setField_rec hz (by simp) fun g1 z1 s1 => ?_)))))
  replace z1 : IsZip g1 z TI TO .ellipsis := z1
  refine wpAny_bind ?_
  simp only [List.zipIdx_cons, List.zipIdx_nil, List.forIn_cons, List.forIn_nil]
  refine wpAny_bind (wpAny_bind (wpAny_onRaise ?_))
  show wpAny _ _ (Builtin.SmallTypes.nextOf (.ref i1) >>= _) _ _ _
  cases hx : xs[k1]? with
  | none =>
    refine wpAny_bind (knext_end hh (h1.ext s1.extBut D.i1z) (hl1.ext s1.extBut D.l1z) hx fun g2 e s2 he => ?_)
    obtain ⟨oe, hoe, hce⟩ := he
    have z2 : IsZip g2 z TI TO .ellipsis := s2 _ _ D.i1z.symm z1
    have hez : e ≠ z := fun x => by subst x; rw [z2] at hoe; cases hoe; simp at hce
    refine wpAny_setField_rec z2 (by simp) fun g3 _ s3 => hE g3 e (fun c o c1 _ c3 _ x => s3.extBut _ _ c1 (s2 _ _ c3 (s1.extBut _ _ c1 x))) ⟨oe, s3.extBut _ _ hez hoe, hce⟩
  | some x =>
    have hy : ys[k2]? = none := by
      rcases hend with h | h
      · rw [hx] at h; cases h
      · exact h
    refine wpAny_bind (knext_item (h1.ext s1.extBut D.i1z) (hl1.ext s1.extBut D.l1z) hx fun g2 h12 s2 => wpAny_pure ?_)
    have p2 : IsPair g2 TO a b := s2.extBut _ _ D.TOi1 (s1.extBut _ _ D.TOz hTO)
    refine wpAny_bind (wpAny_seqItems p2 rfl (wpAny_bind (wpAny_updateSeq_pair p2 fun g3 p3 s3 => ?_)))
    refine wpAny_bind (wpAny_letGo (wpAny_pure (wpAny_bind (wpAny_bind (wpAny_onRaise ?_)))))
    show wpAny _ _ (Builtin.SmallTypes.nextOf (.ref i2) >>= _) _ _ _
    refine wpAny_bind (knext_end hh (((h2.ext s1.extBut D.i2z).ext s2.extBut D.i12.symm).ext s3.extBut D.TOi2.symm) (((hl2.ext s1.extBut D.l2z).ext s2.extBut D.l2i1).ext s3.extBut D.l2TO) hy fun g4 e s4 he => ?_)
    obtain ⟨oe, hoe, hce⟩ := he
    have z4 : IsZip g4 z TI TO .ellipsis := s4 _ _ D.i2z.symm (s3.extBut _ _ D.TOz.symm (s2.extBut _ _ D.i1z.symm z1))
    have hez : e ≠ z := fun x => by subst x; rw [z4] at hoe; cases hoe; simp at hce
    refine wpAny_setField_rec z4 (by simp) fun g5 _ s5 => hE g5 e (fun c o c1 c2 c3 c4 x => s5.extBut _ _ c1 (s4 _ _ c4 (s3.extBut _ _ c2 (s2.extBut _ _ c3 (s1.extBut _ _ c1 x))))) ⟨oe, s5.extBut _ _ hez hoe, hce⟩
theorem kzip_pyNext_item {t u : Bool} {z TI TO i1 i2 l1 l2 : Addr} {k1 k2 : Nat} {xs ys : Array Value} {x y a b : Value} {Q : Option Value → Shared → Prop} (D : ZipApart z TI TO i1 i2 l1 l2)
    (hz : IsZip s.heap z TI TO .none) (hTI : IsPair s.heap TI (.ref i1) (.ref i2)) (hTO : IsPair s.heap TO a b)
    (h1 : Kit t s.heap i1 l1 k1) (h2 : Kit u s.heap i2 l2 k2) (hl1 : Ksq t s.heap l1 xs) (hl2 : Ksq u s.heap l2 ys) (hx : xs[k1]? = some x) (hy : ys[k2]? = some y)
    (hQ : ∀ h', IsZip h' z TI TO (rawInt s.heap.objs.size) → IsPair h' TO x y → Kit t h' i1 l1 (k1 + 1) → Kit u h' i2 l2 (k2 + 1) → IsPair h' s.heap.objs.size x y → h'.objs.size = s.heap.objs.size + 1 →
      (∀ c o, c ≠ z → c ≠ TO → c ≠ i1 → c ≠ i2 → s.heap.get? c = some o → h'.get? c = some o) → Q (some (.ref s.heap.objs.size)) { s with heap := h' }) :
    wpAny (model prog w) A (pyNext (.ref z)) Q E s := by
  have hT : s.TypeIs (.ref z) "zip" := ⟨_, hz, rfl⟩
  unfold pyNext
  exact wpAny_bind (wpAny_attempt (wpAny_callSpecial?_slot (name := Str.ofString "__next__") hT F.slot_zip_next
    (wpAny_call_entry F.slot_zip_next hT F.entry_zip_next
      (kzip_item D hz hTI hTO h1 h2 hl1 hl2 hx hy fun h' a1 a2 a3 a4 a5 a6 a7 => wpAny_pure (hQ h' a1 a2 a3 a4 a5 a6 a7)) (F.args_zip_next_1 _))))
theorem kzip_pyNext_end {t u : Bool} {z TI TO i1 i2 l1 l2 : Addr} {k1 k2 : Nat} {xs ys : Array Value} {a b : Value} {Q : Option Value → Shared → Prop} (hh : A.handled = none) (D : ZipApart z TI TO i1 i2 l1 l2)
    (hz : IsZip s.heap z TI TO .none) (hTI : IsPair s.heap TI (.ref i1) (.ref i2)) (hTO : IsPair s.heap TO a b)
    (h1 : Kit t s.heap i1 l1 k1) (h2 : Kit u s.heap i2 l2 k2) (hl1 : Ksq t s.heap l1 xs) (hl2 : Ksq u s.heap l2 ys) (hend : xs[k1]? = none ∨ ys[k2]? = none)
    (hQ : ∀ h', (∀ c o, c ≠ z → c ≠ TO → c ≠ i1 → c ≠ i2 → s.heap.get? c = some o → h'.get? c = some o) → Q none { s with heap := h' }) : wpAny (model prog w) A (pyNext (.ref z)) Q E s := by
  have hT : s.TypeIs (.ref z) "zip" := ⟨_, hz, rfl⟩
  unfold pyNext
  refine wpAny_bind (wpAny_attempt (wpAny_callSpecial?_slot (name := Str.ofString "__next__") hT F.slot_zip_next
    (wpAny_call_entry F.slot_zip_next hT F.entry_zip_next (kzip_end hh D hz hTI hTO h1 h2 hl1 hl2 hend fun h' e hk he => ?_) (F.args_zip_next_1 _))))
  obtain ⟨o, ho, hc⟩ := he
  exact wpAny_bind (wpAny_isInstance (T := "StopIteration") (b := true) ⟨o, ho, hc⟩ isSubtype_stop (wpAny_pure (hQ _ hk)))
/-- zip(a tuple, a list) -/
abbrev zG1 (h : Heap) (l1 : Addr) : Heap := h.push { cls := .type "tuple_iterator", data := .fields #[.ref l1, .int 0 0] }
abbrev zG2 (h : Heap) (l1 l2 : Addr) : Heap := (zG1 h l1).push { cls := .type "list_iterator", data := .fields #[.ref l2, .int 0 0] }
abbrev zG3 (h : Heap) (l1 l2 : Addr) : Heap := (zG2 h l1 l2).push { cls := .type "tuple", data := .seq #[.ref h.objs.size, .ref (zG1 h l1).objs.size] }
abbrev zG4 (h : Heap) (l1 l2 : Addr) : Heap := (zG3 h l1 l2).push { cls := .type "tuple", data := .seq #[.none, .none] }
abbrev zG5 (h : Heap) (l1 l2 : Addr) : Heap := (zG4 h l1 l2).push { cls := .type "zip", data := .fields #[.none, .bool false, .bool false, .ref (zG2 h l1 l2).objs.size, .ref (zG3 h l1 l2).objs.size] }
theorem meets_zipTL (l1 l2 : Addr) (xs ys : Array Value) :
    Meets (Builtin.«zip.__new__» ⟨[.type "zip", .ref l1, .ref l2], []⟩) (fun _ R s => s.heap.IsTuple l1 xs ∧ s.heap.IsList l2 ys ∧ R (.ok (.ret (.ref (zG4 s.heap l1 l2).objs.size))) { s with heap := zG5 s.heap l1 l2 }) :=
  .of_wp fun prog w A R s h => by
    obtain ⟨hp, g, d, tk, os⟩ := s; obtain ⟨hl1, hl2, h⟩ := h
    have hsub := sub_zip
    have hL1 : Heap.IsTuple (Shared.heap ⟨hp, g, d, tk, os⟩) l1 xs := hl1
    have hL2 : Heap.IsList (Shared.heap ⟨hp.push { cls := .type "tuple_iterator", data := .fields #[.ref l1, .int 0 0] }, g, d, tk, os⟩) l2 ys := Heap.IsList.push hl2 _
    wp_walk using wpAny_pyIter_tuple hL1, wpAny_pyIter_list hL2
    exact ⟨_, rfl, h⟩
theorem call_zipTL {l1 l2 : Addr} {xs ys : Array Value} {Q : Value → Shared → Prop} (hl1 : s.heap.IsTuple l1 xs) (hl2 : s.heap.IsList l2 ys)
    (h : ∀ h', IsZip h' (s.heap.objs.size + 4) (s.heap.objs.size + 2) (s.heap.objs.size + 3) .none → IsPair h' (s.heap.objs.size + 2) (.ref s.heap.objs.size) (.ref (s.heap.objs.size + 1)) →
      IsPair h' (s.heap.objs.size + 3) .none .none → h'.IsTupleIter s.heap.objs.size l1 0 → h'.IsListIter (s.heap.objs.size + 1) l2 0 → h'.objs.size = s.heap.objs.size + 5 →
      (∀ c o, s.heap.get? c = some o → h'.get? c = some o) → Q (.ref (s.heap.objs.size + 4)) { s with heap := h' }) :
    wpAny (model prog w) A (call (.type "zip") [.ref l1, .ref l2]) Q E s := by
  refine callType_new F.called_zip (by decide) (F.typeCall_zip_2 _ _) (F.newCall_zip_2 _ _) (fun obj => F.args_object_init_3 obj _ _) F.entry_zip_new (meets_zipTL l1 l2 xs ys) ⟨hl1, hl2, ?_⟩
  have z1 : (zG1 s.heap l1).objs.size = s.heap.objs.size + 1 := Heap.size_push ..
  have z2 : (zG2 s.heap l1 l2).objs.size = s.heap.objs.size + 2 := by rw [Heap.size_push, z1]
  have z3 : (zG3 s.heap l1 l2).objs.size = s.heap.objs.size + 3 := by rw [Heap.size_push, z2]
  have z4 : (zG4 s.heap l1 l2).objs.size = s.heap.objs.size + 4 := by rw [Heap.size_push, z3]
  have z5 : (zG5 s.heap l1 l2).objs.size = s.heap.objs.size + 5 := by rw [Heap.size_push, z4]
  have g5 : (zG5 s.heap l1 l2).get? (zG4 s.heap l1 l2).objs.size = some _ := Heap.get?_push_size _ rfl
  have g4 : (zG5 s.heap l1 l2).get? (zG3 s.heap l1 l2).objs.size = some _ := Heap.get?_push_of_some _ (Heap.get?_push_size _ rfl)
  have g3 : (zG5 s.heap l1 l2).get? (zG2 s.heap l1 l2).objs.size = some _ := Heap.get?_push_of_some _ (Heap.get?_push_of_some _ (Heap.get?_push_size _ rfl))
  have g2 : (zG5 s.heap l1 l2).get? (zG1 s.heap l1).objs.size = some _ := Heap.get?_push_of_some _ (Heap.get?_push_of_some _ (Heap.get?_push_of_some _ (Heap.get?_push_size _ rfl)))
  have g1 : (zG5 s.heap l1 l2).get? s.heap.objs.size = some _ := Heap.get?_push_of_some _ (Heap.get?_push_of_some _ (Heap.get?_push_of_some _ (Heap.get?_push_of_some _ (Heap.get?_push_size _ rfl))))
  show _ ∧ _
  rw [z2, z3, z4] at g5
  rw [z1, z2] at g3
  rw [z3] at g4
  rw [z1] at g2
  rw [z4]
  exact ⟨⟨_, g5, rfl⟩, h _ g5 g3 g4 ⟨_, g1, rfl, rfl⟩ ⟨_, g2, rfl, rfl⟩ z5 fun c o x =>
    Heap.get?_push_of_some _ (Heap.get?_push_of_some _ (Heap.get?_push_of_some _ (Heap.get?_push_of_some _ (Heap.get?_push_of_some _ x))))⟩
end
/-- the tuple at a, the list at b, the items in new pairs -/
def ItzM (K : PySem.W.Frag) (a b : Addr) : It :=
  ⟨fun i H => ∃ (xs ys : List V) (x y : V), SqT K H a xs ∧ SqL K H b ys ∧ xs[i]? = some x ∧ ys[i]? = some y,
    fun i H v H' => ∃ T x y, v = .ref T ∧ H T = none ∧ H' = upd H T (.tup [x, y]) ∧ (∀ xs, SqT K H a xs → xs[i]? = some x) ∧ ∀ ys, SqL K H b ys → ys[i]? = some y,
    fun i H => ∃ xs ys : List V, SqT K H a xs ∧ SqL K H b ys ∧ (xs.length ≤ i ∨ ys.length ≤ i)⟩
theorem five {c z TI TO i1 i2 : Addr} (h : c ∈ [z, TI, TO, i1, i2]) : c = z ∨ c = TI ∨ c = TO ∨ c = i1 ∨ c = i2 := by simpa using h
theorem turn_zipM {P : Program} {w : World} {K : PySem.W.Frag} {elts : List Expr} {kk : Nat} {tpos : Pos} {a b z TI TO i1 i2 : Addr} (D : ZipApart z TI TO i1 i2 a b) :
    Turn P w K (.Tuple elts kk tpos) (ItzM K a b) [z, TI, TO, i1, i2] z (fun i h => IsZip h z TI TO .none ∧ IsPair h TI (.ref i1) (.ref i2) ∧ (∃ x y, IsPair h TO x y) ∧ Kit true h i1 a i ∧ Kit false h i2 b i) where
  mem := by simp
  obj := fun i h st c hc => by
    obtain ⟨hz, hTI, ⟨x, y, hTO⟩, h1, h2⟩ := st
    obtain ⟨o1, e1, d1⟩ := h1.obj
    obtain ⟨o2, e2, d2⟩ := h2.obj
    rcases five hc with q | q | q | q | q <;> subst q
    · exact ⟨_, hz, fun v q => nomatch q⟩
    · exact ⟨_, hTI, fun v q => nomatch q⟩
    · exact ⟨_, hTO, fun v q => nomatch q⟩
    · exact ⟨o1, e1, fun v q => by rw [d1] at q; cases q⟩
    · exact ⟨o2, e2, fun v q => by rw [d2] at q; cases q⟩
  keep := fun i h h' st k => by
    obtain ⟨hz, hTI, ⟨x, y, hTO⟩, h1, h2⟩ := st
    exact ⟨k z (by simp) _ hz, k TI (by simp) _ hTI, ⟨x, y, k TO (by simp) _ hTO⟩, h1.at fun o q => k i1 (by simp) o q, h2.at fun o q => k i2 (by simp) o q⟩
  item := by
    intro X hP hw hK hc i pins s σ H E I hf st hg
    subst hP hw hK
    obtain ⟨hz, hTI, ⟨x0, y0, hTO⟩, h1, h2⟩ := st
    obtain ⟨xs, ys, x, y, hqx, hqy, hx, hy⟩ := hg
    obtain ⟨its, rv, p, _⟩ := I.tuple hqx
    obtain ⟨its2, rv2, p2, _⟩ := I.list hqy
    obtain ⟨u, hu, ru⟩ := rv.get hx
    obtain ⟨u2, hu2, ru2⟩ := rv2.get hy
    have hzl : z < s.heap.objs.size := Heap.lt_size hz
    have out : ∀ c : Addr, c ∉ [z, TI, TO, i1, i2] → c ≠ z ∧ c ≠ TO ∧ c ≠ i1 ∧ c ≠ i2 := fun c h => ⟨fun q => h (by simp [q]), fun q => h (by simp [q]), fun q => h (by simp [q]), fun q => h (by simp [q])⟩
    refine kzip_pyNext_item D hz hTI hTO h1 h2 p p2.isList (x := u) (y := u2) (by simpa using hu) (by simpa using hu2) fun h' z' TO' h1' h2' hT hsz hk => ?_
    refine ⟨_, rfl, wpAny_letOwnedTupleGo_zip (s := { s with heap := h' }) z' fun h'' z'' sb => ?_⟩
    have hT2 : h''.get? s.heap.objs.size = some { cls := .type "tuple", data := .seq #[u, u2] } := (sb.2 _ (Nat.ne_of_gt hzl)).trans hT
    have new : ObjOk X.prog X.w (upd H s.heap.objs.size (.tup [x, y])) h'' s.heap.objs.size (.tup [x, y]) :=
      ⟨by show 2 ≤ sizeLine; decide, [u, u2], .cons ru (.cons ru2 .nil), ⟨_, hT2, rfl, _, rfl⟩⟩
    have I1 : Inv X pins σ (upd H s.heap.objs.size (.tup [x, y])) { s with heap := h'' } :=
      I.turnedNew (t' := s.toks) (ch := [z, TI, TO, i1, i2]) (fun c o hb q => (sb.2 c (out c hb).1).trans (hk c o (out c hb).1 (out c hb).2.1 (out c hb).2.2.1 (out c hb).2.2.2 q)) hf (Nat.le_refl _) new
    obtain ⟨_, l1, _⟩ := h1.obj
    obtain ⟨_, l2, _⟩ := h2.obj
    refine ⟨.ref s.heap.objs.size, _, I1, rfl, ⟨_, x, y, rfl, I.hok.fresh (Nat.le_refl _), rfl, fun l hl => by rw [I.tuple_inj hl hqx]; exact hx, fun l hl => by rw [I.list_inj hl hqy]; exact hy⟩, ⟨z'', ?_, ⟨u, u2, ?_⟩, ?_, ?_⟩, fun c hcm => ?_⟩
    · exact (sb.2 _ D.TIz).trans (hk _ _ D.TIz D.TITO D.TIi1 D.TIi2 hTI)
    · exact (sb.2 _ D.TOz).trans TO'
    · exact h1'.at fun o q => (sb.2 _ D.i1z).trans q
    · exact h2'.at fun o q => (sb.2 _ D.i2z).trans q
    · have hlt : c < s.heap.objs.size := by
        rcases five hcm with q | q | q | q | q <;> subst q
        · exact hzl
        · exact Heap.lt_size hTI
        · exact Heap.lt_size hTO
        · exact Heap.lt_size l1
        · exact Heap.lt_size l2
      rw [upd_ne (Nat.ne_of_lt hlt)]
      exact (hf c hcm).1
  done := by
    intro X hP hw hK hc i pins s σ H E I hf st hg
    subst hP hw hK
    obtain ⟨hz, hTI, ⟨x0, y0, hTO⟩, h1, h2⟩ := st
    obtain ⟨xs, ys, hqx, hqy, hend⟩ := hg
    obtain ⟨its, rv, p, _⟩ := I.tuple hqx
    obtain ⟨its2, rv2, p2, _⟩ := I.list hqy
    have l1 := rv.length
    have l2 := rv2.length
    have he : its.toArray[i]? = none ∨ its2.toArray[i]? = none := by
      rcases hend with q | q
      · exact .inl (by simp; omega)
      · exact .inr (by simp; omega)
    have out : ∀ c : Addr, c ∉ [z, TI, TO, i1, i2] → c ≠ z ∧ c ≠ TO ∧ c ≠ i1 ∧ c ≠ i2 := fun c h => ⟨fun q => h (by simp [q]), fun q => h (by simp [q]), fun q => h (by simp [q]), fun q => h (by simp [q])⟩
    exact kzip_pyNext_end (I.ok.hd hc) D hz hTI hTO h1 h2 p p2.isList he fun h' hk => ⟨rfl, I.turnedL (t' := s.toks) (ch := [z, TI, TO, i1, i2]) (fun c o hb q =>
      hk c o (out c hb).1 (out c hb).2.1 (out c hb).2.2.1 (out c hb).2.2.2 q) hf⟩
  self := fun A i s Q E st h => wpAny_pyIter_zip st.1 h
def iZipM (K : PySem.W.Frag) (ta : TA) : TI := fun σ H R => ta σ H fun vs H1 => ∃ a b xs ys, vs = [.ref a, .ref b] ∧ SqT K H1 a xs ∧ SqL K H1 b ys ∧ R (ItzM K a b) H1
theorem pi_zipM {X : Cx} {e e2 : Expr} {ta : TA} {p pos tpos : Pos} {elts : List Expr} {kk : Nat} (hg : Gl X "zip") (hm : X.mg "zip" = none) (ha : PA X [e, e2] ta)
    (hs : starEach [e, e2] X.env = (false, eval e X.env) :: starEach [e2] X.env := by rfl) (hpl : (backTo pos (starEach [e2] X.env)).any (·.1) = false := by rfl) :
    PI X (.Tuple elts kk tpos) (.Call (.Name "zip" p) [e, e2] [] pos) (iZipM X.K ta) := by
  refine ⟨fun pins s σ H R I h => ?_⟩
  refine Call_ (ld_blt I hg hm PyProof.Rows.boot_zip (PyProof.Rows.callWith_type1 (thn (ha.run pos pins s σ H _ I h) fun us s1 ⟨vs, H1, I1, r1, q1⟩ => ?_) hs hpl))
  obtain ⟨a, b, xs, ys, ex, hqx, hqy, q⟩ := q1
  subst ex
  cases r1 with
  | cons r rr =>
    cases rr with
    | cons r' rr =>
      cases rr
      cases r
      cases r'
      obtain ⟨its, rv, p1, _⟩ := I1.tuple hqx
      obtain ⟨its2, rv2, p2, _⟩ := I1.list hqy
      have lb : b < s1.heap.objs.size := p2.lt
      obtain ⟨o1, ho1, _⟩ := id p1
      refine call_zipTL (show s1.heap.IsTuple a its.toArray from p1) p2.isList fun h' hz hTI hTO h1 h2 hsz hk => wpAny_pyIter_zip hz ?_
      have I2 : Inv X pins σ H1 { s1 with heap := h' } := I1.kept (t' := s1.toks) hk
      refine ⟨s1.heap.objs.size + 4, [s1.heap.objs.size + 4, s1.heap.objs.size + 2, s1.heap.objs.size + 3, s1.heap.objs.size, s1.heap.objs.size + 1], _, _, H1, rfl, I2, turn_zipM (PySem.W.ktu_apart s1.heap.objs.size a b (Heap.lt_size ho1) lb), ⟨hz, hTI, ⟨_, _, hTO⟩, h1, h2⟩, fun c hcm => ?_, q⟩
      have hle : s1.heap.objs.size ≤ c := by
        rcases five hcm with q | q | q | q | q <;> subst q
        · exact Nat.le_add_right _ _
        · exact Nat.le_add_right _ _
        · exact Nat.le_add_right _ _
        · exact Nat.le_refl _
        · exact Nat.le_add_right _ _
      exact I1.fpOk hle (I1.hok.fresh hle)
section
variable {X : Cx} {E : XK} {k : Nat} {a b : Expr} {pos : Pos}
def wZipM (wr : DTA) : DTI := fun δ M Q => wr δ M fun ds M1 => match ds with | [.tup xs, .lst ys] => Q (zipD xs ys) M1 | _ => False
theorem di_zipM {wr : DTA} {p tpos : Pos} {elts : List Expr} {kk : Nat} (hm : X.mg "zip" = none) (ha : DA X E [a, b] wr) (hg : Gl X "zip" := by rfl) (hs : starEach [a, b] X.env = (false, eval a X.env) :: starEach [b] X.env := by rfl) (hpl : (backTo pos (starEach [b] X.env)).any (·.1) = false := by rfl) :
    DI X E (.Tuple elts kk tpos) (.Call (.Name "zip" p) [a, b] [] pos) (wZipM wr) := by
  refine pi_mono (pi_zipM hg hm ha hs hpl) fun σ H R ⟨F, δ, M, Q, sm, lx, hw, lk⟩ => ?_
  refine ⟨F, δ, M, _, sm, lx, hw, fun vs H1 ds M1 r1 w1 e1 q1 => ?_⟩
  match ds, r1, q1 with
  | [.tup xs, .lst ys], .cons (.tup (a := p) (xs := us) h1 a1) (.cons (.lst (a := q) (xs := zs) h2 n2 a2) .nil), q1 =>
    refine ⟨p, q, us, zs, rfl, h1, .of h2, lk _ H1 _ M1 w1 ?_ e1 q1⟩
    intro F' M' H' hF wd e
    have s1 : SqT X.K H' p us := SqT.ext w1 e h1
    have s2 : SqL X.K H' q zs := .of (e.keep _ _ h2 (.inr (bar_none n2)))
    refine ⟨fun i d hd => ?_, fun i hi => ⟨us, zs, s1, s2, by rw [zipD_len] at hi; rw [a1.length, a2.length]; omega⟩⟩
    obtain ⟨x, y, hx, hy, rfl⟩ := zipD_get hd
    obtain ⟨vx, hvx, rx⟩ := a1.get hx
    obtain ⟨vy, hvy, ry⟩ := a2.get hy
    refine ⟨⟨us, zs, vx, vy, s1, s2, hvx, hvy⟩, fun v H2 ⟨T, x', y', ev, nT, eH, fx, fy⟩ => ?_⟩
    subst ev; subst eH
    have : x' = vx := Option.some.inj ((fx us s1).symm.trans hvx)
    subst this
    have : y' = vy := Option.some.inj ((fy zs s2).symm.trans hvy)
    subst this
    exact ⟨.newTup wd nT (.cons (Rep.extF w1 e hF x _ rx) (.cons (Rep.extF w1 e hF y _ ry) .nil)), wd.laid nT, ext_laid nT⟩
end
theorem loose_int {lv : List (Str × PySem.W.WData)} {mg : Str → Option Value} {h : Heap} {x : Str} {i : Int} (V : PySem.W.LooseAre lv mg h) (hx : (x, PySem.W.WData.int i) ∈ lv) : IntAt mg x i := by
  obtain ⟨v, a, b⟩ := V.val _ hx
  obtain ⟨t, rfl, _⟩ := PySem.W.readsW_int_inv b
  exact ⟨t, a⟩
end Bx

set_option Elab.async false
set_option linter.all false
set_option maxRecDepth 100000
set_option maxHeartbeats 2000000
namespace Bx
open PySem PySem.Spec L2
open PyProof.Rows hiding St
/-! ### raise X('m') -/
/-- the own exception class named x stands, below ValueError; ex x is its value -/
def ErrAt (K : PySem.W.Frag) (mg : Str → Option Value) (ex : Str → Value) (x : Str) : Prop := ∃ (C : Addr) (bmB : List Value) (B newId initId : String), ExcBaseFacts B newId initId bmB ∧ PySem.W.excIn K C bmB newId = true ∧ mg x = some (.ref C) ∧ ex x = .ref C ∧
  PySem.W.keepIn K (.ref C) = true ∧ PySem.W.subIn K (.ref C) (.type "BaseException") = some true ∧ PySem.W.typeIn K (.ref C) = some (.type "type")
def exOf (mg : Str → Option Value) (x : Str) : Value := (mg x).getD .none
theorem err_mk {K : PySem.W.Frag} {h : Heap} {mg : Str → Option Value} {x : Str} {C : Addr} (X : K.In h) (G : h.Ns mainGlobals mg) (a : PySem.W.nsIn K mainGlobals x = some (some (.ref C)))
    (q : PySem.W.excIn K C [.type "ValueError", .type "Exception", .type "BaseException", .type "object"] "ValueError.__new__" = true) (k : PySem.W.keepIn K (.ref C) = true)
    (s : PySem.W.subIn K (.ref C) (.type "BaseException") = some true) (t : PySem.W.typeIn K (.ref C) = some (.type "type")) : ErrAt K mg (exOf mg) x := by
  have m := PySem.W.mg_of X G a
  exact ⟨C, _, _, _, _, PySem.F.excBase_ValueError, q, m, by unfold exOf; rw [m]; rfl, k, s, t⟩
def wRaise (c : Value) : DTS := fun _ δ M => δ.x c M
section
variable {X : Cx} {E : XK} {k : Nat} {pos pos' p p2 : Pos}
theorem ds_raise {ex : Str → Value} {x m : Str} {j : Nat} (hX : DX X E k) (F : ErrAt X.K X.mg ex x) (hg : Gl X x := by rfl) (hdb : (x == ("__debug__" : Str)) = false := by decide) :
    DS X E (.Raise (some (.Call (.Name x p) [.Constant (.str m) j p2] [] pos)) none pos') (wRaise (ex x)) := by
  obtain ⟨C, bmB, B, newId, initId, F, q, gC, eC, kC, s, t⟩ := F
  refine ps_mono (L2N.ps_raise hX.calm hX.tk (L2N.pmk_own F q gC kC (L2.raises_own s t) hg hdb)) fun Dh σ H ⟨F1, δ, M, Dd, sm, lx, ld, hw⟩ => ?_
  have hw : δ.x (ex x) M := hw
  rw [eC] at hw
  exact lx (.ref C) none H M sm.wd (.refl _ _ _) (.inl ⟨rfl, hw⟩)
end
end Bx

set_option Elab.async false
set_option linter.all false
set_option maxRecDepth 100000
set_option maxHeartbeats 2000000
namespace Bx
open PySem PySem.Spec L2
open PyProof.Rows hiding St
/-! ### sum, max, min, sorted of a list of ints -/
def wSum : DRC := fun ds M Q => match ds with | [d] => onO (sqL M d) fun es => onO (intsD es) fun ns => Q (.int ns.sum) M | _ => False
def wMax1 : DRC := fun ds M Q => match ds with | [d] => onO (sqL M d) fun es => onO (intsD es) fun ns => 0 < ns.length ∧ ∀ m, m ∈ ns → (∀ y, y ∈ ns → y ≤ m) → Q (.int m) M | _ => False
def wMin1 : DRC := fun ds M Q => match ds with | [d] => onO (sqL M d) fun es => onO (intsD es) fun ns => 0 < ns.length ∧ ∀ m, m ∈ ns → (∀ y, y ∈ ns → m ≤ y) → Q (.int m) M | _ => False
def wSorted : DRC := fun ds M Q => match ds with | [d] => onO (sqL M d) fun es => onO (intsD es) fun ns => ns.length < 64 ∧ ∀ ns' : List Int, ns'.Perm ns → ns'.Pairwise (· ≤ ·) → Q (.lst (ns'.map D.int)) M | _ => False
theorem ok_agg {K : PySem.W.Frag} {r : List V → Hp → VK → Prop} {w : DRC} {g : List Int → Mem → DK → Prop} (hw : ∀ d M Q, w [d] M Q → onO (sqL M d) fun es => onO (intsD es) fun ns => g ns M Q) (h1 : ∀ ds M Q, w ds M Q → ∃ d, ds = [d])
    (h : ∀ F M H a ns (Q : DK) (Q' : VK), Wd K F M H → SqL K H a (ns.map V.int) → g ns M Q → (∀ v H' d M', Rep K (Bar F M') H' v d → Wd K F M' H' → Ext F M H M' H' → Q d M' → Q' v H') → r [.ref a] H Q') : OkC K r w := by
  intro F M H vs ds Q Q' wd ra hq lk
  obtain ⟨d, rfl⟩ := h1 _ _ _ hq
  cases ra with
  | cons r1 r2 =>
    cases r2
    obtain ⟨es, hs, hq⟩ := onO_e (hw _ _ _ hq)
    obtain ⟨ns, hn, hq⟩ := onO_e hq
    obtain ⟨p, xs, rfl, hl, ra⟩ := r1.sqL wd hs
    have e := intsD_rep ra hn
    subst e
    exact h F M H p ns Q Q' wd hl hq lk
theorem one_of {w : List D → Prop} (h0 : ¬ w []) (h2 : ∀ a b r, ¬ w (a :: b :: r)) : ∀ ds, w ds → ∃ d, ds = [d]
  | [], h => (h0 h).elim
  | [d], _ => ⟨d, rfl⟩
  | a :: b :: r, h => (h2 a b r h).elim
section
variable {X : Cx} {E : XK} {k : Nat} {a b c e : Expr} {wa wb wc : DTE} {pos : Pos}
theorem de_sum {wr : DTA} {p : Pos} (hX : DX X E k) (hm : X.mg "sum" = none) (ha : DA X E [e] wr) (hg : Gl X "sum" := by rfl) (he : starEach [e] X.env = (false, eval e X.env) :: starEach [] X.env := by rfl) (hpl : (backTo pos (starEach [] X.env)).any (·.1) = false := by rfl) : DE X E (.Call (.Name "sum" p) [e] [] pos) (wCB wSum wr) :=
  de_cb (cr_sum hX.calm) (ok_agg (g := fun ns M Q => Q (.int ns.sum) M) (fun _ _ _ h => h) (fun ds M Q h => one_of (w := fun ds => wSum ds M Q) (fun z => z) (fun _ _ _ z => z) ds h)
    fun F M H a ns Q Q' wd hl q lk => ⟨a, ns, rfl, hl, lk _ H _ M (.int _) wd (.refl _ _ _) q⟩) hm ha (by decide +kernel) hg (by decide) (by decide) he hpl
theorem de_max1 {wr : DTA} {p : Pos} (hX : DX X E k) (hm : X.mg "max" = none) (ha : DA X E [e] wr) (hg : Gl X "max" := by rfl) (he : starEach [e] X.env = (false, eval e X.env) :: starEach [] X.env := by rfl) (hpl : (backTo pos (starEach [] X.env)).any (·.1) = false := by rfl) : DE X E (.Call (.Name "max" p) [e] [] pos) (wCB wMax1 wr) :=
  de_cb (cr_max hX.calm) (ok_agg (g := fun ns M Q => 0 < ns.length ∧ ∀ m, m ∈ ns → (∀ y, y ∈ ns → y ≤ m) → Q (.int m) M) (fun _ _ _ h => h) (fun ds M Q h => one_of (w := fun ds => wMax1 ds M Q) (fun z => z) (fun _ _ _ z => z) ds h)
    fun F M H a ns Q Q' wd hl q lk => ⟨a, ns, rfl, hl, q.1, fun m h1 h2 => lk _ H _ M (.int _) wd (.refl _ _ _) (q.2 m h1 h2)⟩) hm ha (by decide +kernel) hg (by decide) (by decide) he hpl
theorem de_min1 {wr : DTA} {p : Pos} (hX : DX X E k) (hm : X.mg "min" = none) (ha : DA X E [e] wr) (hg : Gl X "min" := by rfl) (he : starEach [e] X.env = (false, eval e X.env) :: starEach [] X.env := by rfl) (hpl : (backTo pos (starEach [] X.env)).any (·.1) = false := by rfl) : DE X E (.Call (.Name "min" p) [e] [] pos) (wCB wMin1 wr) :=
  de_cb (cr_min hX.calm) (ok_agg (g := fun ns M Q => 0 < ns.length ∧ ∀ m, m ∈ ns → (∀ y, y ∈ ns → m ≤ y) → Q (.int m) M) (fun _ _ _ h => h) (fun ds M Q h => one_of (w := fun ds => wMin1 ds M Q) (fun z => z) (fun _ _ _ z => z) ds h)
    fun F M H a ns Q Q' wd hl q lk => ⟨a, ns, rfl, hl, q.1, fun m h1 h2 => lk _ H _ M (.int _) wd (.refl _ _ _) (q.2 m h1 h2)⟩) hm ha (by decide +kernel) hg (by decide) (by decide) he hpl
theorem de_sorted {wr : DTA} {p : Pos} (hX : DX X E k) (hm : X.mg "sorted" = none) (ha : DA X E [e] wr) (hg : Gl X "sorted" := by rfl) (he : starEach [e] X.env = (false, eval e X.env) :: starEach [] X.env := by rfl) (hpl : (backTo pos (starEach [] X.env)).any (·.1) = false := by rfl) : DE X E (.Call (.Name "sorted" p) [e] [] pos) (wCB wSorted wr) :=
  de_cb cr_sorted (ok_agg (g := fun ns M Q => ns.length < 64 ∧ ∀ ns' : List Int, ns'.Perm ns → ns'.Pairwise (· ≤ ·) → Q (.lst (ns'.map D.int)) M) (fun _ _ _ h => h) (fun ds M Q h => one_of (w := fun ds => wSorted ds M Q) (fun z => z) (fun _ _ _ z => z) ds h)
    fun F M H a ns Q Q' wd hl q lk => ⟨a, ns, rfl, hl, q.1, fun ns' p h1 h2 hp => lk _ _ _ M (.newLst wd hp (repAll_ints ns')) (wd.laid hp) (ext_laid hp) (q.2 ns' h1 h2)⟩) hm ha (by decide +kernel) hg (by decide) (by decide) he hpl
end
end Bx

set_option Elab.async false
set_option linter.all false
set_option maxRecDepth 100000
namespace Bx
open PySem PySem.Spec L2
open PyProof.Rows hiding St
/-! ### the costs, plainly -/
def isWk (d : Int) : Bool := decide (5 ≤ d % 7)
def mx0 (x : Int) : Int := if x > 0 then x else 0
def wkTo (d : Int) : Int := (d + 1) / 7 * 2 + mx0 ((d + 1) % 7 - 5)
def Cl.e (c : Cl) (late : Bool) : Bool := match late with | true => c.e1 | false => c.e0
def Cl.s (c : Cl) (late : Bool) : Bool := match late with | true => c.s1 | false => c.s0
/-- counted: w a weekend, s struck -/
def Cl.cnt (c : Cl) (late w s : Bool) : Bool := (!w || c.e late) && !(s && c.s late)
def Cl.start (c : Cl) (l r : Int) : Int := match c.land with | true => l | false => r
def hit (ss : List Int) (d : Int) : Bool := ss.any fun z => z == d
def b1 (b : Bool) : Int := match b with | true => 1 | false => 0
/-- the day at which the free days are used up -/
def freeRun (c : Cl) (ss : List Int) : Nat → Int → Int → Int
  | 0, day, _ => day
  | n + 1, day, left => match decide (left > 0) with | true => freeRun c ss n (day + 1) (left - b1 (c.cnt false (isWk (day + 1)) (hit ss (day + 1)))) | false => day
/-- a strike that costs nothing -/
def Cl.off (c : Cl) (D f : Int) (s : Int) : Bool := c.s1 && (decide (D < s) && decide (s ≤ f) && c.cnt true (isWk s) false)
def lateC (c : Cl) (D f : Int) (ss : List Int) : Int := mx0 (f - D) - (match c.e1 with | true => 0 | false => mx0 (wkTo f - wkTo D)) - ((ss.filter (c.off D f)).length : Int)
def Cl.free0 (c : Cl) (l r f : Int) (ss : List Int) : Int := freeRun c ss (f - c.start l r).toNat (c.start l r) c.free
def dearC (c : Cl) (l r f : Int) (ss : List Int) : Int := lateC c (c.free0 l r f ss) f ss
/-- the price of the number-th day -/
def priceF (ps : List (Int × Int)) (n : Int) : Int := ps.foldl (fun a p => if p.1 ≤ n then p.2 else a) 0
def mn (a b : Int) : Int := if b < a then b else a
def amtG (zs : List ((Int × Int) × Int)) (n : Int) : Int := zs.foldl (fun a z => a + mx0 (mn (z.2 - 1) n - z.1.1 + 1) * z.1.2) 0
def Cl.ends (c : Cl) (n : Int) : List Int := (c.steps.map (·.1)).tail ++ [n + 1]
def amtC (c : Cl) (n : Int) : Int := match c.whole with | true => (match decide (n > 0) with | true => n * priceF c.steps n | false => 0) | false => amtG (c.steps.zip (c.ends n)) n
def costC (c : Cl) (l r f : Int) (ss : List Int) : Int := amtC c (dearC c l r f ss)
/-! as the law has it -/
def daysL (lo : Int) (n : Nat) : List Int := (List.range n).map fun i => lo + (i : Nat)
def dayStep (c : Cl) (ss : List Int) (st : Int × Int) (d : Int) : Int × Int :=
  match c.cnt (st.1 == 0) (isWk d) (hit ss d) with | false => st | true => (match st.1 == 0 with | true => (st.1, st.2 + 1) | false => (st.1 - 1, st.2))
def dayFold (c : Cl) (ss : List Int) (st : Int × Int) (lo : Int) (n : Nat) : Int × Int := (daysL lo n).foldl (dayStep c ss) st
def lawDays (c : Cl) (l r f : Int) (ss : List Int) : Int := (dayFold c ss (c.free, 0) (c.start l r + 1) (f - c.start l r).toNat).2
def sumF (ps : List (Int × Int)) (n : Nat) : Int := ((daysL 1 n).map (priceF ps)).sum
def sumC (c : Cl) (n : Int) : Int := match c.whole with | true => n * priceF c.steps n | false => sumF c.steps n.toNat
def lawCost (c : Cl) (l r f : Int) (ss : List Int) : Int := sumC c (lawDays c l r f ss)

/-! ### days -/
theorem daysL_zero (lo : Int) : daysL lo 0 = [] := rfl
theorem daysL_succ (lo : Int) (n : Nat) : daysL lo (n + 1) = daysL lo n ++ [lo + (n : Nat)] := by unfold daysL; rw [List.range_succ, List.map_append]; rfl
theorem daysL_cons (lo : Int) (n : Nat) : daysL lo (n + 1) = lo :: daysL (lo + 1) n := by
  unfold daysL
  rw [List.range_succ_eq_map, List.map_cons, List.map_map]
  congr 1
  · simp
  · apply List.map_congr_left
    intro i _
    show lo + ((i + 1 : Nat) : Int) = lo + 1 + (i : Nat)
    omega
/-- counted days without a free day left -/
def cntLate (c : Cl) (ss : List Int) (lo : Int) (n : Nat) : Int := ((daysL lo n).map fun d => b1 (c.cnt true (isWk d) (hit ss d))).sum
theorem sum_append (xs ys : List Int) : (xs ++ ys).sum = xs.sum + ys.sum := by induction xs with | nil => simp | cons x xs ih => simp [ih]; omega
theorem cntLate_succ (c : Cl) (ss : List Int) (lo : Int) (n : Nat) : cntLate c ss lo (n + 1) = cntLate c ss lo n + b1 (c.cnt true (isWk (lo + (n : Nat))) (hit ss (lo + (n : Nat)))) := by
  unfold cntLate
  rw [daysL_succ, List.map_append, sum_append]
  simp
theorem dayStep_late (c : Cl) (ss : List Int) (g d : Int) : dayStep c ss (0, g) d = (0, g + b1 (c.cnt true (isWk d) (hit ss d))) := by
  unfold dayStep
  show (match c.cnt true (isWk d) (hit ss d) with | false => ((0 : Int), g) | true => (0, g + 1)) = _
  cases c.cnt true (isWk d) (hit ss d) <;> simp [b1]
theorem dayFold_late (c : Cl) (ss : List Int) (g lo : Int) : ∀ n : Nat, dayFold c ss (0, g) lo n = (0, g + cntLate c ss lo n)
  | 0 => by simp [dayFold, cntLate, daysL]
  | n + 1 => by
    have ih := dayFold_late c ss g lo n
    unfold dayFold at ih ⊢
    rw [daysL_succ, List.foldl_append, ih, List.foldl_cons, List.foldl_nil, dayStep_late, cntLate_succ]
    congr 1
    omega
theorem freeRun_range (c : Cl) (ss : List Int) : ∀ (n : Nat) (day left : Int), day ≤ freeRun c ss n day left ∧ freeRun c ss n day left ≤ day + n
  | 0, day, left => by simp [freeRun]
  | n + 1, day, left => by
    unfold freeRun
    cases decide (left > 0) with
    | false => exact ⟨Int.le_refl _, by show day ≤ day + ((n + 1 : Nat) : Int); omega⟩
    | true =>
      have ih := freeRun_range c ss n (day + 1) (left - b1 (c.cnt false (isWk (day + 1)) (hit ss (day + 1))))
      show day ≤ freeRun c ss n (day + 1) _ ∧ freeRun c ss n (day + 1) _ ≤ day + ((n + 1 : Nat) : Int)
      omega
theorem dayFold_run (c : Cl) (ss : List Int) : ∀ (n : Nat) (day left g : Int), 0 ≤ left → (dayFold c ss (left, g) (day + 1) n).2 = g + cntLate c ss (freeRun c ss n day left + 1) (day + n - freeRun c ss n day left).toNat
  | 0, day, left, g, _ => by
    have e : (day + ((0 : Nat) : Int) - day).toNat = 0 := by omega
    simp only [freeRun]
    rw [e]
    simp [dayFold, cntLate, daysL]
  | n + 1, day, left, g, h => by
    by_cases h0 : left > 0
    · have hne : (left == 0) = false := by rw [beq_eq_false_iff_ne]; omega
      have ih := dayFold_run c ss n (day + 1) (left - b1 (c.cnt false (isWk (day + 1)) (hit ss (day + 1)))) g (by
        cases c.cnt false (isWk (day + 1)) (hit ss (day + 1)) <;> simp [b1] <;> omega)
      have e : freeRun c ss (n + 1) day left = freeRun c ss n (day + 1) (left - b1 (c.cnt false (isWk (day + 1)) (hit ss (day + 1)))) := by
        show (match decide (left > 0) with | true => _ | false => _) = _
        rw [decide_eq_true h0]
      have s : dayStep c ss (left, g) (day + 1) = (left - b1 (c.cnt false (isWk (day + 1)) (hit ss (day + 1))), g) := by
        unfold dayStep
        show (match c.cnt (left == 0) (isWk (day + 1)) (hit ss (day + 1)) with | false => (left, g) | true => (match left == 0 with | true => (left, g + 1) | false => (left - 1, g))) = _
        rw [hne]
        cases c.cnt false (isWk (day + 1)) (hit ss (day + 1)) <;> simp [b1]
      rw [e]
      unfold dayFold at ih ⊢
      rw [daysL_cons, List.foldl_cons, s, ih]
      congr 2
      congr 1
      omega
    · have h1 : left = 0 := by omega
      subst h1
      rw [dayFold_late]
      have e : freeRun c ss (n + 1) day 0 = day := rfl
      rw [e, show (day + ((n + 1 : Nat) : Int) - day).toNat = n + 1 by omega]
/-! ### counted days by formula -/
theorem wkTo_succ (d : Int) : wkTo (d + 1) = wkTo d + b1 (isWk (d + 1)) := by
  unfold wkTo mx0 isWk
  by_cases h : 5 ≤ (d + 1) % 7
  · rw [decide_eq_true h]
    show _ = _ + (1 : Int)
    split <;> split <;> omega
  · rw [decide_eq_false h]
    show _ = _ + (0 : Int)
    split <;> split <;> omega
theorem wkTo_mono (d : Int) : ∀ n : Nat, wkTo d ≤ wkTo (d + n)
  | 0 => by simp
  | n + 1 => by
    have ih := wkTo_mono d n
    have : d + ((n + 1 : Nat) : Int) = d + n + 1 := by omega
    rw [this, wkTo_succ]
    cases isWk (d + n + 1) <;> simp only [b1] <;> omega
theorem wkTo_week (d w : Int) : wkTo (d + 7 * w) = wkTo d + 2 * w := by unfold wkTo mx0; split <;> split <;> omega
theorem isWk_week (d w : Int) : isWk (d + 7 * w) = isWk d := by unfold isWk; congr 1; simp only [eq_iff_iff]; omega
theorem hit_iff {ss : List Int} {d : Int} : hit ss d = true ↔ d ∈ ss := by
  unfold hit
  rw [List.any_eq_true]
  constructor
  · rintro ⟨z, h1, h2⟩; rw [eq_of_beq h2] at h1; exact h1
  · intro h; exact ⟨d, h, beq_self_eq_true d⟩
theorem filter_eq_len : ∀ {ss : List Int}, ss.Pairwise (· < ·) → ∀ (d : Int) (b : Bool), ((ss.filter fun s => b && s == d).length : Int) = b1 (b && hit ss d)
  | [], _, d, b => by simp [hit, b1]
  | s :: ss, hp, d, b => by
    have ⟨h1, h2⟩ := List.pairwise_cons.mp hp
    have ih := filter_eq_len h2 d b
    cases b with
    | false => simp [b1]
    | true =>
      simp only [Bool.true_and] at ih ⊢
      rw [List.filter_cons]
      by_cases e : s = d
      · subst e
        have : hit ss s = false := by
          cases hh : hit ss s with
          | false => rfl
          | true => have := h1 s (hit_iff.mp hh); omega
        rw [this] at ih
        have h3 : hit (s :: ss) s = true := hit_iff.mpr List.mem_cons_self
        rw [h3, if_pos (beq_self_eq_true s), List.length_cons]
        simp only [b1] at ih ⊢
        omega
      · have : hit (s :: ss) d = hit ss d := by simp [hit, e]
        rw [this, if_neg (by simpa using e)]
        exact ih
theorem filter_split {p q r : Int → Bool} : ∀ {ss : List Int}, (∀ s, p s = (q s || r s)) → (∀ s, (q s && r s) = false) → (ss.filter p).length = (ss.filter q).length + (ss.filter r).length
  | [], _, _ => rfl
  | s :: ss, h1, h2 => by
    have ih := filter_split (ss := ss) h1 h2
    have a := h1 s
    have b := h2 s
    rw [List.filter_cons, List.filter_cons, List.filter_cons]
    cases hq : q s <;> cases hr : r s <;> rw [hq, hr] at a b <;> simp at a b <;> rw [a] <;> simp [ih] <;> omega
theorem filter_none_len {p : Int → Bool} : ∀ {ss : List Int}, (∀ s ∈ ss, p s = false) → (ss.filter p).length = 0
  | [], _ => rfl
  | s :: ss, h => by
    rw [List.filter_cons, h s List.mem_cons_self]
    exact filter_none_len fun t ht => h t (List.mem_cons_of_mem _ ht)
theorem off_succ (c : Cl) (D : Int) (n : Nat) (s : Int) : c.off D (D + ((n + 1 : Nat) : Int)) s = (c.off D (D + n) s || ((c.s1 && c.cnt true (isWk (D + n + 1)) false) && s == D + n + 1)) := by
  unfold Cl.off
  by_cases e : s = D + n + 1
  · subst e
    rw [decide_eq_true (show D < D + n + 1 by omega), decide_eq_true (show D + (n : Int) + 1 ≤ D + ((n + 1 : Nat) : Int) by omega), decide_eq_false (show ¬ D + (n : Int) + 1 ≤ D + n by omega), beq_self_eq_true]
    simp
  · have e1 : (s == D + n + 1) = false := by rw [beq_eq_false_iff_ne]; exact e
    have e2 : decide (s ≤ D + ((n + 1 : Nat) : Int)) = decide (s ≤ D + n) := by
      congr 1
      simp only [eq_iff_iff]
      omega
    rw [e1, e2]
    simp
theorem cntLate_formula (c : Cl) {ss : List Int} (hp : ss.Pairwise (· < ·)) (D : Int) : ∀ n : Nat, cntLate c ss (D + 1) n = (n : Int) - (match c.e1 with | true => 0 | false => wkTo (D + n) - wkTo D) - ((ss.filter (c.off D (D + n))).length : Int)
  | 0 => by
    have : (ss.filter (c.off D (D + ((0 : Nat) : Int)))).length = 0 := filter_none_len fun s _ => by
      unfold Cl.off
      by_cases h : D < s
      · rw [decide_eq_false (show ¬ s ≤ D + ((0 : Nat) : Int) by omega)]; simp
      · rw [decide_eq_false h]; simp
    rw [this]
    have e : wkTo (D + ((0 : Nat) : Int)) - wkTo D = 0 := by simp
    rw [e]
    cases c.e1 <;> simp [cntLate, daysL]
  | n + 1 => by
    have ih := cntLate_formula c hp D n
    have e : D + 1 + (n : Int) = D + n + 1 := by omega
    have fl : (ss.filter (c.off D (D + ((n + 1 : Nat) : Int)))).length = (ss.filter (c.off D (D + n))).length + (ss.filter fun s => (c.s1 && c.cnt true (isWk (D + n + 1)) false) && s == D + n + 1).length :=
      filter_split (off_succ c D n) fun s => by
        unfold Cl.off
        by_cases e : s = D + n + 1
        · subst e
          rw [decide_eq_false (show ¬ D + (n : Int) + 1 ≤ D + n by omega)]; simp
        · have e1 : (s == D + n + 1) = false := by rw [beq_eq_false_iff_ne]; exact e
          rw [e1]; simp
    have fe := filter_eq_len hp (D + n + 1) (c.s1 && c.cnt true (isWk (D + n + 1)) false)
    rw [cntLate_succ, ih, e, fl]
    have ew : wkTo (D + ((n + 1 : Nat) : Int)) = wkTo (D + n) + b1 (isWk (D + n + 1)) := by
      rw [← wkTo_succ]; congr 1; omega
    rw [ew]
    have key : b1 (c.cnt true (isWk (D + n + 1)) (hit ss (D + n + 1))) = 1 - (match c.e1 with | true => 0 | false => b1 (isWk (D + n + 1))) - b1 ((c.s1 && c.cnt true (isWk (D + n + 1)) false) && hit ss (D + n + 1)) := by
      unfold Cl.cnt
      show b1 ((!isWk (D + n + 1) || c.e1) && !(hit ss (D + n + 1) && c.s1)) = 1 - _ - b1 ((c.s1 && ((!isWk (D + n + 1) || c.e1) && !(false && c.s1))) && hit ss (D + n + 1))
      cases isWk (D + n + 1) <;> cases hit ss (D + n + 1) <;> cases c.e1 <;> cases c.s1 <;> rfl
    rw [key]
    push_cast
    cases c.e1 <;> simp only [] <;> omega
/-- the days that cost: as the law counts them -/
theorem dear_law {c : Cl} (hc : 0 ≤ c.free) {l r f : Int} {ss : List Int} (hp : ss.Pairwise (· < ·)) (hf : c.start l r ≤ f) : dearC c l r f ss = lawDays c l r f ss := by
  unfold dearC lawDays Cl.free0
  rw [dayFold_run c ss _ _ _ _ hc]
  have hr := freeRun_range c ss (f - c.start l r).toNat (c.start l r) c.free
  have ef : c.start l r + ((f - c.start l r).toNat : Int) = f := by omega
  rw [ef] at hr ⊢
  generalize freeRun c ss (f - c.start l r).toNat (c.start l r) c.free = D at hr ⊢
  rw [cntLate_formula c hp D]
  have en : ((f - D).toNat : Int) = f - D := by omega
  have eD : D + ((f - D).toNat : Int) = f := by omega
  rw [eD, en]
  have mono := wkTo_mono D (f - D).toNat
  rw [eD] at mono
  unfold lateC
  have m1 : mx0 (f - D) = f - D := by unfold mx0; split <;> omega
  have m2 : mx0 (wkTo f - wkTo D) = wkTo f - wkTo D := by unfold mx0; split <;> omega
  rw [m1, m2]
  omega
/-! ### the price -/
def prD (n : Int) : D → Option D
  | .tup [.int f, .int p] => (match decide (f ≤ n) with | true => some (.int p) | false => none)
  | _ => none
theorem prD_step (n : Int) (p : Int × Int) : prD n (stepD p) = (match decide (p.1 ≤ n) with | true => some (.int p.2) | false => none) := rfl
theorem price_filter (ps : List (Int × Int)) (n : Int) : (ps.map stepD).filterMap (prD n) = ((ps.filter fun p => decide (p.1 ≤ n)).map fun p => D.int p.2) := by
  induction ps with
  | nil => rfl
  | cons p ps ih =>
    rw [List.map_cons, List.filterMap_cons, List.filter_cons, prD_step, ih]
    cases decide (p.1 ≤ n) <;> rfl
theorem price_fold (ps : List (Int × Int)) (n a : Int) : (ps.filter fun p => decide (p.1 ≤ n)) = [] ∧ ps.foldl (fun a p => if p.1 ≤ n then p.2 else a) a = a ∨ ∃ xs p, (ps.filter fun p => decide (p.1 ≤ n)) = xs ++ [p] ∧ ps.foldl (fun a p => if p.1 ≤ n then p.2 else a) a = p.2 := by
  induction ps generalizing a with
  | nil => exact .inl ⟨rfl, rfl⟩
  | cons q ps ih =>
    rw [List.filter_cons, List.foldl_cons]
    by_cases h : q.1 ≤ n
    · rw [if_pos (decide_eq_true h), if_pos h]
      rcases ih q.2 with ⟨e1, e2⟩ | ⟨xs, p, e1, e2⟩
      · exact .inr ⟨[], q, by rw [e1]; rfl, e2⟩
      · exact .inr ⟨q :: xs, p, by rw [e1]; rfl, e2⟩
    · rw [if_neg (by rw [decide_eq_false h]; simp), if_neg h]
      exact ih a
theorem price_last {c : Cl} (hc : c.Ok) {n : Int} (hn : 1 ≤ n) : ∃ xs, ((c.steps.filter fun p => decide (p.1 ≤ n)).map fun p => D.int p.2) = xs ++ [D.int (priceF c.steps n)] := by
  rcases price_fold c.steps n 0 with ⟨e1, _⟩ | ⟨xs, p, e1, e2⟩
  · exfalso
    have o := hc.one
    cases hs : c.steps with
    | nil => rw [hs] at o; cases o
    | cons q r =>
      rw [hs] at o e1
      have o : some q.1 = some 1 := o
      have : q.1 = 1 := Option.some.inj o
      rw [List.filter_cons, if_pos (decide_eq_true (by omega))] at e1
      cases e1
  · exact ⟨xs.map fun p => D.int p.2, by rw [e1, List.map_append]; unfold priceF; rw [e2]; rfl⟩
theorem price_bound {c : Cl} (hc : c.Ok) (n : Int) : 0 ≤ priceF c.steps n ∧ priceF c.steps n ≤ 5 := by
  rcases price_fold c.steps n 0 with ⟨e1, e2⟩ | ⟨xs, p, e1, e2⟩
  · unfold priceF; rw [e2]; omega
  · have hp : p ∈ c.steps := by
      have : p ∈ c.steps.filter fun p => decide (p.1 ≤ n) := by rw [e1]; simp
      exact (List.mem_filter.mp this).1
    unfold priceF; rw [e2]; exact (hc.step p hp).2
theorem any_ints (ss : List Int) (d : Int) : ((ss.map D.int).any fun z => D.eqv z (.int d)) = hit ss d := by
  unfold hit
  rw [List.any_map]
  congr 1
theorem flat_ints (ss : List Int) : (ss.map D.int).all D.flat = true := by
  rw [List.all_map, List.all_eq_true]
  intro i _
  rfl
theorem fit_land (n : Nat) (b : Bool) : D.fit n (.str (if b then "landing" else "release")) = true := (sp_str n 0 (by cases b <;> decide +kernel)).1
theorem eqv_land (b : Bool) : D.eqv (.str (if b then "landing" else "release")) (.str "landing") = b := by cases b <;> decide +kernel
theorem pw_nodup {ns : List Int} (h : ns.Pairwise (· < ·)) : ns.Nodup := h.imp fun h e => by omega
theorem nodup_len : ∀ {ns is : List Int}, ns.Nodup → (∀ s ∈ ns, s ∈ is) → ns.length ≤ is.length
  | [], _, _, _ => Nat.zero_le _
  | n :: ns, is, h, m => by
    have ⟨h1, h2⟩ := List.nodup_cons.mp h
    have hn := m n List.mem_cons_self
    have : ns.length ≤ (is.erase n).length := nodup_len h2 fun s hs => by
      have := m s (List.mem_cons_of_mem _ hs)
      exact (List.mem_erase_of_ne (fun e => h1 (by rw [← e]; exact hs))).mpr this
    rw [List.length_erase_of_mem hn] at this
    have : 0 < is.length := List.length_pos_of_mem hn
    simp only [List.length_cons]
    omega
end Bx

set_option Elab.async false
set_option linter.all false
set_option maxRecDepth 100000
namespace Bx
open PySem PySem.Spec L2
open PyProof.Rows hiding St
/-! ### the sum of the prices -/
def amtR : List (Int × Int) → Int → Int
  | [], _ => 0
  | [p], n => mx0 (mn n n - p.1 + 1) * p.2
  | p :: q :: r, n => mx0 (mn (q.1 - 1) n - p.1 + 1) * p.2 + amtR (q :: r) n
theorem amtG_R (n : Int) : ∀ (r : List (Int × Int)) (p : Int × Int) (a : Int), ((p :: r).zip ((r.map (·.1)) ++ [n + 1])).foldl (fun a z => a + mx0 (mn (z.2 - 1) n - z.1.1 + 1) * z.1.2) a = a + amtR (p :: r) n
  | [], p, a => by
    show a + mx0 (mn (n + 1 - 1) n - p.1 + 1) * p.2 = _
    rw [show n + 1 - 1 = n by omega]
    rfl
  | q :: r, p, a => by
    have ih := amtG_R n r q (a + mx0 (mn (q.1 - 1) n - p.1 + 1) * p.2)
    show ((q :: r).zip ((r.map (·.1)) ++ [n + 1])).foldl _ (a + mx0 (mn (q.1 - 1) n - p.1 + 1) * p.2) = _
    rw [ih]
    show _ = a + (mx0 (mn (q.1 - 1) n - p.1 + 1) * p.2 + amtR (q :: r) n)
    omega
theorem amt_R {c : Cl} (hc : c.Ok) (n : Int) : amtG (c.steps.zip (c.ends n)) n = amtR c.steps n := by
  unfold amtG Cl.ends
  have h1 := hc.len.1
  cases hs : c.steps with
  | nil => rw [hs] at h1; simp at h1
  | cons p r =>
    have := amtG_R n r p 0
    simp only [Int.zero_add] at this
    exact this
abbrev pfold (m : Int) (a : Int) (ps : List (Int × Int)) : Int := ps.foldl (fun a p => if p.1 ≤ m then p.2 else a) a
theorem pfold_none {m : Int} : ∀ {ps : List (Int × Int)} (a : Int), (∀ p ∈ ps, m < p.1) → pfold m a ps = a
  | [], _, _ => rfl
  | p :: ps, a, h => by
    have := h p List.mem_cons_self
    show pfold m (if p.1 ≤ m then p.2 else a) ps = a
    rw [if_neg (by omega)]
    exact pfold_none a fun q hq => h q (List.mem_cons_of_mem _ hq)
theorem rising_gt {a : Int} {r : List Int} (h : rising (a :: r) = true) : ∀ x ∈ r, a < x := (List.pairwise_cons.mp (rising_pw.mp h)).1
theorem rising_tail {a : Int} {r : List Int} (h : rising (a :: r) = true) : rising r = true := rising_pw.mpr (List.pairwise_cons.mp (rising_pw.mp h)).2
theorem ite_mul (x p : Int) (m f : Int) : mx0 (m - f + 1) * p - mx0 (m - 1 - f + 1) * p = if f ≤ m then p else 0 := by
  by_cases h : f ≤ m
  · rw [if_pos h]
    have e1 : mx0 (m - f + 1) = (m - f) + 1 := by unfold mx0; rw [if_pos (by omega)]
    have e2 : mx0 (m - 1 - f + 1) = m - f := by unfold mx0; split <;> omega
    rw [e1, e2, Int.add_mul, Int.one_mul]
    omega
  · rw [if_neg h]
    have e1 : mx0 (m - f + 1) = 0 := by unfold mx0; rw [if_neg (by omega)]
    have e2 : mx0 (m - 1 - f + 1) = 0 := by unfold mx0; rw [if_neg (by omega)]
    rw [e1, e2]
    simp
theorem amtR_step (m : Int) : ∀ ps : List (Int × Int), rising (ps.map (·.1)) = true → amtR ps m - amtR ps (m - 1) = pfold m 0 ps
  | [], _ => by simp [amtR]
  | [p], _ => by
    have e1 : mn m m = m := by unfold mn; split <;> rfl
    have e2 : mn (m - 1) (m - 1) = m - 1 := by unfold mn; split <;> rfl
    show mx0 (mn m m - p.1 + 1) * p.2 - mx0 (mn (m - 1) (m - 1) - p.1 + 1) * p.2 = if p.1 ≤ m then p.2 else 0
    rw [e1, e2]
    exact ite_mul 0 _ _ _
  | p :: q :: r, h => by
    have ih := amtR_step m (q :: r) (rising_tail h)
    have hg : p.1 < q.1 := rising_gt h _ (by simp)
    have hall : ∀ x ∈ q :: r, q.1 ≤ x.1 := fun x hx => by
      rcases List.mem_cons.mp hx with e | hx
      · subst e; exact Int.le_refl _
      · have z : q.1 < x.1 := rising_gt (rising_tail h) x.1 (List.mem_map.mpr ⟨x, hx, rfl⟩)
        omega
    show (mx0 (mn (q.1 - 1) m - p.1 + 1) * p.2 + amtR (q :: r) m) - (mx0 (mn (q.1 - 1) (m - 1) - p.1 + 1) * p.2 + amtR (q :: r) (m - 1)) = pfold m (if p.1 ≤ m then p.2 else 0) (q :: r)
    by_cases hm : q.1 ≤ m
    · have e1 : mn (q.1 - 1) m = q.1 - 1 := by unfold mn; rw [if_neg (by omega)]
      have e2 : mn (q.1 - 1) (m - 1) = q.1 - 1 := by unfold mn; rw [if_neg (by omega)]
      rw [e1, e2]
      have e3 : pfold m (if p.1 ≤ m then p.2 else 0) (q :: r) = pfold m 0 (q :: r) := by
        show pfold m (if q.1 ≤ m then q.2 else _) r = pfold m (if q.1 ≤ m then q.2 else 0) r
        rw [if_pos hm, if_pos hm]
      rw [e3, ← ih]
      omega
    · have e1 : mn (q.1 - 1) m = m := by unfold mn; split <;> omega
      have e2 : mn (q.1 - 1) (m - 1) = m - 1 := by unfold mn; split <;> omega
      have n1 := pfold_none (m := m) (ps := q :: r) (if p.1 ≤ m then p.2 else 0) fun x hx => by have := hall x hx; omega
      have n2 := pfold_none (m := m) (ps := q :: r) 0 fun x hx => by have := hall x hx; omega
      rw [n1, e1, e2]
      rw [n2] at ih
      have := ite_mul 0 p.2 m p.1
      omega
theorem amtR_zero : ∀ ps : List (Int × Int), (∀ p ∈ ps, 1 ≤ p.1) → amtR ps 0 = 0
  | [], _ => rfl
  | [p], h => by
    have := h p List.mem_cons_self
    show mx0 (mn 0 0 - p.1 + 1) * p.2 = 0
    have e : mx0 (mn 0 0 - p.1 + 1) = 0 := by unfold mx0 mn; rw [if_neg (by simp; omega)]
    rw [e]; simp
  | p :: q :: r, h => by
    have h1 := h p List.mem_cons_self
    have h2 := h q (by simp)
    show mx0 (mn (q.1 - 1) 0 - p.1 + 1) * p.2 + amtR (q :: r) 0 = 0
    have e : mx0 (mn (q.1 - 1) 0 - p.1 + 1) = 0 := by
      have : mn (q.1 - 1) 0 = 0 := by unfold mn; split <;> omega
      rw [this]; unfold mx0; rw [if_neg (by omega)]
    rw [e, amtR_zero (q :: r) fun x hx => h x (List.mem_cons_of_mem _ hx)]; simp
theorem sumF_succ (ps : List (Int × Int)) (n : Nat) : sumF ps (n + 1) = sumF ps n + priceF ps (1 + (n : Nat)) := by
  unfold sumF
  rw [daysL_succ, List.map_append, sum_append]
  simp
theorem amtR_sum {c : Cl} (hc : c.Ok) : ∀ n : Nat, amtR c.steps n = sumF c.steps n
  | 0 => by
    rw [show ((0 : Nat) : Int) = 0 from rfl, amtR_zero c.steps fun p hp => (hc.step p hp).1.1]
    rfl
  | n + 1 => by
    have := amtR_step ((n + 1 : Nat) : Int) c.steps hc.up
    rw [show ((n + 1 : Nat) : Int) - 1 = (n : Int) by omega, amtR_sum hc n] at this
    rw [sumF_succ, show (1 : Int) + (n : Nat) = ((n + 1 : Nat) : Int) by omega]
    have e : priceF c.steps ((n + 1 : Nat) : Int) = pfold ((n + 1 : Nat) : Int) 0 c.steps := rfl
    rw [e]
    omega
/-- what the days cost: as the law sums it up -/
theorem amt_law {c : Cl} (hc : c.Ok) {n : Int} (h : 0 ≤ n) : amtC c n = sumC c n := by
  unfold amtC sumC
  cases c.whole with
  | true =>
    show (match decide (n > 0) with | true => n * priceF c.steps n | false => 0) = n * priceF c.steps n
    by_cases h0 : n > 0
    · rw [decide_eq_true h0]
    · rw [decide_eq_false h0]
      have : n = 0 := by omega
      subst this
      simp
  | false =>
    show amtG (c.steps.zip (c.ends n)) n = sumF c.steps n.toNat
    rw [amt_R hc]
    have := amtR_sum hc n.toNat
    rw [show ((n.toNat : Nat) : Int) = n by omega] at this
    exact this
theorem cntLate_range (c : Cl) (ss : List Int) (lo : Int) : ∀ n : Nat, 0 ≤ cntLate c ss lo n ∧ cntLate c ss lo n ≤ n
  | 0 => by simp [cntLate, daysL]
  | n + 1 => by
    have ih := cntLate_range c ss lo n
    rw [cntLate_succ]
    cases c.cnt true (isWk (lo + (n : Nat))) (hit ss (lo + (n : Nat))) <;> simp only [b1] <;> omega
theorem lawDays_range {c : Cl} (hc : 0 ≤ c.free) (l r f : Int) (ss : List Int) : 0 ≤ lawDays c l r f ss ∧ lawDays c l r f ss ≤ (f - c.start l r).toNat := by
  unfold lawDays
  rw [dayFold_run c ss _ _ _ _ hc]
  have hr := freeRun_range c ss (f - c.start l r).toNat (c.start l r) c.free
  generalize freeRun c ss (f - c.start l r).toNat (c.start l r) c.free = z at hr ⊢
  have := cntLate_range c ss (z + 1) (c.start l r + ((f - c.start l r).toNat : Int) - z).toNat
  omega
theorem cost_law {c : Cl} (hc : c.Ok) {l r f : Int} {ss : List Int} (hp : ss.Pairwise (· < ·)) (hf : c.start l r ≤ f) : costC c l r f ss = lawCost c l r f ss := by
  unfold costC lawCost
  rw [dear_law hc.free.1 hp hf]
  exact amt_law hc (lawDays_range hc.free.1 l r f ss).1
/-! ### far days -/
theorem dayFold_split (c : Cl) (ss : List Int) (st : Int × Int) (lo : Int) (n : Nat) : ∀ m : Nat, dayFold c ss st lo (n + m) = dayFold c ss (dayFold c ss st lo n) (lo + n) m
  | 0 => by simp [dayFold, daysL]
  | m + 1 => by
    have ih := dayFold_split c ss st lo n m
    unfold dayFold at ih ⊢
    rw [← Nat.add_assoc, daysL_succ, List.foldl_append, ih, daysL_succ, List.foldl_append]
    congr 2
    omega
/-- free days go on weekdays without a strike -/
theorem left_low (c : Cl) (ss : List Int) (d0 left g : Int) (h0 : 0 ≤ left) : ∀ n : Nat, (∀ s ∈ ss, ¬ (d0 < s ∧ s ≤ d0 + n)) → 0 ≤ (dayFold c ss (left, g) (d0 + 1) n).1 ∧ ((dayFold c ss (left, g) (d0 + 1) n).1 = 0 ∨ (dayFold c ss (left, g) (d0 + 1) n).1 ≤ left - (n - (wkTo (d0 + n) - wkTo d0)))
  | 0, _ => by
    simp only [dayFold, daysL, List.range_zero, List.map_nil, List.foldl_nil]
    exact ⟨h0, .inr (by rw [show d0 + ((0 : Nat) : Int) = d0 by omega]; omega)⟩
  | n + 1, h => by
    have ih := left_low c ss d0 left g h0 n fun s hs ⟨a, b⟩ => h s hs ⟨a, by omega⟩
    have es : dayFold c ss (left, g) (d0 + 1) (n + 1) = dayStep c ss (dayFold c ss (left, g) (d0 + 1) n) (d0 + 1 + (n : Nat)) := by
      unfold dayFold
      rw [daysL_succ, List.foldl_append]; rfl
    have ew : wkTo (d0 + ((n + 1 : Nat) : Int)) = wkTo (d0 + n) + b1 (isWk (d0 + 1 + (n : Nat))) := by
      rw [show d0 + ((n + 1 : Nat) : Int) = d0 + n + 1 by omega, wkTo_succ]
      congr 3
      omega
    have nh : hit ss (d0 + 1 + (n : Nat)) = false := by
      cases e : hit ss (d0 + 1 + (n : Nat)) with
      | false => rfl
      | true => exact absurd ⟨by omega, by omega⟩ (h _ (hit_iff.mp e))
    rw [es]
    generalize dayFold c ss (left, g) (d0 + 1) n = s at ih ⊢
    rw [ew]
    unfold dayStep
    rw [nh]
    by_cases z : s.1 = 0
    · rw [show (s.1 == 0) = true from by rw [z]; rfl]
      cases c.cnt true (isWk (d0 + 1 + (n : Nat))) false <;> exact ⟨ih.1, .inl z⟩
    · rw [show (s.1 == 0) = false from by rw [beq_eq_false_iff_ne]; exact z]
      cases hw : isWk (d0 + 1 + (n : Nat)) with
      | true =>
        cases c.cnt false true false with
        | true =>
          show 0 ≤ s.1 - 1 ∧ (s.1 - 1 = 0 ∨ s.1 - 1 ≤ _)
          simp only [b1]
          omega
        | false =>
          show 0 ≤ s.1 ∧ (s.1 = 0 ∨ s.1 ≤ _)
          simp only [b1]
          omega
      | false =>
        have : c.cnt false false false = true := rfl
        rw [this]
        show 0 ≤ s.1 - 1 ∧ (s.1 - 1 = 0 ∨ s.1 - 1 ≤ _)
        simp only [b1]
        omega
/-- the days of a week that count -/
def wk7 (b : Bool) : Int := match b with | true => 7 | false => 5
/-- a month behind the landing and the last strike no free day is left -/
theorem far_days {c : Cl} (hc : c.Ok) {l r N : Int} {ss : List Int} (hp : ss.Pairwise (· < ·)) (hN : c.start l r + 30 ≤ N) (hs : ∀ s ∈ ss, s + 30 ≤ N) {w : Int} (hw : 0 ≤ w) :
    lawDays c l r (N + 7 * w) ss = lawDays c l r N ss + w * wk7 c.e1 := by
  unfold lawDays
  generalize c.start l r = st at hN ⊢
  have e1 : (N + 7 * w - st).toNat = (N - st).toNat + (7 * w).toNat := by omega
  have e2 : (N - st).toNat = (N - 30 - st).toNat + 30 := by omega
  rw [e1, dayFold_split]
  have hleft : (dayFold c ss (c.free, 0) (st + 1) (N - st).toNat).1 = 0 := by
    rw [e2, dayFold_split]
    have lim : 0 ≤ (dayFold c ss (c.free, 0) (st + 1) (N - 30 - st).toNat).1 ∧ (dayFold c ss (c.free, 0) (st + 1) (N - 30 - st).toNat).1 ≤ 6 := left_range c ss _ _ hc.free.1 hc.free.2 _
    generalize dayFold c ss (c.free, 0) (st + 1) (N - 30 - st).toNat = s at lim ⊢
    obtain ⟨s1, s2⟩ := s
    have := left_low c ss (N - 30) s1 s2 lim.1 30 fun s h ⟨a, b⟩ => by have := hs s h; omega
    have e3 : st + 1 + ((N - 30 - st).toNat : Int) = N - 30 + 1 := by omega
    rw [e3]
    have e4 : wkTo (N - 30 + ((30 : Nat) : Int)) - wkTo (N - 30) ≤ 10 := by
      unfold wkTo mx0
      split <;> split <;> omega
    have lim2 : s1 ≤ 6 := lim.2
    omega
  generalize hS : dayFold c ss (c.free, 0) (st + 1) (N - st).toNat = s at hleft ⊢
  obtain ⟨s1, s2⟩ := s
  have hleft : s1 = 0 := hleft
  subst hleft
  rw [dayFold_late]
  show s2 + _ = s2 + _
  have e5 : st + 1 + ((N - st).toNat : Int) = N + 1 := by omega
  rw [e5, cntLate_formula c hp N]
  have e6 : ((7 * w).toNat : Int) = 7 * w := by omega
  have e7 : (ss.filter (c.off N (N + ((7 * w).toNat : Int)))).length = 0 := filter_none_len fun s h => by
    unfold Cl.off
    have := hs s h
    rw [decide_eq_false (show ¬ N < s by omega)]; simp
  rw [e7, e6, wkTo_week]
  cases c.e1 <;> simp only [wk7] <;> omega
where
  left_range (c : Cl) (ss : List Int) (left lo : Int) (h0 : 0 ≤ left) (h6 : left ≤ 6) : ∀ n : Nat, 0 ≤ (dayFold c ss (left, 0) lo n).1 ∧ (dayFold c ss (left, 0) lo n).1 ≤ 6
    | 0 => ⟨h0, h6⟩
    | n + 1 => by
      have ih := left_range c ss left lo h0 h6 n
      have es : dayFold c ss (left, 0) lo (n + 1) = dayStep c ss (dayFold c ss (left, 0) lo n) (lo + (n : Nat)) := by
        unfold dayFold
        rw [daysL_succ, List.foldl_append]; rfl
      rw [es]
      generalize dayFold c ss (left, 0) lo n = s at ih ⊢
      unfold dayStep
      by_cases z : s.1 = 0
      · rw [show (s.1 == 0) = true from by rw [z]; rfl]
        cases c.cnt true (isWk (lo + (n : Nat))) (hit ss (lo + (n : Nat))) <;> exact ih
      · rw [show (s.1 == 0) = false from by rw [beq_eq_false_iff_ne]; exact z]
        cases c.cnt false (isWk (lo + (n : Nat))) (hit ss (lo + (n : Nat))) with
        | false => exact ih
        | true => exact ⟨by show 0 ≤ s.1 - 1; omega, by show s.1 - 1 ≤ 6; omega⟩
/-! ### all moved by whole weeks -/
theorem hit_week (ss : List Int) (d w : Int) : hit (ss.map fun s => s + 7 * w) (d + 7 * w) = hit ss d := by
  unfold hit
  rw [List.any_map]
  congr 1
  funext s
  show (s + 7 * w == d + 7 * w) = (s == d)
  by_cases h : s = d
  · subst h; simp
  · rw [beq_eq_false_iff_ne.mpr h, beq_eq_false_iff_ne.mpr (by omega)]
theorem freeRun_week (c : Cl) (ss : List Int) (w : Int) : ∀ (n : Nat) (day left : Int), freeRun c (ss.map fun s => s + 7 * w) n (day + 7 * w) left = freeRun c ss n day left + 7 * w
  | 0, _, _ => rfl
  | n + 1, day, left => by
    show (match decide (left > 0) with | true => freeRun c (ss.map fun s => s + 7 * w) n (day + 7 * w + 1) (left - b1 (c.cnt false (isWk (day + 7 * w + 1)) (hit (ss.map fun s => s + 7 * w) (day + 7 * w + 1)))) | false => day + 7 * w) = (match decide (left > 0) with | true => freeRun c ss n (day + 1) (left - b1 (c.cnt false (isWk (day + 1)) (hit ss (day + 1)))) | false => day) + 7 * w
    rw [show day + 7 * w + 1 = day + 1 + 7 * w by omega, isWk_week, hit_week]
    cases decide (left > 0) with
    | true => exact freeRun_week c ss w n (day + 1) _
    | false => rfl
theorem off_week (c : Cl) (z f w : Int) (s : Int) : c.off (z + 7 * w) (f + 7 * w) (s + 7 * w) = c.off z f s := by
  unfold Cl.off
  rw [isWk_week]
  congr 2
  congr 1
  · congr 1; simp only [eq_iff_iff]; omega
  · congr 1; simp only [eq_iff_iff]; omega
theorem dear_week (c : Cl) (l r f w : Int) (ss : List Int) : dearC c (l + 7 * w) (r + 7 * w) (f + 7 * w) (ss.map fun s => s + 7 * w) = dearC c l r f ss := by
  unfold dearC Cl.free0
  have e1 : c.start (l + 7 * w) (r + 7 * w) = c.start l r + 7 * w := by unfold Cl.start; cases c.land <;> rfl
  rw [e1, show f + 7 * w - (c.start l r + 7 * w) = f - c.start l r by omega, freeRun_week]
  generalize freeRun c ss (f - c.start l r).toNat (c.start l r) c.free = z
  unfold lateC
  have e2 : ((ss.map fun s => s + 7 * w).filter (c.off (z + 7 * w) (f + 7 * w))).length = (ss.filter (c.off z f)).length := by
    rw [List.filter_map, List.length_map]
    congr 2
    funext s
    exact off_week c z f w s
  rw [e2, wkTo_week, wkTo_week, show f + 7 * w - (z + 7 * w) = f - z by omega]
  have e3 : wkTo f + 2 * w - (wkTo z + 2 * w) = wkTo f - wkTo z := by omega
  rw [e3]
/-! ### the last price -/
theorem price_end {c : Cl} (hc : c.Ok) {n : Int} (hn : 6 ≤ n) {xs : List (Int × Int)} {p : Int × Int} (e : c.steps = xs ++ [p]) : priceF c.steps n = p.2 := by
  have hp := hc.step p (by rw [e]; simp)
  unfold priceF
  rw [e, List.foldl_append]
  show (if p.1 ≤ n then p.2 else _) = p.2
  rw [if_pos (by omega)]
theorem sumF_end {c : Cl} (hc : c.Ok) {xs : List (Int × Int)} {p : Int × Int} (e : c.steps = xs ++ [p]) : ∀ n : Nat, sumF c.steps (6 + n) = sumF c.steps 6 + n * p.2
  | 0 => by simp
  | n + 1 => by
    rw [← Nat.add_assoc, sumF_succ, sumF_end hc e n, price_end hc (by omega) e]
    have : ((n + 1 : Nat) : Int) * p.2 = n * p.2 + p.2 := by push_cast; rw [Int.add_mul, Int.one_mul]
    omega
theorem amt_end {c : Cl} (hc : c.Ok) {xs : List (Int × Int)} {p : Int × Int} (e : c.steps = xs ++ [p]) {n : Int} (hn : 6 ≤ n) : amtC c n = n * p.2 + (match c.whole with | true => 0 | false => sumC c 6 - 6 * p.2) := by
  rw [amt_law hc (by omega)]
  unfold sumC
  cases c.whole with
  | true => show n * priceF c.steps n = n * p.2 + 0; rw [price_end hc hn e]; omega
  | false =>
    show sumF c.steps n.toNat = n * p.2 + (sumF c.steps (6 : Int).toNat - 6 * p.2)
    have := sumF_end hc e (n.toNat - 6)
    rw [show 6 + (n.toNat - 6) = n.toNat by omega] at this
    rw [this, show ((n.toNat - 6 : Nat) : Int) = n - 6 by omega, Int.sub_mul]
    show sumF c.steps 6 + (n * p.2 - 6 * p.2) = n * p.2 + (sumF c.steps 6 - 6 * p.2)
    omega
end Bx

set_option Elab.async false
set_option linter.all false
set_option maxRecDepth 100000
set_option maxHeartbeats 4000000
namespace Bx
open PySem PySem.Spec L2 HotX
open PyProof.Rows hiding St
/-! ### ends of walks while an exception is handled -/
section
variable {prog : Program} {w : World} {A : Around} {E : Value → Shared → Prop} {s : Shared}
theorem hot_ne_iter {x1 it l : Addr} {k : Nat} {h : Heap} (hot : HotAt A x1 h) {o : Obj} (ho : h.get? it = some o) (hd : o.data = .fields #[.ref l, .int k 0]) : x1 ≠ it := by
  obtain ⟨_, o1, vs1, h1, d1, c1⟩ := hot
  intro z
  subst z
  rw [h1] at ho
  cases ho
  rw [d1] at hd
  cases hd
  simp at c1
theorem lnext_end_hot {it l x1 : Addr} {i : Nat} {items : Array Value} {Q : Value → Shared → Prop} (hot : HotAt A x1 s.heap) (hit : s.heap.IsListIter it l i) (hl : s.heap.IsList l items) (hx : items[i]? = none)
    (hE : ∀ h' e, Heap.ExtBut it s.heap h' → (∃ o, h'.get? e = some o ∧ o.cls = .type "StopIteration") → E (.ref e) { s with heap := h' }) : wpAny (model prog w) A (Builtin.SmallTypes.nextOf (.ref it)) Q E s := by
  obtain ⟨o, ho, hc, hd⟩ := id hit
  have hne := hot_ne_iter hot ho hd
  obtain ⟨hh, o1, vs1, h1, d1, c1⟩ := hot
  obtain ⟨ol, hol, _, nl, hdl⟩ := hl
  unfold Builtin.SmallTypes.nextOf
  refine wpAny_bind (wpAny_callSpecial?_slot (name := Str.ofString "__next__") hit.typeIs slot_listiter_next
    (wpAny_call_entry slot_listiter_next hit.typeIs entry_listiter_next ?_ (args_listiter_next _)))
  show wpAny _ _ (field (.ref it) 0 >>= _) _ _ s
  refine wpAny_bind (wpAny_field ho hd (x := .ref l) rfl ?_)
  show wpAny _ _ (if (Value.ref l == Value.none) = true then _ else _) _ _ s
  rw [if_neg (show ¬ ((Value.ref l == Value.none) = true) from Bool.false_ne_true)]
  show wpAny _ _ (field (.ref it) 1 >>= _) _ _ s
  refine wpAny_bind (wpAny_field ho hd (x := .int i 0) rfl ?_)
  show wpAny _ _ (seqItems? (.ref l) >>= _) _ _ s
  refine wpAny_bind (wpAny_seqItems hol hdl ?_)
  simp only [Int.toNat_natCast, hx]
  refine wpAny_bind (wpAny_rule (wpAny_bind (wpAny_setField ho hd (by simp) ?_)))
  show wpAny _ _ (newExc (.type "StopIteration") [] >>= _) _ _ _
  refine wpAny_bind ?_
  simp only [newExc, newTuple]
  refine wpAny_bind (wpAny_newObj_type ?_ (by size_fits))
  refine wpAny_bind (m := firstArgMember _ _) (wpAny_of_eq (a := Value.none) (by first | rfl | (simp only [firstArgMember]; rfl)) ?_)
  refine wpAny_newObj_type ?_ (by size_fits)
  have h1' := Heap.get?_update_other s.heap (Obj.mapFields (·.setIfInBounds 0 Value.none)) (Ne.symm hne)
  rw [h1] at h1'
  refine raiseNew_hot ⟨hh, o1, vs1, Heap.get?_push_of_some _ (Heap.get?_push_of_some _ h1'), d1, c1⟩ (Nat.ne_of_lt (Heap.lt_size (Heap.get?_push_of_some _ h1'))) (Heap.get?_push_size _ rfl) rfl (by first | (simp; done) | (simp; omega) | (simp only [Array.size_append]; simp; omega)) ?_
  refine hE _ _ (fun b ob hb e => ?_) ⟨_, Heap.get?_update_self _ (Heap.get?_push_size _ rfl) rfl, rfl⟩
  have e1 := (Heap.get?_update_other s.heap (Obj.mapFields (·.setIfInBounds 0 Value.none)) (Ne.symm hb)).trans e
  rw [Heap.get?_update_other _ _ (Nat.ne_of_gt (Heap.lt_size (Heap.get?_push_of_some _ e1)))]
  exact Heap.get?_push_of_some _ (Heap.get?_push_of_some _ e1)
theorem _root_.HotX.HotAt.ext {a x1 : Addr} {h h' : Heap} (k : HotAt A x1 h) (e : Heap.ExtBut a h h') (n : x1 ≠ a) : HotAt A x1 h' := by
  obtain ⟨hh, o1, vs1, h1, d1, c1⟩ := k
  exact ⟨hh, o1, vs1, e _ _ n h1, d1, c1⟩
theorem zip_end_hot {x1 z TI TO i1 i2 l1 l2 : Addr} {k1 k2 : Nat} {xs ys : Array Value} {a b : Value} {Q : Fin → Shared → Prop} (hot : HotAt A x1 s.heap) (D : ZipApart z TI TO i1 i2 l1 l2)
    (hz : IsZip s.heap z TI TO .none) (hTI : IsPair s.heap TI (.ref i1) (.ref i2)) (hTO : IsPair s.heap TO a b)
    (h1 : Kit false s.heap i1 l1 k1) (h2 : Kit false s.heap i2 l2 k2) (hl1 : Ksq false s.heap l1 xs) (hl2 : Ksq false s.heap l2 ys) (hend : xs[k1]? = none ∨ ys[k2]? = none)
    (hE : ∀ h' e, (∀ c o, c ≠ z → c ≠ TO → c ≠ i1 → c ≠ i2 → s.heap.get? c = some o → h'.get? c = some o) → (∃ o, h'.get? e = some o ∧ o.cls = .type "StopIteration") → E (.ref e) { s with heap := h' }) :
    wpAny (model prog w) A (Builtin.«zip.__next__» ⟨[.ref z], []⟩) Q E s := by
  have nz : x1 ≠ z := fun e => by
    obtain ⟨_, o1, vs1, h1, d1, c1⟩ := hot
    rw [e] at h1
    rw [hz] at h1
    cases h1
    cases d1
    simp at c1
  have nTO : x1 ≠ TO := fun e => by
    obtain ⟨_, o1, vs1, h1, d1, c1⟩ := hot
    rw [e] at h1
    rw [hTO] at h1
    cases h1
    cases d1
  have n1 : x1 ≠ i1 := by
    obtain ⟨o, e, d⟩ := h1.obj
    exact hot_ne_iter hot e d
  have n2 : x1 ≠ i2 := by
    obtain ⟨o, e, d⟩ := h2.obj
    exact hot_ne_iter hot e d
  show wpAny _ _ (field (.ref z) 2 >>= _) _ _ _
  refine wpAny_bind (wpAny_field hz rfl (x := .bool false) rfl ?_)
  show wpAny _ _ (field (.ref z) 3 >>= _) _ _ _
  refine wpAny_bind (wpAny_field hz rfl (x := .ref TI) rfl (wpAny_bind (wpAny_seqItems hTI rfl ?_)))
  show wpAny _ _ (Builtin.SmallTypes.ownedTupleIsFree (.ref z) >>= _) _ _ _
  refine wpAny_bind ?_
  unfold Builtin.SmallTypes.ownedTupleIsFree
  refine wpAny_bind (wpAny_field hz rfl (x := .none) rfl (wpAny_pure ?_))
  simp only [if_true]
  refine wpAny_bind (wpAny_rule (wpAny_bind (wpAny_field hz rfl (x := .ref TO) rfl (wpAny_bind (wpAny_setField_rec hz (by simp) fun g1 z1 s1 => ?_)))))
  replace z1 : IsZip g1 z TI TO .ellipsis := z1
  refine wpAny_bind ?_
  simp only [List.zipIdx_cons, List.zipIdx_nil, List.forIn_cons, List.forIn_nil]
  refine wpAny_bind (wpAny_bind (wpAny_onRaise ?_))
  show wpAny _ _ (Builtin.SmallTypes.nextOf (.ref i1) >>= _) _ _ _
  cases hx : xs[k1]? with
  | none =>
    refine wpAny_bind (lnext_end_hot (hot.ext s1.extBut nz) (h1.ext s1.extBut D.i1z) (hl1.ext s1.extBut D.l1z) hx fun g2 e s2 he => ?_)
    obtain ⟨oe, hoe, hce⟩ := he
    have z2 : IsZip g2 z TI TO .ellipsis := s2 _ _ D.i1z.symm z1
    have hez : e ≠ z := fun x => by subst x; rw [z2] at hoe; cases hoe; simp at hce
    refine wpAny_setField_rec z2 (by simp) fun g3 _ s3 => hE g3 e (fun c o c1 _ c3 _ x => s3.extBut _ _ c1 (s2 _ _ c3 (s1.extBut _ _ c1 x))) ⟨oe, s3.extBut _ _ hez hoe, hce⟩
  | some x =>
    have hy : ys[k2]? = none := by
      rcases hend with h | h
      · rw [hx] at h; cases h
      · exact h
    refine wpAny_bind (knext_item (h1.ext s1.extBut D.i1z) (hl1.ext s1.extBut D.l1z) hx fun g2 h12 s2 => wpAny_pure ?_)
    have p2 : IsPair g2 TO a b := s2.extBut _ _ D.TOi1 (s1.extBut _ _ D.TOz hTO)
    refine wpAny_bind (wpAny_seqItems p2 rfl (wpAny_bind (wpAny_updateSeq_pair p2 fun g3 p3 s3 => ?_)))
    refine wpAny_bind (wpAny_letGo (wpAny_pure (wpAny_bind (wpAny_bind (wpAny_onRaise ?_)))))
    show wpAny _ _ (Builtin.SmallTypes.nextOf (.ref i2) >>= _) _ _ _
    refine wpAny_bind (lnext_end_hot (((hot.ext s1.extBut nz).ext s2.extBut n1).ext s3.extBut nTO) (((h2.ext s1.extBut D.i2z).ext s2.extBut D.i12.symm).ext s3.extBut D.TOi2.symm) (((hl2.ext s1.extBut D.l2z).ext s2.extBut D.l2i1).ext s3.extBut D.l2TO) hy fun g4 e s4 he => ?_)
    obtain ⟨oe, hoe, hce⟩ := he
    have z4 : IsZip g4 z TI TO .ellipsis := s4 _ _ D.i2z.symm (s3.extBut _ _ D.TOz.symm (s2.extBut _ _ D.i1z.symm z1))
    have hez : e ≠ z := fun x => by subst x; rw [z4] at hoe; cases hoe; simp at hce
    refine wpAny_setField_rec z4 (by simp) fun g5 _ s5 => hE g5 e (fun c o c1 c2 c3 c4 x => s5.extBut _ _ c1 (s4 _ _ c4 (s3.extBut _ _ c2 (s2.extBut _ _ c3 (s1.extBut _ _ c1 x))))) ⟨oe, s5.extBut _ _ hez hoe, hce⟩
theorem zip_pyNext_end_hot {x1 z TI TO i1 i2 l1 l2 : Addr} {k1 k2 : Nat} {xs ys : Array Value} {a b : Value} {Q : Option Value → Shared → Prop} (hot : HotAt A x1 s.heap) (D : ZipApart z TI TO i1 i2 l1 l2)
    (hz : IsZip s.heap z TI TO .none) (hTI : IsPair s.heap TI (.ref i1) (.ref i2)) (hTO : IsPair s.heap TO a b)
    (h1 : Kit false s.heap i1 l1 k1) (h2 : Kit false s.heap i2 l2 k2) (hl1 : Ksq false s.heap l1 xs) (hl2 : Ksq false s.heap l2 ys) (hend : xs[k1]? = none ∨ ys[k2]? = none)
    (hQ : ∀ h', (∀ c o, c ≠ z → c ≠ TO → c ≠ i1 → c ≠ i2 → s.heap.get? c = some o → h'.get? c = some o) → Q none { s with heap := h' }) : wpAny (model prog w) A (pyNext (.ref z)) Q E s := by
  have hT : s.TypeIs (.ref z) "zip" := ⟨_, hz, rfl⟩
  unfold pyNext
  refine wpAny_bind (wpAny_attempt (wpAny_callSpecial?_slot (name := Str.ofString "__next__") hT F.slot_zip_next
    (wpAny_call_entry F.slot_zip_next hT F.entry_zip_next (zip_end_hot hot D hz hTI hTO h1 h2 hl1 hl2 hend fun h' e hk he => ?_) (F.args_zip_next_1 _))))
  obtain ⟨o, ho, hc⟩ := he
  exact wpAny_bind (wpAny_isInstance (T := "StopIteration") (b := true) ⟨o, ho, hc⟩ isSubtype_stop (wpAny_pure (hQ _ hk)))
end
/-- a walk whose end raises under a handled exception -/
structure TurnZ (P : Program) (w : World) (K : PySem.W.Frag) (tg : Expr) (J : It) (fp : List Addr) (it : Addr) (tn : Nat → Heap → Prop) : Prop where
  mem : it ∈ fp
  obj : ∀ i h, tn i h → ∀ b ∈ fp, ∃ o, h.get? b = some o ∧ ∀ v, o.data ≠ .cell v
  keep : ∀ i h h', tn i h → (∀ b ∈ fp, ∀ o, h.get? b = some o → h'.get? b = some o) → tn i h'
  item : ∀ (X : Cx), X.prog = P → X.w = w → X.K = K → ∀ (i : Nat) (pins : List (Addr × Obj)) (s : Shared) (σ : L2.St) (H : Hp) (E : Value → Shared → Prop), Inv X pins σ H s → (∀ b ∈ fp, FpOk X pins H b) → tn i s.heap → J.go i H →
    wpAny (model P w) X.A (pyNext (.ref it)) (fun r s1 => ∃ u, r = some u ∧
      wpAny (model P w) X.A (letOwnedTupleGo tg (.ref it) u) (fun _ s2 => ∃ x H', Inv X pins σ H' s2 ∧ RelV x u ∧ J.yld i H x H' ∧ tn (i + 1) s2.heap ∧ ∀ b ∈ fp, H' b = none) E s1) E s
  done : ∀ (X : Cx), X.prog = P → X.w = w → X.K = K → ∀ (i : Nat) (pins : List (Addr × Obj)) (s : Shared) (σ : L2.St) (H : Hp) (E : Value → Shared → Prop), (∃ x1, HotAt X.A x1 s.heap) → Inv X pins σ H s → (∀ b ∈ fp, FpOk X pins H b) → tn i s.heap → J.stop i H →
    wpAny (model P w) X.A (pyNext (.ref it)) (fun r s1 => r = none ∧ Inv X pins σ H s1) E s
  self : ∀ (A : Around) (i : Nat) (s : Shared) (Q : Value → Shared → Prop) (E : Value → Shared → Prop), tn i s.heap → Q (.ref it) s → wpAny (model P w) A (pyIter (.ref it)) Q E s
theorem turn_zipH {P : Program} {w : World} {K : PySem.W.Frag} {elts : List Expr} {kk : Nat} {tpos : Pos} {a b z TI TO i1 i2 : Addr} (D : ZipApart z TI TO i1 i2 a b) :
    TurnZ P w K (.Tuple elts kk tpos) (Itz K a b) [z, TI, TO, i1, i2] z (fun i h => IsZip h z TI TO .none ∧ IsPair h TI (.ref i1) (.ref i2) ∧ (∃ x y, IsPair h TO x y) ∧ Kit false h i1 a i ∧ Kit false h i2 b i) where
  mem := by simp
  obj := fun i h st c hc => by
    obtain ⟨hz, hTI, ⟨x, y, hTO⟩, h1, h2⟩ := st
    obtain ⟨o1, e1, d1⟩ := h1.obj
    obtain ⟨o2, e2, d2⟩ := h2.obj
    rcases five hc with q | q | q | q | q <;> subst q
    · exact ⟨_, hz, fun v q => nomatch q⟩
    · exact ⟨_, hTI, fun v q => nomatch q⟩
    · exact ⟨_, hTO, fun v q => nomatch q⟩
    · exact ⟨o1, e1, fun v q => by rw [d1] at q; cases q⟩
    · exact ⟨o2, e2, fun v q => by rw [d2] at q; cases q⟩
  keep := fun i h h' st k => by
    obtain ⟨hz, hTI, ⟨x, y, hTO⟩, h1, h2⟩ := st
    exact ⟨k z (by simp) _ hz, k TI (by simp) _ hTI, ⟨x, y, k TO (by simp) _ hTO⟩, h1.at fun o q => k i1 (by simp) o q, h2.at fun o q => k i2 (by simp) o q⟩
  item := by
    intro X hP hw hK i pins s σ H E I hf st hg
    subst hP hw hK
    obtain ⟨hz, hTI, ⟨x0, y0, hTO⟩, h1, h2⟩ := st
    obtain ⟨xs, ys, x, y, hqx, hqy, hx, hy⟩ := hg
    obtain ⟨its, rv, p, _⟩ := I.list hqx
    obtain ⟨its2, rv2, p2, _⟩ := I.list hqy
    obtain ⟨u, hu, ru⟩ := rv.get hx
    obtain ⟨u2, hu2, ru2⟩ := rv2.get hy
    have hzl : z < s.heap.objs.size := Heap.lt_size hz
    have out : ∀ c : Addr, c ∉ [z, TI, TO, i1, i2] → c ≠ z ∧ c ≠ TO ∧ c ≠ i1 ∧ c ≠ i2 := fun c h => ⟨fun q => h (by simp [q]), fun q => h (by simp [q]), fun q => h (by simp [q]), fun q => h (by simp [q])⟩
    refine kzip_pyNext_item D hz hTI hTO h1 h2 p.isList p2.isList (x := u) (y := u2) (by simpa using hu) (by simpa using hu2) fun h' z' TO' h1' h2' hT hsz hk => ?_
    refine ⟨_, rfl, wpAny_letOwnedTupleGo_zip (s := { s with heap := h' }) z' fun h'' z'' sb => ?_⟩
    have hT2 : h''.get? s.heap.objs.size = some { cls := .type "tuple", data := .seq #[u, u2] } := (sb.2 _ (Nat.ne_of_gt hzl)).trans hT
    have new : ObjOk X.prog X.w (upd H s.heap.objs.size (.tup [x, y])) h'' s.heap.objs.size (.tup [x, y]) :=
      ⟨by show 2 ≤ sizeLine; decide, [u, u2], .cons ru (.cons ru2 .nil), ⟨_, hT2, rfl, _, rfl⟩⟩
    have I1 : Inv X pins σ (upd H s.heap.objs.size (.tup [x, y])) { s with heap := h'' } :=
      I.turnedNew (t' := s.toks) (ch := [z, TI, TO, i1, i2]) (fun c o hb q => (sb.2 c (out c hb).1).trans (hk c o (out c hb).1 (out c hb).2.1 (out c hb).2.2.1 (out c hb).2.2.2 q)) hf (Nat.le_refl _) new
    obtain ⟨_, l1, _⟩ := h1.obj
    obtain ⟨_, l2, _⟩ := h2.obj
    refine ⟨.ref s.heap.objs.size, _, I1, rfl, ⟨_, x, y, rfl, I.hok.fresh (Nat.le_refl _), rfl, fun l hl => by rw [I.list_inj hl hqx]; exact hx, fun l hl => by rw [I.list_inj hl hqy]; exact hy⟩, ⟨z'', ?_, ⟨u, u2, ?_⟩, ?_, ?_⟩, fun c hcm => ?_⟩
    · exact (sb.2 _ D.TIz).trans (hk _ _ D.TIz D.TITO D.TIi1 D.TIi2 hTI)
    · exact (sb.2 _ D.TOz).trans TO'
    · exact h1'.at fun o q => (sb.2 _ D.i1z).trans q
    · exact h2'.at fun o q => (sb.2 _ D.i2z).trans q
    · have hlt : c < s.heap.objs.size := by
        rcases five hcm with q | q | q | q | q <;> subst q
        · exact hzl
        · exact Heap.lt_size hTI
        · exact Heap.lt_size hTO
        · exact Heap.lt_size l1
        · exact Heap.lt_size l2
      rw [upd_ne (Nat.ne_of_lt hlt)]
      exact (hf c hcm).1
  done := by
    intro X hP hw hK i pins s σ H E ⟨x1, hot⟩ I hf st hg
    subst hP hw hK
    obtain ⟨hz, hTI, ⟨x0, y0, hTO⟩, h1, h2⟩ := st
    obtain ⟨xs, ys, hqx, hqy, hend⟩ := hg
    obtain ⟨its, rv, p, _⟩ := I.list hqx
    obtain ⟨its2, rv2, p2, _⟩ := I.list hqy
    have l1 := rv.length
    have l2 := rv2.length
    have he : its.toArray[i]? = none ∨ its2.toArray[i]? = none := by
      rcases hend with q | q
      · exact .inl (by simp; omega)
      · exact .inr (by simp; omega)
    have out : ∀ c : Addr, c ∉ [z, TI, TO, i1, i2] → c ≠ z ∧ c ≠ TO ∧ c ≠ i1 ∧ c ≠ i2 := fun c h => ⟨fun q => h (by simp [q]), fun q => h (by simp [q]), fun q => h (by simp [q]), fun q => h (by simp [q])⟩
    exact zip_pyNext_end_hot hot D hz hTI hTO h1 h2 p.isList p2.isList he fun h' hk => ⟨rfl, I.turnedL (t' := s.toks) (ch := [z, TI, TO, i1, i2]) (fun c o hb q =>
      hk c o (out c hb).1 (out c hb).2.1 (out c hb).2.2.1 (out c hb).2.2.2 q) hf⟩
  self := fun A i s Q E st h => wpAny_pyIter_zip st.1 h
end Bx

set_option Elab.async false
set_option linter.all false
set_option maxRecDepth 100000
set_option maxHeartbeats 4000000
namespace Bx
open PySem PySem.Spec L2 HotX
open PyProof.Rows hiding St
def PIEZ (X : Cx) (pins : List (Addr × Obj)) (σ : L2.St) (tg : Expr) (R : It → Hp → Prop) (itv : Value) (s2 : Shared) : Prop :=
  ∃ (it : Addr) (fp : List Addr) (tn : Nat → Heap → Prop) (J : It) (H' : Hp), itv = .ref it ∧ Inv X pins σ H' s2 ∧ TurnZ X.prog X.w X.K tg J fp it tn ∧ tn 0 s2.heap ∧ (∀ b ∈ fp, FpOk X pins H' b) ∧ R J H'
structure PIZ (X : Cx) (tg iter : Expr) (wi : TI) : Prop where
  run : ∀ (pins : List (Addr × Obj)) (s : Shared) (σ : L2.St) (H : Hp) (R : It → Hp → Prop), Inv X pins σ H s → wi σ H R →
    wpAny (model X.prog X.w) X.A (eval iter X.env) (fun v s1 => wpAny (model X.prog X.w) X.A (pyIter v) (PIEZ X pins σ tg R) X.xe s1) X.xe s
theorem lcz_core {X : Cx} {pins : List (Addr × Obj)} {s : Shared} {σ : L2.St} {H : Hp} {Q : VK} {elt tg iter : Expr} {ifs : List Expr} {scope : Scope} {own : List (Str × Nat)} {pos pos' : Pos} {wi : TI} {g : TG} {tt : TT} {te : TE} {use : Option (Value → Sem Unit)} {Qf : Value → Shared → Prop}
    (hc : ∃ p : Addr × Obj, p ∈ X.pn ∧ X.A.handled = some (.ref p.1) ∧ ∃ vs : Array Value, p.2.data = .fields vs ∧ vs[2]? = some .none) (hN : X.N.Nodup) (I : Inv X pins σ H s) (hi : PIZ X tg iter wi) (ok : BlkOk X.N X.env.scope scope own)
    (hg : ∀ (s : Shared) (H : Hp) (C : Addr) (cl : List (Str × Addr)) (fp : List Addr), (∀ (pins' : List (Addr × Obj)) (s' : Shared) (σ' : L2.St) (H' : Hp), Inv (X.blk s H scope (compEnvC scope cl C X.env) fp) pins' σ' H' s' → ∃ x1, HotAt X.A x1 s'.heap) → PG (X.blk s H scope (compEnvC scope cl C X.env) fp) tg g) (ht : ∀ (s : Shared) (H : Hp) (C : Addr) (cl : List (Str × Addr)) (fp : List Addr), PTs (X.blk s H scope (compEnvC scope cl C X.env) fp) ifs tt)
    (he : ∀ (s : Shared) (H : Hp) (C : Addr) (cl : List (Str × Addr)) (fp : List Addr), PE (X.blk s H scope (compEnvC scope cl C X.env) fp) elt te) (hs : ∀ x, foldedSetIterable iter X.env x = pure x)
    (h : tLc wi g tt te (own.map (·.2)) σ H Q)
    (hRR : ∀ D C s' m H', Inv X pins σ H' s' → Q (.ref D) H' → s'.heap.Ns C m → FpOk X pins H' C → compPost (model X.prog X.w) X.A X.xe use Qf (.ref D) C (.ok .next) s') :
    wpAny (model X.prog X.w) X.A (comprehension (.ListComp elt [⟨tg, iter, ifs, 0⟩] scope pos) scope X.env pos' (newList []) false (eval iter X.env) use) Qf X.xe s := by
  have hfree : ∀ y ∈ scope.names, y.2 = .free → ∃ c, X.env.cells.lookup y.1 = some c := fun y hy e => by
    rcases ok.free y hy e with k | k
    · exact I.ok.has _ (.inl k)
    · exact I.ok.has _ (.inr k)
  refine wpAny_comprehension_free (use := use) rfl hs (closure_ok hfree) ok.kind (fun y hy e => by rw [ok.uniq y hy, e])
    (thn (hi.run pins s σ H _ I h) fun xv s1 hx => thn hx fun itv s2 h2 => ?_)
  obtain ⟨it, fp, tn, J, H2, e, I2, T, st2, f2, q⟩ := h2
  subst e
  refine wpAny_newObj_type (newEnv_comp ?_) (by show 0 ≤ sizeLine; decide)
  generalize hD : s2.heap.objs.size = D
  have hDn : H2 D = none := I2.hok.fresh (Nat.le_of_eq hD)
  obtain ⟨W, ⟨m0, w0⟩, turn⟩ := q D hDn
  -- the new list
  generalize hs3 : ({ s2 with heap := s2.heap.push { cls := .type "list", data := .seq ([] : List Value).toArray } } : Shared) = s3
  have I3 : Inv X pins σ (upd H2 D (.lst [])) s3 := by
    rw [← hs3]
    refine I2.laid (t' := s2.toks) (fun b o e => Heap.get?_push_of_some _ e) (Nat.le_of_eq hD) ⟨Nat.zero_le _, [], 0, .nil, ?_⟩
    rw [← hD]
    exact Heap.get?_push_size _ rfl
  have h3 : s3.heap = s2.heap.push { cls := .type "list", data := .seq ([] : List Value).toArray } := by rw [← hs3]
  have sz : ∀ b ∈ fp, b < s2.heap.objs.size := fun b hb => by
    obtain ⟨o, e, _⟩ := T.obj _ _ st2 b hb
    exact Heap.lt_size e
  have f3 : ∀ b ∈ fp, FpOk X pins (upd H2 D (.lst [])) b ∧ b < s3.heap.objs.size := fun b hb => by
    have hlt := sz b hb
    refine ⟨⟨?_, (f2 b hb).2⟩, by rw [h3, Heap.size_push]; exact Nat.lt_succ_of_lt hlt⟩
    rw [upd_ne (by rw [← hD]; exact Nat.ne_of_lt hlt)]
    exact (f2 b hb).1
  have st3 : tn 0 s3.heap := T.keep _ _ _ st2 fun b _ o e => by rw [h3]; exact Heap.get?_push_of_some _ e
  have I4 := block_start I3 ok hN f3
  have hotB : ∀ (pins' : List (Addr × Obj)) (s' : Shared) (σ' : L2.St) (H' : Hp), Inv (X.blk s3 (upd H2 D (.lst [])) scope (compEnvC scope (cellsFrom (s3.heap.objs.size + 1) scope.names (cloFrom X.env.cells scope.names [])) s3.heap.objs.size X.env) fp) pins' σ' H' s' → ∃ x1, HotAt X.A x1 s'.heap := fun pins' s' σ' H' I' => by
    obtain ⟨p, hp, hh, vs, d1, c1⟩ := hc
    obtain ⟨g1, g2, g3, g4, g5⟩ := I3.pin p (List.mem_append_left _ hp)
    refine ⟨p.1, hh, p.2, vs, I'.base.keep p.1 p.2 g1 g2 (fun z => ?_) (fun z => ?_), d1, c1⟩
    · rcases List.mem_cons.mp (I3.stkSub _ z) with e | e
      · exact g3 e
      · exact g4 e
    · exact (f3 p.1 z).1.2.2.2.2.2 p (List.mem_append_left _ hp) rfl
  have pg := hg s3 (upd H2 D (.lst [])) s3.heap.objs.size (cellsFrom (s3.heap.objs.size + 1) scope.names (cloFrom X.env.cells scope.names [])) fp hotB
  have pt := ht s3 (upd H2 D (.lst [])) s3.heap.objs.size (cellsFrom (s3.heap.objs.size + 1) scope.names (cloFrom X.env.cells scope.names [])) fp
  have pe := he s3 (upd H2 D (.lst [])) s3.heap.objs.size (cellsFrom (s3.heap.objs.size + 1) scope.names (cloFrom X.env.cells scope.names [])) fp
  show codeAny _ _ (.compStart (.ListComp elt [⟨tg, iter, ifs, 0⟩] scope pos) 0 (.ref it) (.ref D) (compEnvC scope (cellsFrom (s3.heap.objs.size + 1) scope.names (cloFrom X.env.cells scope.names [])) s3.heap.objs.size X.env)) (compPost (model X.prog X.w) X.A X.xe use Qf (.ref D) s3.heap.objs.size) { s3 with heap := pushCells (s3.heap.push { cls := .type "dict", data := .dict #[] }) scope.names }
  have nfp : ∀ b ∈ fp, (upd H2 D (.lst [])) b = none := fun b hb => (f3 b hb).1.1
  generalize hce : compEnvC scope (cellsFrom (s3.heap.objs.size + 1) scope.names (cloFrom X.env.cells scope.names [])) s3.heap.objs.size X.env = ce at I4 pg pt pe hotB ⊢
  have cL : ce.locals = s3.heap.objs.size := by subst hce; rfl
  generalize hH3 : upd H2 D (.lst []) = H3 at I3 I4 pg pt pe w0 nfp f3 hotB
  generalize hs4 : ({ s3 with heap := pushCells (s3.heap.push { cls := .type "dict", data := .dict #[] }) scope.names } : Shared) = s4 at I4 ⊢
  have st4 : tn 0 s4.heap := T.keep _ _ _ st3 fun b _ o e => by rw [← hs4]; exact pushCells_keeps _ _ _ _ (Heap.get?_push_of_some _ e)
  have stat : ∀ {σ' : St} {H' : Hp} {s' : Shared}, Inv (X.blk s3 H3 scope ce fp) [] σ' H' s' → (∀ b ∈ fp, H' b = none) → ∀ b ∈ fp, FpOk (X.blk s3 H3 scope ce fp) [] H' b := fun {σ' H' s'} I' hn b hb =>
    ⟨hn b hb, (I'.ok.exf b hb).1, I'.ok.exfs b hb, .inl hb, fun x c e => (I'.ok.exf b hb).2 x c e, fun p hp => absurd (show p ∈ ([] : List (Addr × Obj)) ++ [] from hp) (by simp)⟩
  have loop : codeAny (model X.prog X.w) X.A (.compLoop (.ListComp elt [⟨tg, iter, ifs, 0⟩] scope pos) 0 (.ref it) (.ref D) ce) (compPost (model X.prog X.w) X.A X.xe use Qf (.ref D) s3.heap.objs.size) s4 := by
    refine compLoop_any (fun n s' => ∃ i H', Inv (X.blk s3 H3 scope ce fp) [] (wipe σ (own.map (·.2))) H' s' ∧ tn i s'.heap ∧ (∀ b ∈ fp, H' b = none) ∧ W i n H') ?_ m0 ⟨0, H3, I4, st4, nfp, w0⟩
    rintro n s5 ⟨i, H5, I5, st5, n5, w5⟩
    rcases turn i n H5 w5 with ⟨stop, qq⟩ | ⟨go, Nx, hNx, step⟩
    · have td := T.done (X.blk s3 H3 scope ce fp) rfl rfl rfl i [] s5 _ H5 (fun _ _ => False) (hotB _ _ _ _ I5) I5 (stat I5 n5) st5 stop
      refine thnF td fun r s6 ⟨hr, I6⟩ => ?_
      subst hr
      -- back in the def's context
      have I7 : Inv X pins σ H5 s6 := I3.call' (ch := fp) I6.os I6.base I6.hok I6.bare fun b hb => ⟨(f3 b hb).1.2.2.2.1, (f3 b hb).1.2.1, (f3 b hb).1.2.2.2.2.1, (f3 b hb).1.2.2.2.2.2⟩
      have nC : H5 s3.heap.objs.size = none := by
        have z : H5 ce.locals = none := I6.free
        rw [cL] at z
        exact z
      obtain ⟨m, hn, _⟩ := I6.loc
      have hn : s6.heap.Ns ce.locals m := hn
      rw [cL] at hn
      exact hRR D s3.heap.objs.size s6 m H5 I7 qq hn (I3.fpOk (Nat.le_refl _) nC)
    · have ti := T.item (X.blk s3 H3 scope ce fp) rfl rfl rfl i [] s5 _ H5 (fun _ _ => False) I5 (stat I5 n5) st5 go
      refine thnF ti fun r s6 ⟨u, hr, h6⟩ => ?_
      subst hr
      refine thnF h6 fun _ s7 ⟨x, H7, I7, r7, y7, st7, n7⟩ => ?_
      have I7' := I7.pinned (stat I7 n7) (T.obj _ _ st7)
      refine thnF (pg.run _ s7 _ H7 x u _ I7' r7 (step x H7 y7)) fun _ s8 ⟨σ8, H8, I8, hw8, q8⟩ => ?_
      refine thnF (pt.run _ s8 σ8 H8 _ I8 q8) fun b s9 ⟨H9, I9, q9⟩ => ?_
      -- the turn's end
      have fin : ∀ {s' : Shared} {H' : Hp}, Inv (X.blk s3 H3 scope ce fp) ([] ++ pinsAt fp s7.heap) σ8 H' s' → Nx H' → ∃ m, m < n ∧ ∃ i H', Inv (X.blk s3 H3 scope ce fp) [] (wipe σ (own.map (·.2))) H' s' ∧ tn i s'.heap ∧ (∀ b ∈ fp, H' b = none) ∧ W i m H' := fun {s' H'} I' nx => by
        obtain ⟨m', hm, w'⟩ := hNx H' nx
        have pin' : ∀ b ∈ fp, ∀ o, s7.heap.get? b = some o → s'.heap.get? b = some o ∧ H' b = none := fun b hb o e =>
          let z := I'.pin (b, o) (List.mem_append_right _ (List.mem_append_right _ (mem_pinsAt hb e)))
          ⟨z.1, z.2.1⟩
        have hl : (wipe σ (own.map (·.2))).length = σ8.length := by rw [← hw8, wipe_length]
        refine ⟨m', hm, i + 1, H', (I'.unpinned (pins := [])).weak hl (fun j v e => ?_), T.keep _ _ _ st7 fun b hb o e => (pin' b hb o e).1, fun b hb => ?_, w'⟩
        · rw [← hw8] at e
          exact (wipe_some e).1
        · obtain ⟨o, e, _⟩ := T.obj _ _ st7 b hb
          exact (pin' b hb o e).2
      cases b with
      | false =>
        simp only [Bool.false_eq_true, if_false] at q9 ⊢
        exact fin I9 q9
      | true =>
        simp only [if_true] at q9 ⊢
        refine thnF (pe.run _ s9 σ8 H9 _ I9 q9) fun z s10 ⟨yv, H10, I10, r10, acc, hD10, hz10, nx⟩ => ?_
        exact app_ok (X := X.blk s3 H3 scope ce fp) I10 hD10 hz10 r10 fun s11 I11 => fin I11 nx
  exact codeAny_compStart_list loop (T.self X.A 0 _ _ _ st4 loop)
end Bx

set_option Elab.async false
set_option linter.all false
set_option maxRecDepth 100000
set_option maxHeartbeats 4000000
namespace Bx
open PySem PySem.Spec L2 HotX
open PyProof.Rows hiding St
/-! ### a tuple unpacked while an exception is handled -/
section
variable {prog : Program} {w : World} {A : Around} {E : Value → Shared → Prop} {s : Shared}
theorem tnext_end_hot {it t x1 : Addr} {i : Nat} {items : Array Value} {Q : Option Value → Shared → Prop} (hot : HotAt A x1 s.heap) (hit : IsTupIter s.heap it t i) (ht : IsTup s.heap t items) (hx : items[i]? = none)
    (hQ : ∀ h', Heap.ExtBut it s.heap h' → Q none { s with heap := h' }) : wpAny (model prog w) A (pyNext (.ref it)) Q E s := by
  obtain ⟨o, ho, hc, hd⟩ := id hit
  have hne := hot_ne_iter hot ho hd
  obtain ⟨hh, o1, vs1, h1, d1, c1⟩ := hot
  obtain ⟨ol, hol, _, nl, hdl⟩ := ht
  unfold pyNext
  refine wpAny_bind (wpAny_attempt (wpAny_callSpecial?_slot (name := Str.ofString "__next__") hit.typeIs slot_tupleiter_next
    (wpAny_call_entry slot_tupleiter_next hit.typeIs entry_tupleiter_next ?_ (args_tupleiter_next _))))
  show wpAny _ _ (field (.ref it) 0 >>= _) _ _ s
  refine wpAny_bind (wpAny_field ho hd (x := .ref t) rfl ?_)
  show wpAny _ _ (if (Value.ref t == Value.none) = true then _ else _) _ _ s
  rw [if_neg (show ¬ ((Value.ref t == Value.none) = true) from Bool.false_ne_true)]
  show wpAny _ _ (field (.ref it) 1 >>= _) _ _ s
  refine wpAny_bind (wpAny_field ho hd (x := .int i 0) rfl ?_)
  show wpAny _ _ (seqItems? (.ref t) >>= _) _ _ s
  refine wpAny_bind (wpAny_seqItems hol hdl ?_)
  simp only [Int.toNat_natCast, hx]
  refine wpAny_bind (wpAny_rule (wpAny_bind (wpAny_setField ho hd (by simp) ?_)))
  show wpAny _ _ (newExc (.type "StopIteration") [] >>= _) _ _ _
  refine wpAny_bind ?_
  simp only [newExc, newTuple]
  refine wpAny_bind (wpAny_newObj_type ?_ (by size_fits))
  refine wpAny_bind (m := firstArgMember _ _) (wpAny_of_eq (a := Value.none) (by first | rfl | (simp only [firstArgMember]; rfl)) ?_)
  refine wpAny_newObj_type ?_ (by size_fits)
  have h1' := Heap.get?_update_other s.heap (Obj.mapFields (·.setIfInBounds 0 Value.none)) (Ne.symm hne)
  rw [h1] at h1'
  refine raiseNew_hot ⟨hh, o1, vs1, Heap.get?_push_of_some _ (Heap.get?_push_of_some _ h1'), d1, c1⟩ (Nat.ne_of_lt (Heap.lt_size (Heap.get?_push_of_some _ h1'))) (Heap.get?_push_size _ rfl) rfl (by first | (simp; done) | (simp; omega) | (simp only [Array.size_append]; simp; omega)) ?_
  refine wpAny_bind (wpAny_isInstance (T := "StopIteration") (b := true) ⟨_, Heap.get?_update_self _ (Heap.get?_push_size _ rfl) rfl, rfl⟩ isSubtype_stop ?_)
  refine wpAny_pure (hQ _ fun b ob hb e => ?_)
  have e1 := (Heap.get?_update_other s.heap (Obj.mapFields (·.setIfInBounds 0 Value.none)) (Ne.symm hb)).trans e
  rw [Heap.get?_update_other _ _ (Nat.ne_of_gt (Heap.lt_size (Heap.get?_push_of_some _ e1)))]
  exact Heap.get?_push_of_some _ (Heap.get?_push_of_some _ e1)
theorem unpackItems_hot {t x1 : Addr} {items : Array Value} {Q : List Value → Shared → Prop} (hot : HotAt A x1 s.heap) (ht : IsTup s.heap t items)
    (hQ : ∀ h', Heap.ExtBut s.heap.objs.size s.heap h' → Q items.toList { s with heap := h' }) : wpAny (model prog w) A (unpackItems (.ref t) items.size none) Q E s := by
  have hlt : t ≠ s.heap.objs.size := by obtain ⟨o, ho, _⟩ := ht; exact Nat.ne_of_lt (Heap.lt_size ho)
  have nx : x1 ≠ s.heap.objs.size := by obtain ⟨_, o, _, ho, _⟩ := hot; exact Nat.ne_of_lt (Heap.lt_size ho)
  obtain ⟨hh, o1, vs1, g1, d1, c1⟩ := hot
  unfold unpackItems notIterableAtAll
  refine wpAny_bind (wpAny_bind (wpAny_specialOf ht.typeIs slot_tuple_iter.lookup (wpAny_pure ?_)))
  simp only [Bool.false_eq_true, if_false]
  refine wpAny_bind (wpAny_holding (iter_tuple ht (wpAny_bind (wpAny_holding (draw_tuple hlt items.size 0 _ _ ⟨_, Heap.get?_push_size _ rfl, rfl, rfl⟩ (ht.push _) (by omega) fun g it1 s1 => ?_)))))
  have hall : List.take items.size (List.drop 0 items.toList) = items.toList := by rw [List.drop_zero]; exact List.take_of_length_le (by simp)
  rw [hall, if_neg (by simp)]
  refine wpAny_bind (wpAny_holding (tnext_end_hot ⟨hh, o1, vs1, s1.extBut x1 o1 nx (Heap.get?_push_of_some _ g1), d1, c1⟩ it1 ((ht.push _).extBut s1.extBut hlt) (by simp) fun g2 e2 => ?_))
  simp only [Option.isSome_none, Bool.false_eq_true, if_false]
  exact wpAny_pure (hQ g2 fun b o hb e => e2 b o hb (s1.extBut b o hb (Heap.get?_push_of_some _ e)))
theorem assign_tuple_hot {env : Env} {elts : List Expr} {x0 x1} {pos : Pos} {t : Addr} {items : Array Value} {Q : Unit → Shared → Prop} (hot : HotAt A x1 s.heap) (ht : IsTup s.heap t items)
    (hn : (assignEach elts env).length = items.size) (hstar : (assignEach elts env).findIdx? (·.1) = none)
    (h : ∀ h', Heap.ExtBut s.heap.objs.size s.heap h' → wpAny (model prog w) A (assignInOrder ((assignEach elts env).map (·.2)) items.toList) Q E { s with heap := h' }) :
    wpAny (model prog w) A (assign (.Tuple elts x0 pos) env (.ref t)) Q E s := by
  rw [assign_Tuple]
  refine wpAny_bind (wpAny_standAt ?_)
  unfold unpack
  rw [hn, hstar]
  exact wpAny_bind (wpAny_holding (unpackItems_hot hot ht h))
end
section
variable {X : Cx} {pos : Pos}
/-- (a, b, ..) = v, an exception being handled -/
theorem pg_tupH {es : List Expr} {k : Nat} {t : TGs} {n : Nat} (hot : ∀ (pins : List (Addr × Obj)) (s : Shared) (σ : L2.St) (H : Hp), Inv X pins σ H s → ∃ x1, HotAt X.A x1 s.heap) (h : PGs X es t)
    (hn : (assignEach es X.env).length = n := by rfl) (hst : (assignEach es X.env).findIdx? (·.1) = none := by rfl) : PG X (.Tuple es k pos) (gTup X.K n t) := by
  refine ⟨fun pins s σ H v u Q I r ⟨a, xs, e1, hq, hl, hw⟩ => ?_⟩
  subst e1
  cases r
  obtain ⟨its, rv, ht, hz⟩ := I.tuple hq
  obtain ⟨x1, hx⟩ := hot pins s σ H I
  refine assign_tuple_hot hx ht (by simp [hn, ← hl, rv.length]) hst fun h' hx => ?_
  have I1 : Inv X pins σ H { s with heap := h' } := I.kept (t' := s.toks) fun b o e => hx b o (Nat.ne_of_lt (Heap.lt_size e)) e
  exact h.run pins _ σ H xs _ Q I1 (by simpa using rv) hw
theorem pi_zipZ {e e2 : Expr} {ta : TA} {p pos tpos : Pos} {elts : List Expr} {kk : Nat} (hg : Gl X "zip") (hm : X.mg "zip" = none) (ha : PA X [e, e2] ta)
    (hs : starEach [e, e2] X.env = (false, eval e X.env) :: starEach [e2] X.env := by rfl) (hpl : (backTo pos (starEach [e2] X.env)).any (·.1) = false := by rfl) :
    PIZ X (.Tuple elts kk tpos) (.Call (.Name "zip" p) [e, e2] [] pos) (iZip X.K ta) := by
  refine ⟨fun pins s σ H R I h => ?_⟩
  refine Call_ (ld_blt I hg hm PyProof.Rows.boot_zip (PyProof.Rows.callWith_type1 (thn (ha.run pos pins s σ H _ I h) fun us s1 ⟨vs, H1, I1, r1, q1⟩ => ?_) hs hpl))
  obtain ⟨a, b, xs, ys, ex, hqx, hqy, q⟩ := q1
  subst ex
  cases r1 with
  | cons r rr =>
    cases rr with
    | cons r' rr =>
      cases rr
      cases r
      cases r'
      obtain ⟨its, rv, p1, _⟩ := I1.list hqx
      obtain ⟨its2, rv2, p2, _⟩ := I1.list hqy
      have la : a < s1.heap.objs.size := p1.lt
      have lb : b < s1.heap.objs.size := p2.lt
      refine call_zip_2 p1.isList p2.isList fun h' hz hTI hTO h1 h2 hsz hk => wpAny_pyIter_zip hz ?_
      have I2 : Inv X pins σ H1 { s1 with heap := h' } := I1.kept (t' := s1.toks) hk
      refine ⟨s1.heap.objs.size + 4, [s1.heap.objs.size + 4, s1.heap.objs.size + 2, s1.heap.objs.size + 3, s1.heap.objs.size, s1.heap.objs.size + 1], _, _, H1, rfl, I2, turn_zipH (PySem.W.ktu_apart s1.heap.objs.size a b la lb), ⟨hz, hTI, ⟨_, _, hTO⟩, h1, h2⟩, fun c hcm => ?_, q⟩
      have e' : c = s1.heap.objs.size + 4 ∨ c = s1.heap.objs.size + 2 ∨ c = s1.heap.objs.size + 3 ∨ c = s1.heap.objs.size ∨ c = s1.heap.objs.size + 1 := by simpa using hcm
      have hle : s1.heap.objs.size ≤ c := by
        rcases e' with z | z | z | z | z
        · rw [z]; exact Nat.le_add_right _ _
        · rw [z]; exact Nat.le_add_right _ _
        · rw [z]; exact Nat.le_add_right _ _
        · rw [z]; exact Nat.le_refl _
        · rw [z]; exact Nat.le_add_right _ _
      exact I1.fpOk hle (I1.hok.fresh hle)
theorem pe_lcz {elt tg iter : Expr} {ifs : List Expr} {scope : Scope} {own : List (Str × Nat)} {wi : TI} {g : TG} {tt : TT} {te : TE} (hc : ∃ p : Addr × Obj, p ∈ X.pn ∧ X.A.handled = some (.ref p.1) ∧ ∃ vs : Array Value, p.2.data = .fields vs ∧ vs[2]? = some .none) (hN : X.N.Nodup) (hi : PIZ X tg iter wi) (ok : BlkOk X.N X.env.scope scope own)
    (hg : ∀ (s : Shared) (H : Hp) (C : Addr) (cl : List (Str × Addr)) (fp : List Addr), (∀ (pins' : List (Addr × Obj)) (s' : Shared) (σ' : L2.St) (H' : Hp), Inv (X.blk s H scope (compEnvC scope cl C X.env) fp) pins' σ' H' s' → ∃ x1, HotAt X.A x1 s'.heap) → PG (X.blk s H scope (compEnvC scope cl C X.env) fp) tg g)
    (ht : ∀ (s : Shared) (H : Hp) (C : Addr) (cl : List (Str × Addr)) (fp : List Addr), PTs (X.blk s H scope (compEnvC scope cl C X.env) fp) ifs tt)
    (he : ∀ (s : Shared) (H : Hp) (C : Addr) (cl : List (Str × Addr)) (fp : List Addr), PE (X.blk s H scope (compEnvC scope cl C X.env) fp) elt te) (hs : ∀ x, foldedSetIterable iter X.env x = pure x := by intro _; rfl) :
    PE X (.ListComp elt [⟨tg, iter, ifs, 0⟩] scope pos) (tLc wi g tt te (own.map (·.2))) := by
  refine ⟨fun pins s σ H Q I h => ?_⟩
  rw [eval_ListComp]
  refine lcz_core hc hN I hi ok hg ht he hs h fun D C s' m H' I' q hn f => ⟨m, hn, fun h'' sb => ?_⟩
  obtain ⟨f0, f1, f2, f3, f4, f5⟩ := f
  exact ⟨.ref D, H', I'.turned (t' := s'.toks) (fun b o hb e => (sb.2 b hb).trans e) f0 f1 f3 f4 f5, rfl, q⟩
end
end Bx

set_option Elab.async false
set_option linter.all false
set_option maxRecDepth 100000
set_option maxHeartbeats 4000000
namespace Bx
open PySem PySem.Spec L2 HotX L2H
open PyProof.Rows hiding St
/-! ### a def handed the exception that is being handled -/
/-- e: an exception of the own class at D, in the air no more -/
structure FnE (P : Program) (w : World) (K : PySem.W.Frag) (mg : Str → Option Value) (base : Heap) (CX : CXT) (k : Nat) (f : Addr) (fd : FuncData) (ps : List Str) (D : Addr) (sp : Hp → VK → XK → Prop) : Prop where
  one : ps.length = 1
  run : ∀ (A : Around) (outer : List Env) (s : Shared) (H : Hp) (Q : VK) (E : XK) (p : Addr × Obj), RoomH k A → Hot1 A p → PinOk outer H s p → Zc (.ref D) none p.2 → Env0 P w K mg base A outer s H → BindsTo s fd ⟨[.ref p.1], []⟩ (ps.zip [.ref p.1]) → sp H Q E →
    codeAny (model P w) A (.call (.ref f) ⟨[.ref p.1], []⟩) (CR CX outer P w H s Q E) s
theorem fnE_of {CX : CXT} {P : Program} {w : World} {K : PySem.W.Frag} {mg : Str → Option Value} {base : Heap} {k : Nat} {f D : Addr} {name qual : Str} {params : Arguments} {body : List Stmt} {scope : Scope} {dV kV doc pm cdv ct oc : Value} {an od : Option Addr}
    {osl : Array (Option Value)} {N ps : List Str} {sp : Hp → VK → XK → Prop} (lk : K.lookup f = some ⟨oc, od, .func (PySem.W.fnOf name qual params body scope dV kV doc pm an cdv ct), osl⟩) (hcd : PySem.W.codeIn K cdv qual = true) (S : FnScope N ps scope) (one : ps.length = 1)
    (hbody : ∀ (A : Around) (outer : List Env) (s : Shared) (H : Hp) (Q : VK) (E : XK) (p : Addr × Obj), Hot1 A p → Zc (.ref D) none p.2 → RoomH k (A.deeper (envOfC qual scope s.heap.objs.size f cdv)) → sp H Q E →
      ∃ t, PSs (cxH CX P w K mg base N qual scope f cdv A outer s H E p) body t ∧ t { nx := fun _ H' => Q .non H', rt := Q } (L2.start N [.ref p.1]) H) :
    FnE P w K mg base CX (k + 1) f (PySem.W.fnOf name qual params body scope dV kV doc pm an cdv ct) ps D sp := by
  refine ⟨one, fun A outer s H Q E p hr hot hpin hz e0 hb hsp => ?_⟩
  have KX : K.In s.heap := e0.mod.kin.keeps fun b o e => (e0.bs b o e).1
  have lim : s.heap.NoLimit := e0.mod.nolimit.keeps fun b o e => (e0.bs b o e).1
  have hkind : ∀ y ∈ ps.zip [Value.ref p.1], scope.names.lookup y.1 = some .local ∨ (scope.names.lookup y.1 = some .cell ∧ ((cellsFrom (s.heap.objs.size + 1) scope.names []).lookup y.1).isSome = true) := fun ⟨n, v⟩ hy => by
    rcases S.par n (List.of_mem_zip hy).1 with q | q
    · exact .inl q
    · exact .inr ⟨q, PySem.W.cellsFrom_some _ _ _ (.inl q)⟩
  refine codeAny_call_function hr.depth (KX _ _ lk) rfl S.co S.gen rfl (PySem.W.codeRec_of KX hcd) (hb _ _ _ _ ?_)
  refine wpAny_newFunctionEnv_cells S.kind hkind fun env he s1 x => ?_
  subst he
  refine ⟨lim.keeps x.toInCall.keep, codeAny_func ?_⟩
  obtain ⟨t, ht, hq⟩ := hbody A outer s H Q E p hot hz (hr.deeper _) hsp
  have I : Inv (cxH CX P w K mg base N qual scope f cdv A outer s H E p) [] (L2.start N [.ref p.1]) H s1 := inv_startH S hpin e0 (by rw [one]; rfl) (.cons rfl .nil) x
  refine wpAny_mono (ht.run [] s1 (L2.start N [.ref p.1]) H _ I hq) (fun fl s' hs => ?_) fun e s' hs => hs
  have fin : ∀ {σ' : L2.St} {H' : Hp} {v : V} {u : Value}, Inv (cxH CX P w K mg base N qual scope f cdv A outer s H E p) [] σ' H' s' → RelV v u → Q v H' → CE outer P w H s Q u s' :=
    fun {σ' H' v u} J rv q => ⟨v, H', J.os, J.bare, J.base, J.hok, rv, q⟩
  cases fl with
  | ret u => obtain ⟨v, σ', H', J, rv, q⟩ := hs; exact fin J rv q
  | next => obtain ⟨σ', H', J, q⟩ := hs; exact fin (v := V.non) (u := Value.none) J rfl q
  | brk => obtain ⟨_, _, _, q⟩ := hs; exact False.elim q
  | cont => obtain ⟨_, _, _, q⟩ := hs; exact False.elim q
/-- isinstance(e, c), e the exception that the context bears -/
theorem call_isP {X : Cx} {D : Addr} {p : Addr × Obj} (C : ExcC X.K D) (hz : Zc (.ref D) none p.2) (hf : ∃ vs, p.2.data = .fields vs) (hp : p ∈ X.pn) : CallR X (.builtin "isinstance") (rIsE X.K D p.1) := by
  intro pins s σ H xs us Q I r h
  obtain ⟨c, cv, b, rfl, hcv, e, q⟩ := h
  cases r with
  | cons rx rr =>
    cases rr with
    | cons rt rr =>
      cases rr
      cases rx
      have ec := hcv _ rt
      subst ec
      obtain ⟨hget, _⟩ := I.pin p (List.mem_append_left _ hp)
      obtain ⟨vs, hv⟩ := hf
      have J : PySem.W.InstAt s.heap p.1 p.2 D none := by
        obtain ⟨a, oc, od, oda, osl⟩ := p
        obtain ⟨h1, h2⟩ := hz
        dsimp only at h1 h2 hv
        subst h1 h2 hv
        exact ⟨hget, rfl, rfl, trivial⟩
      exact PySem.W.kia_one (PySem.W.handS_kitx_exc C.hg C.hk C.hs C.hd C.ha C.hn C.ht C.hm) I.kIn J e (fun z => nomatch z) fun tk => ⟨.bl b, H, I.kept (t' := tk) fun _ _ z => z, rfl, q⟩
/-- the call of such a def in the suite -/
theorem run_fnE {X : Cx} {CX : CXT} {k : Nat} {f D : Addr} {fd : FuncData} {ps : List Str} {sp : Hp → VK → XK → Prop} {E : L2.St → XK} {pins : List (Addr × Obj)} {σ : L2.St} {H : Hp} {s : Shared} {Q : VK} {p : Addr × Obj} (F : FnE X.prog X.w X.K X.mg X.base CX k f fd ps D sp) (hr : RoomH k X.A)
    (hot : Hot1 X.A p) (hz : Zc (.ref D) none p.2) (hp : p ∈ X.pn) (hb : Binds X.K fd ps []) (hx : PassesAt CX X σ (E σ)) (I : Inv X pins σ H s) (h : sp H Q (E σ)) : wpAny (model X.prog X.w) X.A (call (.ref f) [.ref p.1]) (EP X pins σ Q) X.xe s := by
  have b := hb s [.ref p.1] I.kIn (by rw [List.append_nil, F.one]; rfl)
  rw [List.append_nil] at b
  have P1 := I.pin p (List.mem_append_left _ hp)
  have hpin : PinOk X.stack H s p := ⟨P1.1, P1.2.1, fun hm => (List.mem_cons.mp (I.stkSub p.1 hm)).elim P1.2.2.1 P1.2.2.2.1, P1.2.2.2.2⟩
  refine wpAny_call (codeAny_mono (F.run X.A X.stack s H Q (E σ) p hr hot hpin hz I.env0 b h) fun r s' hq => ?_)
  cases r with
  | error e => exact hx pins H s e s' I hq
  | ok fl =>
    cases fl with
    | ret u => exact I.after hq
    | next => exact False.elim hq
    | brk => exact False.elim hq
    | cont => exact False.elim hq
end Bx

set_option Elab.async false
set_option linter.all false
set_option maxRecDepth 100000
set_option maxHeartbeats 4000000
namespace Bx
open PySem PySem.Spec L2
open PyProof.Rows hiding St
/-! ### a.split(b), a.join(list of texts) -/
def strsD : List D → Option (List Str)
  | [] => some []
  | .str x :: ds => (match strsD ds with | some xs => some (x :: xs) | none => none)
  | _ :: _ => none
theorem strsD_map : ∀ xs : List Str, strsD (xs.map D.str) = some xs
  | [] => rfl
  | x :: xs => by show (match strsD (xs.map D.str) with | some xs => some (x :: xs) | none => none) = _; rw [strsD_map xs]
theorem strsD_rep {K : PySem.W.Frag} {B : Addr → Prop} {H : Hp} : ∀ {vs : List V} {ds : List D} {xs : List Str}, RepAll K B H vs ds → strsD ds = some xs → vs = xs.map V.str
  | _, [], _, h, e => by cases h; cases e; rfl
  | _, .str x :: ds, xs, h, e => by
    cases h with
    | cons h1 h2 =>
      have e : (match strsD ds with | some xs => some (x :: xs) | none => none) = some xs := e
      cases hd : strsD ds with
      | none => rw [hd] at e; cases e
      | some js => rw [hd] at e; cases e; cases h1; rw [strsD_rep h2 hd]; rfl
  | _, .non :: _, _, _, e => by cases e
  | _, .bl _ :: _, _, _, e => by cases e
  | _, .int _ :: _, _, _, e => by cases e
  | _, .tup _ :: _, _, _, e => by cases e
  | _, .lst _ :: _, _, _, e => by cases e
  | _, .fro _ :: _, _, _, e => by cases e
  | _, .ref _ :: _, _, _, e => by cases e
theorem repAll_strs {K : PySem.W.Frag} {B : Addr → Prop} {H : Hp} : ∀ xs : List Str, RepAll K B H (xs.map V.str) (xs.map D.str)
  | [] => .nil
  | _ :: xs => .cons (.str _) (repAll_strs xs)
section
variable {X : Cx} {E : XK} {k : Nat} {o e : Expr} {wo wa : DTE} {apos pos : Pos}
def wM1 (r : Str → D → Mem → DK → Prop) (wo wa : DTE) : DTE := fun δ M Q => wo δ M fun x M1 => match x with | .str a => wa δ M1 fun y M2 => r a y M2 Q | _ => False
theorem lift_m1 {K : PySem.W.Frag} {r : V → List V → Hp → VK → Prop} {w : Str → D → Mem → DK → Prop}
    (ok : ∀ F M H a y d (Q : DK) (Q' : VK), Wd K F M H → Rep K (Bar F M) H y d → w a d M Q → (∀ v H' d M', Rep K (Bar F M') H' v d → Wd K F M' H' → Ext F M H M' H' → Q d M' → Q' v H') → r (.str a) [y] H Q')
    {σ : L2.St} {H : Hp} {Q' : VK} (h : liftE K E (wM1 w wo wa) σ H Q') : tM1 r (liftE K E wo) (liftE K E wa) σ H Q' := by
  obtain ⟨F, δ, M, Q, sm, lx, hw, lk⟩ := h
  refine ⟨F, δ, M, _, sm, lx, hw, fun v H1 d M1 r1 w1 e1 q1 => ?_⟩
  cases d with
  | str a =>
    cases r1
    refine ⟨⟨a, rfl⟩, F, δ, M1, _, sm.ext w1 e1, lx.ext w1 e1, q1, fun u H2 d2 M2 r2 w2 e2 q2 => ?_⟩
    exact ok F M2 H2 a u d2 Q Q' w2 r2 q2 fun v' H' d' M' r3 w3 e3 q3 => lk v' H' d' M' r3 w3 (Ext.trans w1 e1 (Ext.trans w2 e2 e3)) q3
  | _ => exact (show False from q1).elim
def wSplit : DTE → DTE → DTE := wM1 fun a y M Q => match y with | .str b => ((b.length == 0) = false ∧ a.length + 2 ≤ sizeLine) ∧ Q (.lst ((Txt.split a b).map D.str)) M | _ => False
theorem de_split (ho : DE X E o wo) (ha : DE X E e wa) (hs : starEach [e] X.env = [(false, eval e X.env)] := by rfl) (hbase : attributeBase o "split" X.env (eval o X.env) = eval o X.env := by rfl) (hline : (apos.endLine == pos.line) = true := by rfl) :
    DE X E (.Call (.Attribute o "split" apos) [e] [] pos) (wSplit wo wa) := by
  refine pe_mono (pe_split ho ha hs hbase hline) fun σ H Q' h => lift_m1 (fun F M H a y d Q Q' wd r hw lk => ?_) h
  cases d with
  | str b =>
    cases r
    exact ⟨a, b, rfl, rfl, hw.1.1, hw.1.2, fun p hp => lk _ _ _ M (.newLst wd hp (repAll_strs _)) (wd.laid hp) (ext_laid hp) hw.2⟩
  | _ => exact (show False from hw).elim
def wJoin : DTE → DTE → DTE := wM1 fun a y M Q => onO (sq M y) fun ds => onO (strsD ds) fun ys => (ys.map (·.length)).sum + ys.length * a.length ≤ 16777216 ∧ Q (.str (Txt.join a ys)) M
theorem de_join (ho : DE X E o wo) (ha : DE X E e wa) (hs : starEach [e] X.env = [(false, eval e X.env)] := by rfl) (hbase : attributeBase o "join" X.env (eval o X.env) = eval o X.env := by rfl) (hline : (apos.endLine == pos.line) = true := by rfl) :
    DE X E (.Call (.Attribute o "join" apos) [e] [] pos) (wJoin wo wa) := by
  refine pe_mono (pe_join ho ha hs hbase hline) fun σ H Q' h => lift_m1 (fun F M H a y d Q Q' wd r hw lk => ?_) h
  obtain ⟨ds, h1, hw⟩ := onO_e hw
  obtain ⟨ys, h2, hw⟩ := onO_e hw
  obtain ⟨p, xs, rfl, hq, ra⟩ := r.sq wd h1
  have ex := strsD_rep ra h2
  subst ex
  exact ⟨a, p, ys, rfl, rfl, hq, hw.1, lk _ H _ M (.str _) wd (.refl _ _ _) hw.2⟩
end
end Bx

set_option Elab.async false
set_option linter.all false
set_option maxRecDepth 100000
set_option maxHeartbeats 4000000
namespace Bx
open PySem PySem.Spec L2 LamX NdefX
open PyProof.Rows hiding St

/-! ### lambdas made -/
def LF.nf (F : LF) : NF := ⟨"<lambda>", F.qual, F.params, [], F.scope, F.cl, F.c⟩
theorem lamO_at {P : Program} {w : World} {H : Hp} {h : Heap} {f : Addr} {F : LF} (hok : HOk P w H h) (e : H f = some (LamO f F)) :
    ∃ pm ctv : Value, h.get? f = some (PySem.W.kla_obj "<lambda>" F.qual F.params F.body F.scope F.cl pm F.c ctv) := by
  obtain ⟨z, _, _⟩ := hok f _ e
  exact z
/-- a lambda was made: f is new, the table at P may have one code object more -/
structure LamMd (P : Addr) (nm : Nat → Nat → Str) (F : LF) (H : Hp) (ps : Array Value) (f : Addr) (H1 : Hp) : Prop where
  keep : ∀ b o, H b = some o → b ≠ P → H1 b = some o
  new : H f = none
  at_ : H1 f = some (LamO f F)
  code : H1 F.c = some (CodeO F.c F.qual)
  tab : ∃ ps' : Array Value, H1 P = some (.tbl ps') ∧ TriplesOk ps'.toList ∧ ∀ (pos : Pos) (cv : Value), codeAmong pos ps'.toList = some cv → codeAmong pos ps.toList = some cv ∨ (cv = .ref F.c ∧ nm pos.line pos.col = F.qual)
  old : H F.c = none ∨ ∃ pos : Pos, codeAmong pos ps.toList = some (.ref F.c)
  ne : f ≠ F.c
section
variable {X : Cx} {pins : List (Addr × Obj)} {σ : L2.St} {H : Hp} {s : Shared}
theorem inv_lam {F : LF} {o : Obj} {t' : Nat} {pm ctv : Value} (I : Inv X pins σ H s) (ho : o = PySem.W.kla_obj "<lambda>" F.qual F.params F.body F.scope F.cl pm F.c ctv) :
    Inv X pins σ (upd H s.heap.objs.size (LamO s.heap.objs.size F)) { s with heap := s.heap.push o, toks := t' } := by
  subst ho
  refine I.laid (a := s.heap.objs.size) (fun b u e => Heap.get?_push_of_some _ e) (Nat.le_refl _) ?_
  have e : (s.heap.push (PySem.W.kla_obj "<lambda>" F.qual F.params F.body F.scope F.cl pm F.c ctv)).get? s.heap.objs.size = some (PySem.W.kla_obj "<lambda>" F.qual F.params F.body F.scope F.cl pm F.c ctv) := Heap.get?_push_size _ rfl
  exact ⟨⟨pm, ctv, e⟩, ⟨_, e⟩, fun h1 h2 ⟨p, t, z⟩ st => ⟨p, t, st _ z⟩⟩
theorem lam_make3 {nm : Nat → Nat → Str} {c P : Addr} {params : Arguments} {body : Expr} {scope : Scope} {pos : Pos} {E : Value → Shared → Prop} {Q : Value → Shared → Prop} {ps : Array Value} (I : Inv X pins σ H s) (TB : TabB X.base X.mg c P) (hcode : X.env.code = .ref c)
    (hn : nm pos.line pos.col = X.env.qual ++ "<lambda>") (hP : H P = some (.tbl ps)) (ht : TriplesOk ps.toList) (ha : ∀ (pos : Pos) (cv : Value), codeAmong pos ps.toList = some cv → ∃ c, cv = .ref c ∧ H c = some (CodeO c (nm pos.line pos.col)))
    (hdef : defaultsOf params X.env = ([], [])) (hfree : ∀ y ∈ scope.names, y.2 = .free → ∃ c, X.env.cells.lookup y.1 = some c)
    (h : ∀ (f c' : Addr) (H1 : Hp) (s' : Shared), Inv X pins σ H1 s' → LamMd P nm ⟨X.env.qual ++ "<lambda>", params, body, scope, cloFrom X.env.cells scope.names [], c'⟩ H ps f H1 → Q (.ref f) s') :
    wpAny (model X.prog X.w) X.A (eval (.Lambda params body scope pos) X.env) Q E s := by
  refine PySem.W.kla_eval hdef ?_
  have bP : s.heap.BuiltinsAt X.mg P := TB.bm.keeps I.bk
  have hP' : s.heap.get? P = some { cls := .none, data := .fields ps } := I.hok P _ hP
  cases hc : codeAmong pos ps.toList with
  | none =>
    refine PySem.W.kla_makeFunction (mg := X.mg) (c := c) (P := P) (ps := ps) (closure_ok hfree) I.ok.glob (I.mod.glob.keeps I.bk) hcode (TB.code.keeps I.bk) hP' ht hc TB.gP bP fun c' ctv h' tk hx hge hlt hrec htb => ?_
    obtain ⟨c2, oc, vs, t, e2, hoc, hd, hv⟩ := hrec
    cases e2
    have nC : H c' = none := I.hok.fresh hge
    have I1 := inv_table (t' := tk) (more := #[rawInt pos.line, rawInt pos.col, .ref c']) (h' := h') I hP (fun b o hb e => hx b o hb e) htb hge ⟨oc, vs, t, hoc, hd, hv⟩
    have eL : (ps ++ #[rawInt pos.line, rawInt pos.col, .ref c']).toList = ps.toList ++ [rawInt pos.line, rawInt pos.col, .ref c'] := by simp
    have nF := I1.hok.fresh (Nat.le_refl _)
    have nF0 : H h'.objs.size = none := I.hok.fresh (Nat.le_trans hge (Nat.le_of_lt hlt))
    have I2 := inv_lam (F := ⟨X.env.qual ++ "<lambda>", params, body, scope, cloFrom X.env.cells scope.names [], c'⟩) (t' := tk) (pm := (X.mg "__name__").getD .none) (ctv := ctv) I1 rfl
    have nPs : P ≠ h'.objs.size := ne_of_none hP nF0
    refine h h'.objs.size c' _ _ I2 ⟨fun b o e n => ?_, nF0, upd_same, ?_, ⟨ps ++ #[rawInt pos.line, rawInt pos.col, .ref c'], ?_, ?_, fun p' cv hcv => ?_⟩, .inl nC, Nat.ne_of_gt hlt⟩
    · rw [upd_ne (ne_of_none e nF0), upd_ne (ne_of_none e nC), upd_ne n]; exact e
    · exact (upd_ne (Nat.ne_of_lt hlt)).trans upd_same
    · rw [upd_ne nPs, upd_ne (ne_of_none hP nC), upd_same]
    · rw [eL]; exact PySem.TriplesOk_snoc _ _ _ _ ht
    · rw [eL] at hcv
      rcases among_app2 _ ht hcv with z | ⟨z, z1, z2⟩
      · exact .inl z
      · exact .inr ⟨z, by rw [← z1, ← z2]; exact hn⟩
  | some cv =>
    obtain ⟨c', e, hco⟩ := ha pos cv hc
    subst e
    rw [hn] at hco
    refine PySem.W.kla_makeFunctionHit (mg := X.mg) (c := c) (P := P) (ps := ps) (closure_ok hfree) I.ok.glob (I.mod.glob.keeps I.bk) hcode (TB.code.keeps I.bk) hP' ht hc bP fun ctv h' tk hx hsz => ?_
    have I1 : Inv X pins σ H { s with heap := h', toks := tk } := I.kept hx
    have nF : H h'.objs.size = none := I1.hok.fresh (Nat.le_refl _)
    have I2 := inv_lam (F := ⟨X.env.qual ++ "<lambda>", params, body, scope, cloFrom X.env.cells scope.names [], c'⟩) (t' := tk) (pm := (X.mg "__name__").getD .none) (ctv := ctv) I1 rfl
    refine h h'.objs.size c' _ _ I2 ⟨fun b o e n => ?_, nF, upd_same, ?_, ⟨ps, ?_, ht, fun p' cv hcv => .inl hcv⟩, .inr ⟨pos, hc⟩, Ne.symm (ne_of_none hco nF)⟩
    · rw [upd_ne (ne_of_none e nF)]; exact e
    · exact (upd_ne (ne_of_none hco nF)).trans hco
    · rw [upd_ne (ne_of_none hP nF)]; exact hP
end
/-- the reading of a lambda -/
def tLamE (P : Addr) (nm : Nat → Nat → Str) (mkF : Addr → LF) : TE := fun σ H Q => ∃ ps : Array Value, H P = some (.tbl ps) ∧ TriplesOk ps.toList ∧ (∀ (pos : Pos) (cv : Value), codeAmong pos ps.toList = some cv → ∃ c, cv = .ref c ∧ H c = some (CodeO c (nm pos.line pos.col))) ∧
  ∀ (f c' : Addr) (H1 : Hp), LamMd P nm (mkF c') H ps f H1 → Q (.ref f) H1
theorem pe_lamE {X : Cx} {nm : Nat → Nat → Str} {c P : Addr} {params : Arguments} {body : Expr} {scope : Scope} {pos : Pos} (TB : TabB X.base X.mg c P) (hcode : X.env.code = .ref c) (hn : nm pos.line pos.col = X.env.qual ++ "<lambda>") (hdef : defaultsOf params X.env = ([], []))
    (hfree : ∀ y ∈ scope.names, y.2 = .free → X.env.scope.names.lookup y.1 = some .cell ∨ X.env.scope.names.lookup y.1 = some .free) :
    PE X (.Lambda params body scope pos) (tLamE P nm fun c' => ⟨X.env.qual ++ "<lambda>", params, body, scope, cloFrom X.env.cells scope.names [], c'⟩) := by
  refine ⟨fun pins s σ H Q I ⟨ps, hP, ht, ha, h⟩ => ?_⟩
  exact lam_make3 I TB hcode hn hP ht ha hdef (fun y hy e => (hfree y hy e).elim (fun z => I.ok.has _ (.inl z)) fun z => I.ok.has _ (.inr z)) fun f c' H1 s' I1 md => ⟨.ref f, H1, I1, rfl, h f c' H1 md⟩
/-- the memory behind it -/
theorem wd_lam {K : PySem.W.Frag} {F : Addr → Prop} {M : Mem} {H H1 : Hp} {P f : Addr} {nm : Nat → Nat → Str} {Fn : LF} {ps : Array Value} {σ : L2.St} {s : List (Option D)} (w : Wd K F M H) (hM : M P = some (.tab nm)) (hps : H P = some (.tbl ps)) (rs : RepS K (Bar F M) H σ s) (m : LamMd P nm Fn H ps f H1) :
    M f = none ∧ Wd K F (updM M f (.clo ⟨Fn, σ⟩ s)) H1 ∧ Ext F M H (updM M f (.clo ⟨Fn, σ⟩ s)) H1 := by
  have hf : M f = none := w.noM m.new
  have fP : P ≠ f := ne_of_none hps m.new
  have hPF : ¬ F P := w.nf hM
  have e : Ext F M H (updM M f (.clo ⟨Fn, σ⟩ s)) H1 := by
    refine ⟨fun a o h q => m.keep a o h fun z => ?_, fun a o h => ?_⟩
    · subst z
      rcases q with q | q
      · exact hPF q
      · rw [hM] at q; cases q
    · by_cases z : a = f
      · subst z; exact .inr m.new
      · rw [updM_ne z] at h; exact .inl ⟨o, h⟩
  have unb : ∀ c, ¬ Bar F M c → c ≠ f → ¬ Bar F (updM M f (.clo ⟨Fn, σ⟩ s)) c := fun c n z => by
    rintro (q | ⟨o, q⟩)
    · exact n (.inl q)
    · rw [updM_ne z] at q; exact n (.inr ⟨o, q⟩)
  obtain ⟨ps0, h0, ht, ha⟩ := w.mem P _ hM
  rw [hps] at h0
  cases h0
  have uc : ¬ Bar F (updM M f (.clo ⟨Fn, σ⟩ s)) Fn.c := by
    refine unb _ ?_ (Ne.symm m.ne)
    rcases m.old with z | ⟨pos, z⟩
    · exact w.fresh z
    · obtain ⟨c, e1, _, e3⟩ := ha pos _ z
      cases e1
      exact e3
  refine ⟨hf, ⟨fun a u h => ?_, fun a h => ?_⟩, e⟩
  · by_cases z : a = f
    · subst z
      rw [updM_same] at h
      cases h
      exact ⟨m.at_, m.code, uc, RepS.ext w e rs⟩
    · rw [updM_ne z] at h
      by_cases zp : a = P
      · subst zp
        rw [hM] at h
        cases h
        obtain ⟨ps', t1, t2, t3⟩ := m.tab
        refine ⟨ps', t1, t2, fun pos cv hc => ?_⟩
        rcases t3 pos cv hc with y | ⟨y, y2⟩
        · obtain ⟨c, e1, e2, e3⟩ := ha pos cv y
          refine ⟨c, e1, m.keep _ _ e2 fun q => ?_, unb c e3 (ne_of_none e2 m.new)⟩
          rw [q, hps] at e2
          exact codeO_ne ps (Option.some.inj e2).symm
        · exact ⟨Fn.c, y, by rw [y2]; exact m.code, uc⟩
      · exact RepO.ext w e (fun o q => m.keep a o q zp) (w.mem a u h)
  · obtain ⟨h1, o, h2, h3⟩ := w.hid a h
    have zp : a ≠ P := fun z => by subst z; exact hPF h
    have zf : a ≠ f := ne_of_none h2 m.new
    exact ⟨by rw [updM_ne zf]; exact h1, o, m.keep a o h2 zp, h3⟩

/-! ### the ground at a call -/
/-- a later ground -/
structure Up (K : PySem.W.Frag) (mg : Str → Option Value) (b0 b1 : Heap) : Prop where
  keep : ∀ b o, b0.get? b = some o → b1.get? b = some o
  size : b0.objs.size ≤ b1.objs.size
  mod0 : Mod K mg b0
theorem Up.refl {K : PySem.W.Frag} {mg : Str → Option Value} {b : Heap} (m : Mod K mg b) : Up K mg b b := ⟨fun _ _ e => e, Nat.le_refl _, m⟩
theorem Up.trans {K : PySem.W.Frag} {mg : Str → Option Value} {b0 b1 b2 : Heap} (a : Up K mg b0 b1) (b : Up K mg b1 b2) : Up K mg b0 b2 := ⟨fun x o e => b.keep x o (a.keep x o e), Nat.le_trans a.size b.size, a.mod0⟩
def baseAt (h : Heap) (H : Hp) (fs : List Addr) : Heap := hidT h fun b => if b ∈ fs then some (.lst []) else H b
theorem baseAt_of {h : Heap} {H : Hp} {fs : List Addr} {b : Addr} {o : Obj} (e : (baseAt h H fs).get? b = some o) : h.get? b = some o ∧ H b = none ∧ b ∉ fs := by
  obtain ⟨h1, h2⟩ := of_hidT e
  by_cases z : b ∈ fs
  · rw [if_pos z] at h2; cases h2
  · rw [if_neg z] at h2; exact ⟨h1, h2, z⟩
theorem baseAt_get {h : Heap} {H : Hp} {fs : List Addr} {b : Addr} {o : Obj} (e : h.get? b = some o) (n : H b = none) (nf : b ∉ fs) : (baseAt h H fs).get? b = some o :=
  hidT_get e (by rw [if_neg nf]; exact n)
theorem ff_base {h b1 b2 : Heap} : ∀ {l : List Env}, h.FunFrames b1 l → (∀ L ∈ frs l, b2.get? L = none) → h.FunFrames b2 l
  | [], _, _ => trivial
  | env :: rest, hl, hn => by
    obtain ⟨hk, ⟨L, o, hf, _, ho, hd⟩, hr⟩ := hl
    have hm : L ∈ frs (env :: rest) := List.mem_filterMap.mpr ⟨env, List.mem_cons_self, hf⟩
    refine ⟨hk, ⟨L, o, hf, hn L hm, ho, hd⟩, ff_base hr fun L hL => hn L ?_⟩
    obtain ⟨e, he, q⟩ := List.mem_filterMap.mp hL
    exact List.mem_filterMap.mpr ⟨e, List.mem_cons_of_mem _ he, q⟩
theorem mod_up {K : PySem.W.Frag} {mg : Str → Option Value} {b0 b1 : Heap} (m : Mod K mg b0) (u : ∀ b o, b0.get? b = some o → b1.get? b = some o) : Mod K mg b1 :=
  ⟨m.kin.keeps u, m.glob.keeps u, let ⟨mb, h1, h2⟩ := m.blt; ⟨mb, h1.keeps u, h2⟩, m.nolimit.keeps u⟩
theorem Up.mod {K : PySem.W.Frag} {mg : Str → Option Value} {b0 b1 : Heap} (u : Up K mg b0 b1) : Mod K mg b1 := mod_up u.mod0 u.keep
theorem tabB_up {K : PySem.W.Frag} {b0 b1 : Heap} {mg : Str → Option Value} {c P : Addr} (t : TabB b0 mg c P) (u : Up K mg b0 b1) : TabB b1 mg c P := ⟨t.code.keeps u.keep, t.bm.keeps u.keep, t.gP⟩
section
variable {X : Cx} {pins : List (Addr × Obj)} {σ : L2.St} {H : Hp} {s : Shared}
theorem up_at (I : Inv X pins σ H s) : Up X.K X.mg X.base (baseAt s.heap H (frs X.stack)) := by
  refine ⟨fun b o e => ?_, ?_, I.ok.mod⟩
  · obtain ⟨h1, h2⟩ := I.bs b o e
    refine baseAt_get h1 h2 fun z => ?_
    have := (I.stack.mem z).1
    rw [e] at this; cases this
  · unfold baseAt
    rw [hidT_size]
    exact Nat.le_trans I.ok.bsz I.sz
theorem env0_at (I : Inv X pins σ H s) : Env0 X.prog X.w X.K X.mg (baseAt s.heap H (frs X.stack)) X.A X.stack s H :=
  ⟨I.ok.frames, mod_up I.ok.mod (up_at I).keep, fun b o e => let ⟨a, b, _⟩ := baseAt_of e; ⟨a, b⟩, Nat.le_of_eq (hidT_size _ _), ff_base I.stack fun L hL => by
    cases e : (baseAt s.heap H (frs X.stack)).get? L with
    | none => rfl
    | some o => exact absurd hL (baseAt_of e).2.2, I.stkFree, I.hok, I.bare⟩
/-- the cells are no frames -/
def NFc (X : Cx) : Prop := ∀ y c, X.env.cells.lookup y = some c → X.s_0.heap.objs.size ≤ c ∨ c ∉ X.fs
theorem NFc.no {c : Addr} {y : Str} (n : NFc X) (I : Inv X pins σ H s) (e : X.env.cells.lookup y = some c) : c ∉ frs X.stack := fun z => by
  rcases List.mem_cons.mp (I.stkSub c z) with q | q
  · exact I.cne y c e q
  · rcases n y c e with h | h
    · obtain ⟨_, o, ho, _⟩ := I.ok.funs.mem q
      exact absurd (Nat.lt_of_lt_of_le (Heap.lt_size ho) h) (Nat.lt_irrefl _)
    · exact h q
end
theorem cellsFrom_ge : ∀ {names : List (Str × NameKind)} {n : Nat} {acc : List (Str × Addr)} {x : Str} {c : Addr}, (x, c) ∈ cellsFrom n names acc → (x, c) ∈ acc ∨ n ≤ c
  | [], _, _, _, _, h => .inl h
  | (m, k) :: r, n, acc, x, c, hm => by
    unfold cellsFrom at hm
    split at hm
    · rcases cellsFrom_ge hm with z | z
      · rcases List.mem_cons.mp z with z | z
        · cases z; exact .inr (Nat.le_refl _)
        · exact .inl z
      · right; omega
    · exact cellsFrom_ge hm
theorem nfc_cx {CX : CXT} {P : Program} {w : World} {K : PySem.W.Frag} {mg : Str → Option Value} {base : Heap} {N : List Str} {qual : Str} {scope : Scope} {f : Addr} {cd : Value} {A : Around} {outer : List Env} {s : Shared} {H : Hp} {E : XK} : NFc (cxOf CX P w K mg base N qual scope f cd A outer s H E) := fun y c e => by
  rcases cellsFrom_ge (PySem.mem_of_lookup e) with z | z
  · cases z
  · left
    show s.heap.objs.size ≤ c
    omega
end Bx

set_option Elab.async false
set_option linter.all false
set_option maxRecDepth 100000
set_option maxHeartbeats 4000000
namespace Bx
open PySem PySem.Spec L2 LamX NdefX
open PyProof.Rows hiding St

/-! ### functions as values -/
/-- the function at f keeps the promise, over the ground base -/
structure FnV (P : Program) (w : World) (K : PySem.W.Frag) (mg : Str → Option Value) (base : Heap) (k n : Nat) (f : Addr) (spec : DSpec) : Prop where
  run : ∀ (A : Around) (outer : List Env) (s : Shared) (H : Hp) (us : List Value) (vs : List V) (Q : VK) (E : XK), Room k A → Env0 P w K mg base A outer s H → Vals vs us → DSp K n spec vs H Q E →
    codeAny (model P w) A (.call (.ref f) ⟨us, []⟩) (CR (L2N.CX P w) outer P w H s Q E) s
theorem FnV.mono {P : Program} {w : World} {K : PySem.W.Frag} {mg : Str → Option Value} {base : Heap} {j k n : Nat} {f : Addr} {spec : DSpec} (h : FnV P w K mg base j n f spec) (l : j ≤ k) : FnV P w K mg base k n f spec :=
  ⟨fun A outer s H us vs Q E hr => h.run A outer s H us vs Q E (hr.mono l)⟩
theorem Env0.down {P : Program} {w : World} {K : PySem.W.Frag} {mg : Str → Option Value} {b0 b1 : Heap} {A : Around} {outer : List Env} {s : Shared} {H : Hp} (e : Env0 P w K mg b1 A outer s H) (u : Up K mg b0 b1) : Env0 P w K mg b0 A outer s H := by
  refine ⟨e.frames, u.mod0, fun b o h => e.bs b o (u.keep b o h), Nat.le_trans u.size e.bsz, ff_base e.funs fun L hL => ?_, e.frf, e.hok, e.bare⟩
  cases q : b0.get? L with
  | none => rfl
  | some o =>
    have := (e.funs.mem hL).1
    rw [u.keep L o q] at this; cases this
/-- over a later ground -/
theorem FnV.up {P : Program} {w : World} {K : PySem.W.Frag} {mg : Str → Option Value} {b0 b1 : Heap} {k n : Nat} {f : Addr} {spec : DSpec} (h : FnV P w K mg b0 k n f spec) (u : Up K mg b0 b1) : FnV P w K mg b1 k n f spec :=
  ⟨fun A outer s H us vs Q E hr e0 r q => h.run A outer s H us vs Q E hr (Env0.down e0 u) r q⟩
theorem DFn.up {P : Program} {w : World} {K : PySem.W.Frag} {mg : Str → Option Value} {b0 b1 : Heap} {k n : Nat} {x : Str} {spec : DSpec} (h : DFn P w K mg b0 k x n spec) (u : Up K mg b0 b1) : DFn P w K mg b1 k x n spec := by
  obtain ⟨f, fd, ps, hl, F, hm, hk, hb⟩ := h
  exact ⟨f, fd, ps, hl, ⟨F.len, fun A outer s H args us vs Q E hr e0 b r q => F.run A outer s H args us vs Q E hr (Env0.down e0 u) b r q⟩, hm, hk, hb⟩
theorem FnV.imp {P : Program} {w : World} {K : PySem.W.Frag} {mg : Str → Option Value} {base : Heap} {k n : Nat} {f : Addr} {spec spec' : DSpec} (h : FnV P w K mg base k n f spec) (m : ∀ ds M Q Ed, ds.length = n → spec' ds M Q Ed → spec ds M Q Ed) : FnV P w K mg base k n f spec' :=
  ⟨fun A outer s H us vs Q E hr e0 r ⟨F1, M, ds, Qd, Ed, hn, ra, wd, lx, hs, lk⟩ => h.run A outer s H us vs Q E hr e0 r ⟨F1, M, ds, Qd, Ed, hn, ra, wd, lx, m _ _ _ _ hn hs, lk⟩⟩
/-- a def of the module as a value -/
theorem FnV.of {P : Program} {w : World} {K : PySem.W.Frag} {mg : Str → Option Value} {base : Heap} {k n : Nat} {x : Str} {spec : DSpec} (c : DFn P w K mg base k x n spec) :
    ∃ f, mg x = some (.ref f) ∧ PySem.W.keepIn K (.ref f) = true ∧ FnV P w K mg base k n f spec := by
  obtain ⟨f, fd, ps, hl, F, hm, hk, hb⟩ := c
  refine ⟨f, hm, hk, ⟨fun A outer s H us vs Q E hr e0 r h => ?_⟩⟩
  have KX : K.In s.heap := e0.mod.kin.keeps fun b o e => (e0.bs b o e).1
  have hlen : us.length = ps.length := by
    obtain ⟨F1, M, ds, Qd, Ed, hn, ra, _⟩ := id h
    rw [← r.length, ra.length, hn, hl]
  have b := hb s us KX (by rw [List.append_nil]; exact hlen)
  rw [List.append_nil] at b
  exact F.run A outer s H ⟨us, []⟩ us vs Q E hr e0 b r h
/-- a def's or a lambda's address -/
def Lv (K : PySem.W.Frag) (f : Addr) (M : Mem) : Prop := PySem.W.keepIn K (.ref f) = true ∨ ∃ κ s, M f = some (.clo κ s)
def FAt (K : PySem.W.Frag) (f : Addr) (H : Hp) : Prop := PySem.W.keepIn K (.ref f) = true ∨ ∃ F, H f = some (LamO f F)
theorem Lv.at {K : PySem.W.Frag} {F : Addr → Prop} {f : Addr} {M : Mem} {H : Hp} (w : Wd K F M H) (l : Lv K f M) : FAt K f H := by
  rcases l with l | ⟨κ, s, l⟩
  · exact .inl l
  · exact .inr ⟨κ.F, (w.mem f _ l).1⟩
theorem fnAt_lam {P : Program} {w : World} {H : Hp} {h : Heap} {f : Addr} {F : LF} (hok : HOk P w H h) (e : H f = some (LamO f F)) : PySem.W.FnAt f h := by
  obtain ⟨pm, ctv, ho⟩ := lamO_at hok e
  exact ⟨_, _, _, _, ho⟩
theorem keepIn_some {K : PySem.W.Frag} {f : Addr} (h : PySem.W.keepIn K (.ref f) = true) : ∃ o, K.lookup f = some o := by
  cases e : K.lookup f with
  | none => simp [PySem.W.keepIn, e] at h
  | some o => exact ⟨o, rfl⟩
section
variable {X : Cx} {E : XK} {i j k n : Nat} {spec : DSpec} {S : Addr → DSpec → Prop} {e : Expr} {es : List Expr} {wr : DTA} {x : Str} {p pos : Pos}
theorem run_fnv {pins : List (Addr × Obj)} {σ : L2.St} {H : Hp} {s : Shared} {Q : VK} {f : Addr} {us : List Value} {vs : List V} (V : FnV X.prog X.w X.K X.mg X.base j n f spec) (hr : Room j X.A) (hx : Passes (L2N.CX X.prog X.w) X E) (I : Inv X pins σ H s) (r : Vals vs us) (q : DSp X.K n spec vs H Q E) :
    wpAny (model X.prog X.w) X.A (call (.ref f) us) (EP X pins σ Q) X.xe s := by
  refine wpAny_call (codeAny_mono (V.run X.A X.stack s H us vs Q E hr I.env0 r q) fun r s' hq => ?_)
  cases r with
  | error e => exact hx pins σ H s e s' I hq
  | ok fl =>
    cases fl with
    | ret u => exact I.after hq
    | next => exact False.elim hq
    | brk => exact False.elim hq
    | cont => exact False.elim hq
/-- what is known of f goes over the evaluation of the arguments -/
def tCallV (K : PySem.W.Frag) (S : Addr → DSpec → Prop) (i n : Nat) (E : XK) (t : TA) : TE := fun σ H Q => ∃ f sp, S f sp ∧ σ[i]? = some (some (.ref f)) ∧ FAt K f H ∧ t σ H fun vs H1 => FAt K f H1 ∧ DSp K n sp vs H1 Q E
theorem pe_callV (hr : Room j X.A) (hx : Passes (L2N.CX X.prog X.w) X E) (V : ∀ f sp, S f sp → FnV X.prog X.w X.K X.mg X.base j n f sp) (hN : X.N[i]? = some x) (hv : Vis X.env.scope x) (ha : PA X (e :: es) t)
    (hd : (x == ("__debug__" : Str)) = false := by decide) (hcd : (x == ("__classdict__" : Str)) = false := by decide)
    (he : starEach (e :: es) X.env = (false, eval e X.env) :: starEach es X.env := by rfl) (hpl : (backTo pos (starEach es X.env)).any (·.1) = false := by rfl) :
    PE X (.Call (.Name x p) (e :: es) [] pos) (tCallV X.K S i n E t) := by
  refine ⟨fun pins s σ H Q I ⟨f, sp, hS, hs, hf, ht⟩ => ?_⟩
  refine wpAny_Call_Name_kw (thn ((pe_var (pos := p) hN hv hd hcd).run pins s σ H (fun v H1 => v = .ref f ∧ H1 = H) I ⟨.ref f, hs, rfl, rfl⟩) fun u s1 ⟨v, H1, I1, r1, q1⟩ => ?_)
  obtain ⟨ev, eH⟩ := q1
  subst ev
  rw [eH] at I1
  obtain rfl : u = Value.ref f := r1
  rcases hf with hk | ⟨F, hF⟩
  · exact PySem.W.callWith_K (first := []) (h₀ := X.base) I.ok.mod.kin hk (thn (ha.run pos pins s1 σ H _ I1 ht) fun us s2 ⟨vs, H2, I2, r, h1, q⟩ => ⟨I2.kIn, run_fnv (V f sp hS) hr hx I2 r q⟩) he hpl
  · refine PySem.W.callWith_F (first := []) (fnAt_lam I1.hok hF) (thn (ha.run pos pins s1 σ H _ I1 ht) fun us s2 ⟨vs, H2, I2, r, h1, q⟩ => ⟨?_, run_fnv (V f sp hS) hr hx I2 r q⟩) he hpl
    rcases h1 with h1 | ⟨F2, h1⟩
    · obtain ⟨o, ho⟩ := keepIn_some h1
      have := (I1.bs f o (I1.ok.mod.kin f o ho)).2
      rw [hF] at this; cases this
    · exact fnAt_lam I2.hok h1
/-- a call of no argument -/
def tCallV0 (K : PySem.W.Frag) (S : Addr → DSpec → Prop) (i n : Nat) (E : XK) : TE := fun σ H Q => ∃ f sp, S f sp ∧ σ[i]? = some (some (.ref f)) ∧ FAt K f H ∧ DSp K n sp [] H Q E
theorem pe_callV0 (hr : Room j X.A) (hx : Passes (L2N.CX X.prog X.w) X E) (V : ∀ f sp, S f sp → FnV X.prog X.w X.K X.mg X.base j n f sp) (hN : X.N[i]? = some x) (hv : Vis X.env.scope x)
    (hd : (x == ("__debug__" : Str)) = false := by decide) (hcd : (x == ("__classdict__" : Str)) = false := by decide) :
    PE X (.Call (.Name x p) [] [] pos) (tCallV0 X.K S i n E) := by
  refine ⟨fun pins s σ H Q I ⟨f, sp, hS, hs, hf, q⟩ => ?_⟩
  refine wpAny_Call_Name_kw (thn ((pe_var (pos := p) hN hv hd hcd).run pins s σ H (fun v H1 => v = .ref f ∧ H1 = H) I ⟨.ref f, hs, rfl, rfl⟩) fun u s1 ⟨v, H1, I1, r1, q1⟩ => ?_)
  obtain ⟨ev, eH⟩ := q1
  subst ev
  rw [eH] at I1
  obtain rfl : u = Value.ref f := r1
  rcases hf with hk | ⟨F, hF⟩
  · exact PySem.W.callWith_K0 (first := []) I1.kIn hk (run_fnv (V f sp hS) hr hx I1 .nil q)
  · exact PySem.W.callWith_F0 (first := []) (fnAt_lam I1.hok hF) (run_fnv (V f sp hS) hr hx I1 .nil q)
def wCallV (K : PySem.W.Frag) (S : Addr → DSpec → Prop) (i n : Nat) (wr : DTA) : DTE := fun δ M Q => ∃ f sp, S f sp ∧ δ.s[i]? = some (some (.ref f)) ∧ Lv K f M ∧ wr δ M fun ds M1 => Lv K f M1 ∧ ds.length = n ∧ sp ds M1 Q δ.x
def wCallV0 (K : PySem.W.Frag) (S : Addr → DSpec → Prop) (i : Nat) : DTE := fun δ M Q => ∃ f sp, S f sp ∧ δ.s[i]? = some (some (.ref f)) ∧ Lv K f M ∧ sp [] M Q δ.x
theorem de_callV {K' : PySem.W.Frag} (hX : DX X E k) (i : Nat) (V : ∀ f sp, S f sp → FnV X.prog X.w X.K X.mg X.base j n f sp) (ha : DA X E (e :: es) wr) (hj : j ≤ k := by decide) (hN : X.N[i]? = some x := by rfl) (hv : Vis X.env.scope x := by first | exact Or.inl rfl | exact Or.inr (Or.inl rfl) | exact Or.inr (Or.inr rfl))
    (hd : (x == ("__debug__" : Str)) = false := by decide) (hcd : (x == ("__classdict__" : Str)) = false := by decide)
    (he : starEach (e :: es) X.env = (false, eval e X.env) :: starEach es X.env := by rfl) (hpl : (backTo pos (starEach es X.env)).any (·.1) = false := by rfl) (hK : X.K = K' := by rfl) :
    DE X E (.Call (.Name x p) (e :: es) [] pos) (wCallV K' S i n wr) := by
  subst hK
  refine pe_mono (pe_callV (i := i) (hX.room.mono hj) hX.pass V hN hv ha hd hcd he hpl) fun σ H Q' ⟨F, δ, M, Q, sm, lx, ⟨f, sp, hS, hs, hl, hw⟩, lk⟩ => ?_
  obtain ⟨v, hv, rv⟩ := sm.sl.2 i _ hs
  cases rv
  refine ⟨f, sp, hS, hv, hl.at sm.wd, F, δ, M, _, sm, lx, hw, fun vs H1 ds M1 r1 w1 e1 q1 => ⟨q1.1.at w1, ?_⟩⟩
  exact ⟨F, M1, ds, Q, δ.x, q1.2.1, r1, w1, lx.ext w1 e1, q1.2.2, fun v H' d M' r w e q => lk v H' d M' r w (Ext.trans w1 e1 e) q⟩
theorem de_callV0 {K' : PySem.W.Frag} (hX : DX X E k) (i : Nat) (V : ∀ f sp, S f sp → FnV X.prog X.w X.K X.mg X.base j 0 f sp) (hj : j ≤ k := by decide) (hN : X.N[i]? = some x := by rfl) (hv : Vis X.env.scope x := by first | exact Or.inl rfl | exact Or.inr (Or.inl rfl) | exact Or.inr (Or.inr rfl))
    (hd : (x == ("__debug__" : Str)) = false := by decide) (hcd : (x == ("__classdict__" : Str)) = false := by decide) (hK : X.K = K' := by rfl) :
    DE X E (.Call (.Name x p) [] [] pos) (wCallV0 K' S i) := by
  subst hK
  refine pe_mono (pe_callV0 (i := i) (n := 0) (hX.room.mono hj) hX.pass V hN hv hd hcd) fun σ H Q' ⟨F, δ, M, Q, sm, lx, ⟨f, sp, hS, hs, hl, hw⟩, lk⟩ => ?_
  obtain ⟨v, hv, rv⟩ := sm.sl.2 i _ hs
  cases rv
  exact ⟨f, sp, hS, hv, hl.at sm.wd, F, M, [], Q, δ.x, rfl, .nil, sm.wd, lx, hw, fun v H' d M' r w e q => lk v H' d M' r w e q⟩
end

/-! ### the lambda's promise -/
def slotD (s : List (Option D)) (j : Nat) : Option D := match s[j]? with
  | some o => o
  | none => none
/-- the data of its names at the entry: parameters, captured names -/
def lamD (ds : List D) (s : List (Option D)) (js : List Nat) : List (Option D) := ds.map some ++ js.map (slotD s)
def lamSpec (f : Addr) (κ : Clo) (s : List (Option D)) (js : List Nat) (te : DTE) : DSpec := fun ds M Q Ed => M f = some (.clo κ s) ∧ te ⟨lamD ds s js, Ed⟩ M Q
theorem lam_rep {K : PySem.W.Frag} {B : Addr → Prop} {H : Hp} {N ps fr : List Str} {σ : L2.St} {s : List (Option D)} {js : List Nat} {vs : List V} {ds : List D} (hN : N.length = ps.length + fr.length) (hl : vs.length = ps.length) (hj : js.length = fr.length) (r : RepAll K B H vs ds) (rs : RepS K B H σ s) :
    RepS K B H (startF N vs (js.map (slotAt σ))) (lamD ds s js) := by
  have e : startF N vs (js.map (slotAt σ)) = vs.map some ++ js.map (slotAt σ) := by
    unfold startF
    rw [List.length_map, hN, hl, hj]
    simp
  rw [e]
  unfold lamD
  refine ⟨by simp [r.length], fun i d h => ?_⟩
  by_cases hi : i < ds.length
  · rw [List.getElem?_append_left (by simpa using hi), List.getElem?_map] at h
    have hd : ds[i]? = some d := by
      rw [List.getElem?_eq_getElem hi] at h ⊢
      simpa using h
    obtain ⟨v, hv, rv⟩ := r.get hd
    exact ⟨v, by rw [List.getElem?_append_left (by simpa [r.length] using hi), List.getElem?_map, hv]; rfl, rv⟩
  · rw [List.getElem?_append_right (by simpa using hi), List.length_map, List.getElem?_map] at h
    rw [List.getElem?_append_right (by simpa [r.length] using hi), List.length_map, r.length, List.getElem?_map]
    cases ej : js[i - ds.length]? with
    | none => rw [ej] at h; cases h
    | some j =>
      rw [ej] at h
      have h : slotD s j = some d := Option.some.inj h
      unfold slotD at h
      cases es : s[j]? with
      | none => rw [es] at h; cases h
      | some o =>
        rw [es] at h
        have h : o = some d := h
        subst h
        obtain ⟨v, hv, rv⟩ := rs.2 j d es
        exact ⟨v, by show some (slotAt σ j) = _; rw [slotAt_of hv], rv⟩
abbrev lcx (P : Program) (w : World) (K : PySem.W.Frag) (mg : Str → Option Value) (base : Heap) (N : List Str) (F : LF) (f : Addr) (A : Around) (outer : List Env) (s : Shared) (H : Hp) (E : XK) : Cx := ncx (L2N.CX P w) P w K mg base N F.nf f A outer s H E
theorem fnv_lam {P : Program} {w : World} {K : PySem.W.Frag} {mg : Str → Option Value} {base : Heap} {N ps fr : List Str} {κ : Clo} {f : Addr} {s0 : List (Option D)} {js : List Nat} {te : DTE} {k : Nat} (S : NScope N ps fr κ.F.scope) (hN : N.length = ps.length + fr.length) (hj : js.length = fr.length)
    (hb : ∀ (pm ctv : Value) (us : List Value), us.length = ps.length → bindArgs (PySem.W.kla_fn "<lambda>" κ.F.qual κ.F.params κ.F.body κ.F.scope κ.F.cl pm (.ref κ.F.c) ctv) ⟨us, []⟩ = pure (ps.zip us))
    (C : CellsAt κ.F.cl fr (js.map (slotAt κ.σ)) base fun _ => none)
    (body : ∀ (A : Around) (outer : List Env) (s : Shared) (H : Hp) (E : XK), DX (lcx P w K mg base N κ.F f A outer s H E) E k → NFc (lcx P w K mg base N κ.F f A outer s H E) → DE (lcx P w K mg base N κ.F f A outer s H E) E κ.F.body te) :
    FnV P w K mg base (k + 1) ps.length f (lamSpec f κ s0 js te) := by
  refine ⟨fun A outer s H us vs Q E hr e0 r ⟨F1, M, ds, Qd, Ed, hn, ra, wd, lx, ⟨hM, hs⟩, lk⟩ => ?_⟩
  obtain ⟨hf, hc, _, rs⟩ := wd.mem f _ hM
  have hl : vs.length = ps.length := ra.length.trans hn
  have lim : s.heap.NoLimit := e0.mod.nolimit.keeps fun b o e => (e0.bs b o e).1
  obtain ⟨pm, ctv, ho⟩ := lamO_at e0.hok hf
  have C' : CellsAt κ.F.nf.cl fr (js.map (slotAt κ.σ)) s.heap H := by
    refine ⟨C.len, fun y c e => ?_, C.inj, fun i y e => ?_⟩
    · obtain ⟨_, v, o, ho, hd⟩ := C.all y c e
      obtain ⟨h1, h2⟩ := e0.bs c o ho
      exact ⟨h2, v, o, h1, hd⟩
    · obtain ⟨c, hc, hv⟩ := C.has i y e
      refine ⟨c, hc, fun v ev => ?_⟩
      obtain ⟨u, ru, o, ho, hd⟩ := hv v ev
      exact ⟨u, ru, o, (e0.bs c o ho).1, hd⟩
  refine PySem.W.kla_callFunE hr.depth ho rfl S.co S.gen rfl (codeO_at e0.hok hc) ?_
  rw [hb pm ctv us (by rw [← r.length]; exact hl)]
  refine wpAny_pure (wpAny_newFunctionEnv S.nocell (fun ⟨n, _⟩ hy => S.par n (List.of_mem_zip hy).1) (fun h₁ hns hsb => ⟨lim.fresh _ hsb, ?_⟩) S.kind)
  show codeAny _ _ (.expr κ.F.body (envF κ.F.nf f s.heap.objs.size)) _ _
  have kp : ∀ b o, s.heap.get? b = some o → h₁.get? b = some o := fun b o e => hsb.extBut b o (Nat.ne_of_lt (Heap.lt_size e)) (Heap.get?_push_of_some _ e)
  have I : Inv (lcx P w K mg base N κ.F f A outer s H E) [] (startF N vs (js.map (slotAt κ.σ))) H { s with heap := h₁, toks := s.toks + (ps.zip us).length } := inv_startN S hr.hd e0 hl r C' hns kp
  have tk : L2N.Takes (lcx P w K mg base N κ.F f A outer s H E) fun cls d _ H => E cls d H := L2N.takes_of rfl rfl rfl rfl
  have hX : DX (lcx P w K mg base N κ.F f A outer s H E) E k := ⟨rfl, passes_of rfl, L2N.passes_call tk fun _ _ _ _ z => z, tk, S.nd, hr.deeper _⟩
  have nf : NFc (lcx P w K mg base N κ.F f A outer s H E) := fun y c e => by
    right
    intro z
    obtain ⟨_, v, o, ho, _⟩ := C.all y c e
    have := (e0.funs.mem z).1
    rw [ho] at this; cases this
  refine PySem.W.kla_codeExpr (wpAny_mono ((body A outer s H E hX nf).run [] _ _ H Q I ?_) (fun v s' hq => ?_) fun e s' hq => hq)
  · exact ⟨F1, ⟨lamD ds s0 js, Ed⟩, M, Qd, ⟨lam_rep hN hl hj ra rs, wd⟩, lx, hs, lk⟩
  · obtain ⟨w', H', J', rv, q⟩ := hq
    exact ⟨w', H', J'.os, J'.bare, J'.base, J'.hok, rv, q⟩
end Bx

set_option Elab.async false
set_option linter.all false
set_option maxRecDepth 100000
set_option maxHeartbeats 4000000
namespace Bx
open PySem PySem.Spec L2 LamX NdefX
open PyProof.Rows hiding St
/-! ### g(lambda ..: .., e2, ..) -/
def wCallL (P : Addr) (nm : Nat → Nat → Str) (n : Nat) (G : Addr → DSpec → DSpec) (js : List Nat) (te : DTE) (wr : DTA) : DTE := fun δ M Q => M P = some (.tab nm) ∧ ∀ f κ, M f = none →
  wr δ (updM M f (.clo κ δ.s)) fun ds M1 => M1 f = some (.clo κ δ.s) ∧ ds.length + 1 = n ∧ G f (lamSpec f κ δ.s js te) (.ref f :: ds) M1 (fun d M2 => ∀ M3, M3 = delM M2 f → Q d M3) (fun c M2 => ∀ M3, M3 = delM M2 f → δ.x c M3)
theorem xok_imp {x y : Value → Mem → Prop} {cls : Value} {dd : Option Addr} {H : Hp} {M M' : Mem} (m : ∀ c, x c M → y c M') (h : XOk x cls dd H M) : XOk y cls dd H M' := by
  rcases h with ⟨a, b⟩ | ⟨C, d, fs, a, b, c, e⟩
  · exact .inl ⟨a, m _ b⟩
  · exact .inr ⟨C, d, fs, a, b, c, m _ e⟩
theorem fnv_never {P : Program} {w : World} {K : PySem.W.Frag} {mg : Str → Option Value} {base : Heap} {k n : Nat} {f : Addr} : FnV P w K mg base k n f (fun _ _ _ _ => False) :=
  ⟨fun _ _ _ _ _ _ _ _ _ _ _ ⟨_, _, _, _, _, _, _, _, _, z, _⟩ => z.elim⟩
section
variable {X : Cx} {E : XK} {j k kl n : Nat} {es : List Expr} {wr : DTA} {x : Str} {p pos lpos : Pos} {G : Addr → DSpec → DSpec} {nm : Nat → Nat → Str} {c P : Addr} {params : Arguments} {body : Expr} {scope : Scope} {Nl ps fr : List Str} {js : List Nat} {te : DTE}
/-- the cells of a lambda made here, in the ground of a call from here -/
theorem cells_at {pins : List (Addr × Obj)} {σ : L2.St} {H : Hp} {s : Shared} (nf : NFc X) (I : Inv X pins σ H s) (hsc : ndefB X.env.scope scope fr = true) (hjs : js.map (fun j => X.N[j]?) = fr.map some) :
    CellsAt (cloFrom X.env.cells scope.names []) fr (js.map (slotAt σ)) (baseAt s.heap H (frs X.stack)) fun _ => none := by
  have C := cells_of I (Caps.made I.ok (ndef_free hsc) (ndef_fr hsc) hjs)
  have hf : ∀ y ∈ scope.names, y.2 = .free → ∃ c, X.env.cells.lookup y.1 = some c := fun y hy e => (ndef_free hsc y hy e).elim (fun z => I.ok.has _ (.inl z)) fun z => I.ok.has _ (.inr z)
  have up : ∀ y c, (cloFrom X.env.cells scope.names []).lookup y = some c → ∀ v, s.heap.IsCell c v → (baseAt s.heap H (frs X.stack)).IsCell c v := fun y c e v ⟨o, ho, hd⟩ =>
    ⟨o, baseAt_get ho (C.all y c e).1 (nf.no I (clo_cm hf e)), hd⟩
  refine ⟨C.len, fun y c e => ?_, C.inj, fun i y e => ?_⟩
  · obtain ⟨h1, v, z⟩ := C.all y c e
    exact ⟨rfl, v, up y c e v z⟩
  · obtain ⟨c, hc, hv⟩ := C.has i y e
    refine ⟨c, hc, fun v ev => ?_⟩
    obtain ⟨u, ru, z⟩ := hv v ev
    exact ⟨u, ru, up y c hc _ z⟩
theorem de_callL (hX : DX X E k) (nf : NFc X) (TB : TabB X.base X.mg c P) (hcode : X.env.code = .ref c)
    (lam : ∀ (base' : Heap) (q : Str) (cl : List (Str × Addr)) (c' f : Addr) (A : Around) (outer : List Env) (s : Shared) (H : Hp) (E' : XK), Up X.K X.mg X.base base' → DX (lcx X.prog X.w X.K X.mg base' Nl ⟨q, params, body, scope, cl, c'⟩ f A outer s H E') E' kl →
      NFc (lcx X.prog X.w X.K X.mg base' Nl ⟨q, params, body, scope, cl, c'⟩ f A outer s H E') → DE (lcx X.prog X.w X.K X.mg base' Nl ⟨q, params, body, scope, cl, c'⟩ f A outer s H E') E' body te)
    (g : ∀ (base' : Heap) (f : Addr) (sp : DSpec), Up X.K X.mg X.base base' → FnV X.prog X.w X.K X.mg base' (kl + 1) ps.length f sp → DFn X.prog X.w X.K X.mg base' j x n (G f sp))
    (ha : DA X E es wr) (S : NScope Nl ps fr scope) (hj : j ≤ k := by decide) (hn : nm lpos.line lpos.col = X.env.qual ++ "<lambda>" := by rfl) (hsc : ndefB X.env.scope scope fr = true := by rfl) (hNl : Nl.length = ps.length + fr.length := by rfl) (hjs : js.map (fun j => X.N[j]?) = fr.map some := by rfl) (hdef : defaultsOf params X.env = ([], []) := by rfl)
    (hb : ∀ (q : Str) (cl : List (Str × Addr)) (pm cv ctv : Value) (us : List Value), us.length = ps.length → bindArgs (PySem.W.kla_fn "<lambda>" q params body scope cl pm cv ctv) ⟨us, []⟩ = pure (ps.zip us))
    (hg : Gl X x := by rfl) (hdb : (x == ("__debug__" : Str)) = false := by decide) (he : starEach (.Lambda params body scope lpos :: es) X.env = (false, eval (.Lambda params body scope lpos) X.env) :: starEach es X.env := by rfl) (hpl : (backTo pos (starEach es X.env)).any (·.1) = false := by rfl) :
    DE X E (.Call (.Name x p) (.Lambda params body scope lpos :: es) [] pos) (wCallL P nm n G js te wr) := by
  refine ⟨fun pins s σ H Q' I ⟨F, δ, M, Q, sm, lx, ⟨hM, hw⟩, lk⟩ => ?_⟩
  obtain ⟨fg, _, _, _, _, hm, hk, _⟩ := g X.base 0 _ (Up.refl I.ok.mod) fnv_never
  refine wpAny_Call_Name_kw (ld_glob I hg hm ?_ hdb)
  have hjl : js.length = fr.length := by
    have := congrArg List.length hjs
    simpa using this
  let mkF : Addr → LF := fun c' => ⟨X.env.qual ++ "<lambda>", params, body, scope, cloFrom X.env.cells scope.names [], c'⟩
  let Qa : List V → Hp → Prop := fun vs0 H2 => ∃ f c' vs ds M2, vs0 = .ref f :: vs ∧ RepAll X.K (Bar F M2) H2 vs ds ∧ Wd X.K F M2 H2 ∧ Ext F M H M2 H2 ∧ M2 f = some (.clo ⟨mkF c', σ⟩ δ.s) ∧ ds.length + 1 = n ∧
    G f (lamSpec f ⟨mkF c', σ⟩ δ.s js te) (.ref f :: ds) M2 (fun d M3 => ∀ M4, M4 = delM M3 f → Q d M4) (fun c M3 => ∀ M4, M4 = delM M3 f → δ.x c M4)
  have hp := pa_cons (pe_lamE (X := X) (pos := lpos) TB hcode hn hdef (ndef_free hsc)) ha he
  obtain ⟨ps0, hps, ht, ha0⟩ := sm.wd.mem P _ hM
  refine PySem.W.callWith_K (first := []) (h₀ := X.base) I.ok.mod.kin hk (thn (hp.run pos pins s σ H Qa I ⟨ps0, hps, ht, fun pos cv hc => let ⟨c, e1, e2, _⟩ := ha0 pos cv hc; ⟨c, e1, e2⟩, fun f c' H1 md => ?_⟩) fun us s2 ⟨vs0, H2, I2, r, f, c', vs, ds, M2, ev, ra, w2, e2, hM2, hn2, q2⟩ => ⟨I2.kIn, ?_⟩) he hpl
  · obtain ⟨nf0, w1, e1⟩ := wd_lam sm.wd hM hps sm.sl md
    exact ⟨F, δ, _, _, sm.ext w1 e1, lx.ext w1 e1, hw f ⟨mkF c', σ⟩ nf0, fun vs H2 ds M2 r2 w2 e2 ⟨hM2, hn2, q2⟩ => ⟨f, c', vs, ds, M2, rfl, r2, w2, Ext.trans w1 e1 e2, hM2, hn2, q2⟩⟩
  · subst ev
    have V := fnv_lam (P := X.prog) (w := X.w) (K := X.K) (mg := X.mg) (base := baseAt s2.heap H2 (frs X.stack)) (κ := ⟨mkF c', σ⟩) (f := f) (s0 := δ.s) (te := te) (k := kl) S hNl hjl (hb _ _ · (.ref c') ·) (cells_at nf I2 hsc hjs) (fun A outer s H E hX nf => lam _ _ _ _ f A outer s H E (up_at I2) hX nf)
    obtain ⟨fg', fd, ps', hl, Fg, hm', hk', hbn⟩ := g _ f _ (up_at I2) V
    have ef : fg' = fg := Value.ref.inj (Option.some.inj (hm'.symm.trans hm))
    subst ef
    have hlen : us.length = ps'.length := by
      rw [← r.length, hl]
      show vs.length + 1 = n
      rw [ra.length, hn2]
    have b := hbn s2 us I2.kIn (by rw [List.append_nil]; exact hlen)
    rw [List.append_nil] at b
    have e0 := env0_at I2
    refine wpAny_call (codeAny_mono (Fg.run X.A X.stack s2 H2 ⟨us, []⟩ us (.ref f :: vs) Q' E (hX.room.mono hj) e0 b r ?_) fun r s' hq => ?_)
    · exact ⟨F, M2, .ref f :: ds, (fun d M3 => ∀ M4, M4 = delM M3 f → Q d M4), (fun c M3 => ∀ M4, M4 = delM M3 f → δ.x c M4), hn2, .cons (.ref f) ra, w2,
        fun cls dd H' M' w e q => lx cls dd H' (delM M' f) w.del (Ext.trans w (Ext.trans w2 e2 e) ext_del) (xok_imp (fun _ z => z _ rfl) q), q2, fun v H' d M' r w e q => lk v H' d (delM M' f) (Rep.ext w ext_del d v r) w.del (Ext.trans w (Ext.trans w2 e2 e) ext_del) (q _ rfl)⟩
    · cases r with
      | error e => exact hX.pass pins σ H2 s2 e s' I2 hq
      | ok fl =>
        cases fl with
        | ret u => exact I2.after hq
        | next => exact False.elim hq
        | brk => exact False.elim hq
        | cont => exact False.elim hq
end
end Bx

set_option Elab.async false
set_option linter.all false
set_option maxRecDepth 100000
set_option maxHeartbeats 4000000
namespace Bx
open PySem PySem.Spec L2
open PyProof.Rows hiding St
/-! ### list comprehensions whose parts make lambdas: told of the block's cells -/
theorem lcn_core {X : Cx} {pins : List (Addr × Obj)} {s : Shared} {σ : L2.St} {H : Hp} {Q : VK} {elt tg iter : Expr} {ifs : List Expr} {scope : Scope} {own : List (Str × Nat)} {pos pos' : Pos} {wi : TI} {g : TG} {tt : TT} {te : TE} {use : Option (Value → Sem Unit)} {Qf : Value → Shared → Prop}
    (hc : X.calm = true) (nf : NFc X) (hN : X.N.Nodup) (I : Inv X pins σ H s) (hi : PI X tg iter wi) (ok : BlkOk X.N X.env.scope scope own)
    (hg : ∀ (s : Shared) (H : Hp) (C : Addr) (cl : List (Str × Addr)) (fp : List Addr), NFc (X.blk s H scope (compEnvC scope cl C X.env) fp) → PG (X.blk s H scope (compEnvC scope cl C X.env) fp) tg g) (ht : ∀ (s : Shared) (H : Hp) (C : Addr) (cl : List (Str × Addr)) (fp : List Addr), NFc (X.blk s H scope (compEnvC scope cl C X.env) fp) → PTs (X.blk s H scope (compEnvC scope cl C X.env) fp) ifs tt)
    (he : ∀ (s : Shared) (H : Hp) (C : Addr) (cl : List (Str × Addr)) (fp : List Addr), NFc (X.blk s H scope (compEnvC scope cl C X.env) fp) → PE (X.blk s H scope (compEnvC scope cl C X.env) fp) elt te) (hs : ∀ x, foldedSetIterable iter X.env x = pure x)
    (h : tLc wi g tt te (own.map (·.2)) σ H Q)
    (hRR : ∀ D C s' m H', Inv X pins σ H' s' → Q (.ref D) H' → s'.heap.Ns C m → FpOk X pins H' C → compPost (model X.prog X.w) X.A X.xe use Qf (.ref D) C (.ok .next) s') :
    wpAny (model X.prog X.w) X.A (comprehension (.ListComp elt [⟨tg, iter, ifs, 0⟩] scope pos) scope X.env pos' (newList []) false (eval iter X.env) use) Qf X.xe s := by
  have hfree : ∀ y ∈ scope.names, y.2 = .free → ∃ c, X.env.cells.lookup y.1 = some c := fun y hy e => by
    rcases ok.free y hy e with k | k
    · exact I.ok.has _ (.inl k)
    · exact I.ok.has _ (.inr k)
  refine wpAny_comprehension_free (use := use) rfl hs (closure_ok hfree) ok.kind (fun y hy e => by rw [ok.uniq y hy, e])
    (thn (hi.run pins s σ H _ I h) fun xv s1 hx => thn hx fun itv s2 h2 => ?_)
  obtain ⟨it, fp, tn, J, H2, e, I2, T, st2, f2, q⟩ := h2
  subst e
  refine wpAny_newObj_type (newEnv_comp ?_) (by show 0 ≤ sizeLine; decide)
  generalize hD : s2.heap.objs.size = D
  have hDn : H2 D = none := I2.hok.fresh (Nat.le_of_eq hD)
  obtain ⟨W, ⟨m0, w0⟩, turn⟩ := q D hDn
  -- the new list
  generalize hs3 : ({ s2 with heap := s2.heap.push { cls := .type "list", data := .seq ([] : List Value).toArray } } : Shared) = s3
  have I3 : Inv X pins σ (upd H2 D (.lst [])) s3 := by
    rw [← hs3]
    refine I2.laid (t' := s2.toks) (fun b o e => Heap.get?_push_of_some _ e) (Nat.le_of_eq hD) ⟨Nat.zero_le _, [], 0, .nil, ?_⟩
    rw [← hD]
    exact Heap.get?_push_size _ rfl
  have h3 : s3.heap = s2.heap.push { cls := .type "list", data := .seq ([] : List Value).toArray } := by rw [← hs3]
  have sz : ∀ b ∈ fp, b < s2.heap.objs.size := fun b hb => by
    obtain ⟨o, e, _⟩ := T.obj _ _ st2 b hb
    exact Heap.lt_size e
  have f3 : ∀ b ∈ fp, FpOk X pins (upd H2 D (.lst [])) b ∧ b < s3.heap.objs.size := fun b hb => by
    have hlt := sz b hb
    refine ⟨⟨?_, (f2 b hb).2⟩, by rw [h3, Heap.size_push]; exact Nat.lt_succ_of_lt hlt⟩
    rw [upd_ne (by rw [← hD]; exact Nat.ne_of_lt hlt)]
    exact (f2 b hb).1
  have st3 : tn 0 s3.heap := T.keep _ _ _ st2 fun b _ o e => by rw [h3]; exact Heap.get?_push_of_some _ e
  have I4 := block_start I3 ok hN f3
  have nfb : NFc (X.blk s3 (upd H2 D (.lst [])) scope (compEnvC scope (cellsFrom (s3.heap.objs.size + 1) scope.names (cloFrom X.env.cells scope.names [])) s3.heap.objs.size X.env) fp) := fun y c e => by
    rcases cellsFrom_ge (PySem.mem_of_lookup e) with hm | hge
    · rcases cloFrom_mem hm with hm | ⟨h1, h2⟩
      · cases hm
      · obtain ⟨c1, hc1⟩ := hfree _ h1 rfl
        have hc1 : X.env.cells.lookup y = some c1 := hc1
        have e2 : c = c1 := by
          rw [h2, hc1] <;> rfl
        rw [e2]
        exact .inr (nf.no I3 hc1)
    · left
      show s3.heap.objs.size ≤ c
      omega
  have pg := hg s3 (upd H2 D (.lst [])) s3.heap.objs.size (cellsFrom (s3.heap.objs.size + 1) scope.names (cloFrom X.env.cells scope.names [])) fp nfb
  have pt := ht s3 (upd H2 D (.lst [])) s3.heap.objs.size (cellsFrom (s3.heap.objs.size + 1) scope.names (cloFrom X.env.cells scope.names [])) fp nfb
  have pe := he s3 (upd H2 D (.lst [])) s3.heap.objs.size (cellsFrom (s3.heap.objs.size + 1) scope.names (cloFrom X.env.cells scope.names [])) fp nfb
  show codeAny _ _ (.compStart (.ListComp elt [⟨tg, iter, ifs, 0⟩] scope pos) 0 (.ref it) (.ref D) (compEnvC scope (cellsFrom (s3.heap.objs.size + 1) scope.names (cloFrom X.env.cells scope.names [])) s3.heap.objs.size X.env)) (compPost (model X.prog X.w) X.A X.xe use Qf (.ref D) s3.heap.objs.size) { s3 with heap := pushCells (s3.heap.push { cls := .type "dict", data := .dict #[] }) scope.names }
  have nfp : ∀ b ∈ fp, (upd H2 D (.lst [])) b = none := fun b hb => (f3 b hb).1.1
  generalize hce : compEnvC scope (cellsFrom (s3.heap.objs.size + 1) scope.names (cloFrom X.env.cells scope.names [])) s3.heap.objs.size X.env = ce at I4 pg pt pe ⊢
  have cL : ce.locals = s3.heap.objs.size := by subst hce; rfl
  generalize hH3 : upd H2 D (.lst []) = H3 at I3 I4 pg pt pe w0 nfp f3
  generalize hs4 : ({ s3 with heap := pushCells (s3.heap.push { cls := .type "dict", data := .dict #[] }) scope.names } : Shared) = s4 at I4 ⊢
  have st4 : tn 0 s4.heap := T.keep _ _ _ st3 fun b _ o e => by rw [← hs4]; exact pushCells_keeps _ _ _ _ (Heap.get?_push_of_some _ e)
  have stat : ∀ {σ' : St} {H' : Hp} {s' : Shared}, Inv (X.blk s3 H3 scope ce fp) [] σ' H' s' → (∀ b ∈ fp, H' b = none) → ∀ b ∈ fp, FpOk (X.blk s3 H3 scope ce fp) [] H' b := fun {σ' H' s'} I' hn b hb =>
    ⟨hn b hb, (I'.ok.exf b hb).1, I'.ok.exfs b hb, .inl hb, fun x c e => (I'.ok.exf b hb).2 x c e, fun p hp => absurd (show p ∈ ([] : List (Addr × Obj)) ++ [] from hp) (by simp)⟩
  have loop : codeAny (model X.prog X.w) X.A (.compLoop (.ListComp elt [⟨tg, iter, ifs, 0⟩] scope pos) 0 (.ref it) (.ref D) ce) (compPost (model X.prog X.w) X.A X.xe use Qf (.ref D) s3.heap.objs.size) s4 := by
    refine compLoop_any (fun n s' => ∃ i H', Inv (X.blk s3 H3 scope ce fp) [] (wipe σ (own.map (·.2))) H' s' ∧ tn i s'.heap ∧ (∀ b ∈ fp, H' b = none) ∧ W i n H') ?_ m0 ⟨0, H3, I4, st4, nfp, w0⟩
    rintro n s5 ⟨i, H5, I5, st5, n5, w5⟩
    rcases turn i n H5 w5 with ⟨stop, qq⟩ | ⟨go, Nx, hNx, step⟩
    · have td := T.done (X.blk s3 H3 scope ce fp) rfl rfl rfl hc i [] s5 _ H5 (fun _ _ => False) I5 (stat I5 n5) st5 stop
      refine thnF td fun r s6 ⟨hr, I6⟩ => ?_
      subst hr
      -- back in the def's context
      have I7 : Inv X pins σ H5 s6 := I3.call' (ch := fp) I6.os I6.base I6.hok I6.bare fun b hb => ⟨(f3 b hb).1.2.2.2.1, (f3 b hb).1.2.1, (f3 b hb).1.2.2.2.2.1, (f3 b hb).1.2.2.2.2.2⟩
      have nC : H5 s3.heap.objs.size = none := by
        have z : H5 ce.locals = none := I6.free
        rw [cL] at z
        exact z
      obtain ⟨m, hn, _⟩ := I6.loc
      have hn : s6.heap.Ns ce.locals m := hn
      rw [cL] at hn
      exact hRR D s3.heap.objs.size s6 m H5 I7 qq hn (I3.fpOk (Nat.le_refl _) nC)
    · have ti := T.item (X.blk s3 H3 scope ce fp) rfl rfl rfl hc i [] s5 _ H5 (fun _ _ => False) I5 (stat I5 n5) st5 go
      refine thnF ti fun r s6 ⟨u, hr, h6⟩ => ?_
      subst hr
      refine thnF h6 fun _ s7 ⟨x, H7, I7, r7, y7, st7, n7⟩ => ?_
      have I7' := I7.pinned (stat I7 n7) (T.obj _ _ st7)
      refine thnF (pg.run _ s7 _ H7 x u _ I7' r7 (step x H7 y7)) fun _ s8 ⟨σ8, H8, I8, hw8, q8⟩ => ?_
      refine thnF (pt.run _ s8 σ8 H8 _ I8 q8) fun b s9 ⟨H9, I9, q9⟩ => ?_
      -- the turn's end
      have fin : ∀ {s' : Shared} {H' : Hp}, Inv (X.blk s3 H3 scope ce fp) ([] ++ pinsAt fp s7.heap) σ8 H' s' → Nx H' → ∃ m, m < n ∧ ∃ i H', Inv (X.blk s3 H3 scope ce fp) [] (wipe σ (own.map (·.2))) H' s' ∧ tn i s'.heap ∧ (∀ b ∈ fp, H' b = none) ∧ W i m H' := fun {s' H'} I' nx => by
        obtain ⟨m', hm, w'⟩ := hNx H' nx
        have pin' : ∀ b ∈ fp, ∀ o, s7.heap.get? b = some o → s'.heap.get? b = some o ∧ H' b = none := fun b hb o e =>
          let z := I'.pin (b, o) (List.mem_append_right _ (List.mem_append_right _ (mem_pinsAt hb e)))
          ⟨z.1, z.2.1⟩
        have hl : (wipe σ (own.map (·.2))).length = σ8.length := by rw [← hw8, wipe_length]
        refine ⟨m', hm, i + 1, H', (I'.unpinned (pins := [])).weak hl (fun j v e => ?_), T.keep _ _ _ st7 fun b hb o e => (pin' b hb o e).1, fun b hb => ?_, w'⟩
        · rw [← hw8] at e
          exact (wipe_some e).1
        · obtain ⟨o, e, _⟩ := T.obj _ _ st7 b hb
          exact (pin' b hb o e).2
      cases b with
      | false =>
        simp only [Bool.false_eq_true, if_false] at q9 ⊢
        exact fin I9 q9
      | true =>
        simp only [if_true] at q9 ⊢
        refine thnF (pe.run _ s9 σ8 H9 _ I9 q9) fun z s10 ⟨yv, H10, I10, r10, acc, hD10, hz10, nx⟩ => ?_
        exact app_ok (X := X.blk s3 H3 scope ce fp) I10 hD10 hz10 r10 fun s11 I11 => fin I11 nx
  exact codeAny_compStart_list loop (T.self X.A 0 _ _ _ st4 loop)
theorem pe_lcn {X : Cx} {elt tg iter : Expr} {ifs : List Expr} {scope : Scope} {own : List (Str × Nat)} {pos : Pos} {wi : TI} {g : TG} {tt : TT} {te : TE} (hc : X.calm = true) (nf : NFc X) (hN : X.N.Nodup) (hi : PI X tg iter wi) (ok : BlkOk X.N X.env.scope scope own)
    (hg : ∀ (s : Shared) (H : Hp) (C : Addr) (cl : List (Str × Addr)) (fp : List Addr), NFc (X.blk s H scope (compEnvC scope cl C X.env) fp) → PG (X.blk s H scope (compEnvC scope cl C X.env) fp) tg g) (ht : ∀ (s : Shared) (H : Hp) (C : Addr) (cl : List (Str × Addr)) (fp : List Addr), NFc (X.blk s H scope (compEnvC scope cl C X.env) fp) → PTs (X.blk s H scope (compEnvC scope cl C X.env) fp) ifs tt)
    (he : ∀ (s : Shared) (H : Hp) (C : Addr) (cl : List (Str × Addr)) (fp : List Addr), NFc (X.blk s H scope (compEnvC scope cl C X.env) fp) → PE (X.blk s H scope (compEnvC scope cl C X.env) fp) elt te) (hs : ∀ x, foldedSetIterable iter X.env x = pure x := by intro _; rfl) :
    PE X (.ListComp elt [⟨tg, iter, ifs, 0⟩] scope pos) (tLc wi g tt te (own.map (·.2))) := by
  refine ⟨fun pins s σ H Q I h => ?_⟩
  rw [eval_ListComp]
  refine lcn_core hc nf hN I hi ok hg ht he hs h fun D C s' m H' I' q hn f => ⟨m, hn, fun h'' sb => ?_⟩
  obtain ⟨f0, f1, f2, f3, f4, f5⟩ := f
  exact ⟨.ref D, H', I'.turned (t' := s'.toks) (fun b o hb e => (sb.2 b hb).trans e) f0 f1 f3 f4 f5, rfl, q⟩
/-- name = [..] on one line, the name a local -/
theorem ps_setLcn {X : Cx} {i : Nat} {y : Str} {py : Pos} {elt tg iter : Expr} {ifs : List Expr} {scope : Scope} {own : List (Str × Nat)} {pos spos : Pos} {wi : TI} {g : TG} {tt : TT} {te : TE} (hc : X.calm = true) (nf : NFc X) (hN : X.N.Nodup) (hy : X.N[i]? = some y) (hyl : X.env.scope.names.lookup y = some .local)
    (hsw : swapsWith (.ListComp elt [⟨tg, iter, ifs, 0⟩] scope pos) (some (.Name y py)) spos.line X.env = pure true) (hi : PI X tg iter wi) (ok : BlkOk X.N X.env.scope scope own)
    (hg : ∀ (s : Shared) (H : Hp) (C : Addr) (cl : List (Str × Addr)) (fp : List Addr), NFc (X.blk s H scope (compEnvC scope cl C X.env) fp) → PG (X.blk s H scope (compEnvC scope cl C X.env) fp) tg g) (ht : ∀ (s : Shared) (H : Hp) (C : Addr) (cl : List (Str × Addr)) (fp : List Addr), NFc (X.blk s H scope (compEnvC scope cl C X.env) fp) → PTs (X.blk s H scope (compEnvC scope cl C X.env) fp) ifs tt)
    (he : ∀ (s : Shared) (H : Hp) (C : Addr) (cl : List (Str × Addr)) (fp : List Addr), NFc (X.blk s H scope (compEnvC scope cl C X.env) fp) → PE (X.blk s H scope (compEnvC scope cl C X.env) fp) elt te) (hs : ∀ x, foldedSetIterable iter X.env x = pure x := by intro _; rfl) :
    PS X (.Assign [.Name y py] (.ListComp elt [⟨tg, iter, ifs, 0⟩] scope pos) spos) (tAsg (tLc wi g tt te (own.map (·.2))) (gName i)) := by
  refine ⟨fun pins s σ H D I h => ?_⟩
  rw [exec_Assign_Name_used _ _ _ _ hsw]
  refine wpAny_bind (wpAny_standAt (wpAny_bind ?_))
  show wpAny _ X.A (do let _ ← comprehension (.ListComp elt [⟨tg, iter, ifs, 0⟩] scope pos) scope X.env (firstIterPos [⟨tg, iter, ifs, 0⟩] pos) (newList []) false (eval iter X.env) (some (assign (.Name y py) X.env))) _ _ s
  have h : tLc wi g tt te (own.map (·.2)) σ H (fun x H1 => gName i x σ H1 D.nx) := h
  refine wpAny_bind (thn (lcn_core (Qf := fun _ s' => SP X pins D .next s') hc nf hN I hi ok hg ht he hs h fun L C s' m H' I' q hn f => ?_) fun _ s' hq => wpAny_pure (wpAny_pure hq))
  show wpAny _ _ (assign (.Name y py) X.env (.ref L)) _ _ _
  refine wpAny_assign_Name (store_ok2 (v := V.ref L) I' hN hy (.inl hyl) rfl (fun s2 I2 ⟨a, sb, ha⟩ => ?_) (.inr hyl))
  obtain ⟨f0, f1, f2, f3, f4, f5⟩ := f
  have haC : C ≠ a := by
    rcases ha with z | z
    · rw [z]; exact f1
    · exact fun e => f4 y a z e.symm
  refine ⟨m, hn.sameBut sb haC, fun h3 sb3 => ?_⟩
  exact ⟨_, H', I2.turned (t' := s2.toks) (fun b o hb e => (sb3.2 b hb).trans e) f0 f1 f3 f4 f5, q⟩
section
variable {X : Cx} {E : XK} {k : Nat} {pos : Pos}
theorem de_lcn {elt tg iter : Expr} {ifs : List Expr} {scope : Scope} {own : List (Str × Nat)} {wi : DTI} {t : Tg} {tt : DTT} {te : DTE} (hX : DX X E k) (nf : NFc X) (ok : BlkOk X.N X.env.scope scope own) (hi : DI X E tg iter wi)
    (hb : ∀ (s : Shared) (H : Hp) (C : Addr) (cl : List (Str × Addr)) (fp : List Addr), DX (X.blk s H scope (compEnvC scope cl C X.env) fp) E0 k → NFc (X.blk s H scope (compEnvC scope cl C X.env) fp) →
      DG (X.blk s H scope (compEnvC scope cl C X.env) fp) tg t ∧ DTs (X.blk s H scope (compEnvC scope cl C X.env) fp) E0 ifs tt ∧ DE (X.blk s H scope (compEnvC scope cl C X.env) fp) E0 elt te)
    (hv : ∀ i ∈ t.ixs, i ∈ own.map (·.2) := by decide) (hs : ∀ x, foldedSetIterable iter X.env x = pure x := by intro _; rfl) :
    DE X E (.ListComp elt [⟨tg, iter, ifs, 0⟩] scope pos) (wLc wi t tt te (own.map (·.2))) :=
  pe_mono (pe_lcn (g := t.v X.K) (tt := liftT X.K E0 tt) (te := liftE X.K E0 te) hX.calm nf hX.nd hi ok (fun s H C cl fp n => (hb s H C cl fp (hX.blk ..) n).1) (fun s H C cl fp n => (hb s H C cl fp (hX.blk ..) n).2.1) (fun s H C cl fp n => (hb s H C cl fp (hX.blk ..) n).2.2) hs) fun _ _ _ h => lift_lc hv h
theorem ds_setLcn {y : Str} {py spos : Pos} {elt tg iter : Expr} {ifs : List Expr} {scope : Scope} {own : List (Str × Nat)} {wi : DTI} {t : Tg} {tt : DTT} {te : DTE} (hX : DX X E k) (nf : NFc X) (i : Nat) (ok : BlkOk X.N X.env.scope scope own) (hi : DI X E tg iter wi)
    (hb : ∀ (s : Shared) (H : Hp) (C : Addr) (cl : List (Str × Addr)) (fp : List Addr), DX (X.blk s H scope (compEnvC scope cl C X.env) fp) E0 k → NFc (X.blk s H scope (compEnvC scope cl C X.env) fp) →
      DG (X.blk s H scope (compEnvC scope cl C X.env) fp) tg t ∧ DTs (X.blk s H scope (compEnvC scope cl C X.env) fp) E0 ifs tt ∧ DE (X.blk s H scope (compEnvC scope cl C X.env) fp) E0 elt te)
    (hsw : swapsWith (.ListComp elt [⟨tg, iter, ifs, 0⟩] scope pos) (some (.Name y py)) spos.line X.env = pure true) (hy : X.N[i]? = some y := by rfl) (hyl : X.env.scope.names.lookup y = some .local := by rfl)
    (hv : ∀ i ∈ t.ixs, i ∈ own.map (·.2) := by decide) (hs : ∀ x, foldedSetIterable iter X.env x = pure x := by intro _; rfl) :
    DS X E (.Assign [.Name y py] (.ListComp elt [⟨tg, iter, ifs, 0⟩] scope pos) spos) (wAsg (wLc wi t tt te (own.map (·.2))) (.nm i)) := by
  refine ps_mono (ps_setLcn (g := t.v X.K) (tt := liftT X.K E0 tt) (te := liftE X.K E0 te) hX.calm nf hX.nd hy hyl hsw hi ok (fun s H C cl fp n => (hb s H C cl fp (hX.blk ..) n).1) (fun s H C cl fp n => (hb s H C cl fp (hX.blk ..) n).2.1) (fun s H C cl fp n => (hb s H C cl fp (hX.blk ..) n).2.2) hs) fun Dh σ H ⟨F, δ, M, Dd, sm, lx, ld, hw⟩ => ?_
  refine lift_lc hv ⟨F, δ, M, _, sm, lx, hw, fun v H1 d M1 r1 w1 e1 q1 => ?_⟩
  have q1 : setK δ.s i (some d) fun s => Dd.nx ⟨s, δ.x⟩ M1 := q1
  rw [setK_eq] at q1
  exact ld.nx _ H1 ⟨δ.s.set i (some d), δ.x⟩ M1 ⟨(sm.ext w1 e1).sl.set r1 i, w1⟩ e1 rfl q1
end
end Bx

set_option Elab.async false
set_option linter.all false
set_option maxRecDepth 100000
set_option maxHeartbeats 4000000
namespace Bx
open PySem PySem.Spec L2 HotX L2H
open PyProof.Rows hiding St
/-! ### _law_names: the classes of the exception that is handled -/
theorem Wd.same {K : PySem.W.Frag} {F : Addr → Prop} {M : Mem} {H H' : Hp} (w : Wd K F M H) (h : Same H H') : Wd K F M H' ∧ Ext F M H M H' := by
  have e : Ext F M H M H' := ⟨fun a o q _ => h a o q, fun a o q => .inl ⟨o, q⟩⟩
  exact ⟨⟨fun a m q => RepO.ext w e (fun o q => h a o q) (w.mem a m q), fun a q => let ⟨h1, o, h2, h3⟩ := w.hid a q; ⟨h1, o, h a o h2, h3⟩⟩, e⟩
/-- in a body where p is handled -/
structure DXH (X : Cx) (p : Addr × Obj) : Prop where
  nd : X.N.Nodup
  mem : p ∈ X.pn
  hot : Hot1 X.A p
theorem DXH.hc {X : Cx} {p : Addr × Obj} (h : DXH X p) : ∃ p : Addr × Obj, p ∈ X.pn ∧ X.A.handled = some (.ref p.1) ∧ ∃ vs : Array Value, p.2.data = .fields vs ∧ vs[2]? = some .none := ⟨p, h.mem, h.hot.1, h.hot.2⟩
def HotB (X : Cx) : Prop := ∀ (pins : List (Addr × Obj)) (s : Shared) (σ : L2.St) (H : Hp), Inv X pins σ H s → ∃ x1, HotAt X.A x1 s.heap
section
variable {X : Cx} {E : XK} {k : Nat} {a b c e : Expr} {wa wb wc : DTE} {ta tb : DTT} {pos : Pos} {p : Addr × Obj}
theorem ds_setN (nd : X.N.Nodup) (i : Nat) {x : Str} {pos' : Pos} (he : DE X E e wa) (hi : X.N[i]? = some x := by rfl) (hx : Loc X.env.scope x := by first | exact .inl rfl | exact .inr rfl) (hs : swapsWith e (some (.Name x pos')) pos.line X.env = pure false := by rfl) (hf : X.fn x = true ∨ X.env.scope.names.lookup x = some .local := by first | exact .inl rfl | exact .inr rfl) :
    DS X E (.Assign [.Name x pos'] e pos) (wAsg wa (.nm i)) := by
  refine ps_mono (ps_set nd hi hx he hs hf) fun Dh σ H ⟨F, δ, M, Dd, sm, lx, ld, hw⟩ => ?_
  refine ⟨F, δ, M, _, sm, lx, hw, fun v H1 d M1 r1 w1 e1 q1 => ?_⟩
  have q1 : setK δ.s i (some d) fun s => Dd.nx ⟨s, δ.x⟩ M1 := q1
  rw [setK_eq] at q1
  exact ld.nx _ H1 ⟨δ.s.set i (some d), δ.x⟩ M1 ⟨(sm.ext w1 e1).sl.set r1 i, w1⟩ e1 rfl q1
theorem dg_nmN (nd : X.N.Nodup) (i : Nat) {x : Str} (hi : X.N[i]? = some x := by rfl) (hx : Loc X.env.scope x := by first | exact .inl rfl | exact .inr rfl) (hf : X.fn x = true ∨ X.env.scope.names.lookup x = some .local := by first | exact .inl rfl | exact .inr rfl) : DG X (.Name x pos) (.nm i) :=
  pg_name nd hi hx hf
theorem dg_tupH {es : List Expr} {n : Nat} {ts : List Tg} (hot : HotB X) (h : DGs X es ts) (hn : (assignEach es X.env).length = ts.length := by rfl) (hst : (assignEach es X.env).findIdx? (·.1) = none := by rfl) : DG X (.Tuple es n pos) (.tp ts) :=
  pg_tupH hot h hn hst
/-- the walk of a zip of two lists, its end hot -/
abbrev DIZ (X : Cx) (E : XK) (tg iter : Expr) (w : DTI) : Prop := PIZ X tg iter (liftI X.K E w)
def wZipL (wr : DTA) : DTI := fun δ M Q => wr δ M fun ds M1 => match ds with
  | [.lst xs, .lst ys] => Q (zipD xs ys) M1
  | _ => False
theorem piz_mono {tg iter : Expr} {t t' : TI} (h : PIZ X tg iter t) (m : ∀ σ H R, t' σ H R → t σ H R) : PIZ X tg iter t' := ⟨fun pins s σ H R I q => h.run pins s σ H R I (m σ H R q)⟩
theorem di_zipZ {wr : DTA} {q tpos : Pos} {elts : List Expr} {kk : Nat} (hm : X.mg "zip" = none) (ha : DA X E [a, b] wr) (hg : Gl X "zip" := by rfl) (hs : starEach [a, b] X.env = (false, eval a X.env) :: starEach [b] X.env := by rfl) (hpl : (backTo pos (starEach [b] X.env)).any (·.1) = false := by rfl) :
    DIZ X E (.Tuple elts kk tpos) (.Call (.Name "zip" q) [a, b] [] pos) (wZipL wr) := by
  refine piz_mono (pi_zipZ hg hm ha hs hpl) fun σ H R ⟨F, δ, M, Q, sm, lx, hw, lk⟩ => ?_
  refine ⟨F, δ, M, _, sm, lx, hw, fun vs H1 ds M1 r1 w1 e1 q1 => ?_⟩
  match ds, r1, q1 with
  | [.lst xs, .lst ys], .cons (.lst (a := p) (xs := us) h1 n1 a1) (.cons (.lst (a := q) (xs := zs) h2 n2 a2) .nil), q1 =>
    refine ⟨p, q, us, zs, rfl, .of h1, .of h2, lk _ H1 _ M1 w1 ?_ e1 q1⟩
    intro F' M' H' hF wd e
    have s1 : SqL X.K H' p us := .of (e.keep _ _ h1 (.inr (bar_none n1)))
    have s2 : SqL X.K H' q zs := .of (e.keep _ _ h2 (.inr (bar_none n2)))
    refine ⟨fun i d hd => ?_, fun i hi => ⟨us, zs, s1, s2, by rw [zipD_len] at hi; rw [a1.length, a2.length]; omega⟩⟩
    obtain ⟨x, y, hx, hy, rfl⟩ := zipD_get hd
    obtain ⟨vx, hvx, rx⟩ := a1.get hx
    obtain ⟨vy, hvy, ry⟩ := a2.get hy
    refine ⟨⟨us, zs, vx, vy, s1, s2, hvx, hvy⟩, fun v H2 ⟨T, x', y', ev, nT, eH, fx, fy⟩ => ?_⟩
    subst ev; subst eH
    have : x' = vx := Option.some.inj ((fx us s1).symm.trans hvx)
    subst this
    have : y' = vy := Option.some.inj ((fy zs s2).symm.trans hvy)
    subst this
    exact ⟨.newTup wd nT (.cons (Rep.extF w1 e hF x _ rx) (.cons (Rep.extF w1 e hF y _ ry) .nil)), wd.laid nT, ext_laid nT⟩
theorem de_lcz {elt tg iter : Expr} {ifs : List Expr} {scope : Scope} {own : List (Str × Nat)} {wi : DTI} {t : Tg} {tt : DTT} {te : DTE} (hX : DXH X p) (ok : BlkOk X.N X.env.scope scope own) (hi : DIZ X E tg iter wi)
    (hb : ∀ (s : Shared) (H : Hp) (C : Addr) (cl : List (Str × Addr)) (fp : List Addr), (HotB (X.blk s H scope (compEnvC scope cl C X.env) fp) → DG (X.blk s H scope (compEnvC scope cl C X.env) fp) tg t) ∧
      DTs (X.blk s H scope (compEnvC scope cl C X.env) fp) E0 ifs tt ∧ DE (X.blk s H scope (compEnvC scope cl C X.env) fp) E0 elt te)
    (hv : ∀ i ∈ t.ixs, i ∈ own.map (·.2) := by decide) (hs : ∀ x, foldedSetIterable iter X.env x = pure x := by intro _; rfl) :
    DE X E (.ListComp elt [⟨tg, iter, ifs, 0⟩] scope pos) (wLc wi t tt te (own.map (·.2))) :=
  pe_mono (pe_lcz (g := t.v X.K) (tt := liftT X.K E0 tt) (te := liftE X.K E0 te) hX.hc hX.nd hi ok (fun s H C cl fp => (hb s H C cl fp).1) (fun s H C cl fp => (hb s H C cl fp).2.1) (fun s H C cl fp => (hb s H C cl fp).2.2) hs) fun _ _ _ h => lift_lc hv h
/-- isinstance(e, C), e the handled exception in slot i -/
def wIsP (i : Nat) (a : Addr) (b : Bool) : DTE := fun δ M Q => δ.s[i]? = some (some (.ref a)) ∧ Q (.bl b) M
theorem de_isP0 {D : Addr} {e2 : Expr} {cv : Value} {v : V} {bb : Bool} {x : Str} {pe q : Pos} (C : ExcC X.K D) (hz : Zc (.ref D) none p.2) (hX : DXH X p) (i : Nat) (hp : PE X e2 (tC v)) (hv : ∀ u, RelV v u → u = cv) (hk : PySem.W.kitOne X.K (.ref D) cv = some bb) (hb : X.mg "isinstance" = none)
    (hi : X.N[i]? = some x := by rfl) (hvis : Vis X.env.scope x := by first | exact Or.inl rfl | exact Or.inr (Or.inl rfl) | exact Or.inr (Or.inr rfl)) (hd : (x == ("__debug__" : Str)) = false := by decide) (hcd : (x == ("__classdict__" : Str)) = false := by decide) (hg : Gl X "isinstance" := by rfl)
    (he : starEach [.Name x pe, e2] X.env = (false, eval (.Name x pe) X.env) :: starEach [e2] X.env := by rfl) (he2 : starEach [e2] X.env = (false, eval e2 X.env) :: starEach [] X.env := by rfl) (hpl : (backTo pos (starEach [e2] X.env)).any (·.1) = false := by rfl) :
    DE X E (.Call (.Name "isinstance" q) [.Name x pe, e2] [] pos) (wIsP i p.1 bb) := by
  refine pe_mono (pe_callB (call_isP C hz (let ⟨vs, h, _⟩ := hX.hot.2; ⟨vs, h⟩) hX.mem) hg hb (by decide +kernel) (pa_cons (pv i hi hvis hd hcd) (pa_cons hp pa_nil he2) he) (by decide) (by decide) he hpl) fun σ H Q' ⟨F, δ, M, Q, sm, lx, ⟨h1, h2⟩, lk⟩ => ?_
  obtain ⟨u, hu, ru⟩ := sm.sl.2 i _ h1
  cases ru
  exact ⟨.ref p.1, hu, v, cv, bb, rfl, hv, hk, lk _ H _ M (.bl _) sm.wd (.refl _ _ _) h2⟩
theorem de_isP {D a : Addr} {y : Str} {bb : Bool} {x : Str} {pe py q : Pos} (C : ExcC X.K D) (hz : Zc (.ref D) none p.2) (hX : DXH X p) (i : Nat) (hm : X.mg y = some (.ref a)) (hk : PySem.W.kitOne X.K (.ref D) (.ref a) = some bb) (hb : X.mg "isinstance" = none)
    (hgy : Gl X y := by rfl) (hdy : (y == ("__debug__" : Str)) = false := by decide) (hi : X.N[i]? = some x := by rfl) (hvis : Vis X.env.scope x := by first | exact Or.inl rfl | exact Or.inr (Or.inl rfl) | exact Or.inr (Or.inr rfl)) (hd : (x == ("__debug__" : Str)) = false := by decide) (hcd : (x == ("__classdict__" : Str)) = false := by decide) (hg : Gl X "isinstance" := by rfl)
    (he : starEach [.Name x pe, .Name y py] X.env = (false, eval (.Name x pe) X.env) :: starEach [.Name y py] X.env := by rfl) (he2 : starEach [.Name y py] X.env = (false, eval (.Name y py) X.env) :: starEach [] X.env := by rfl) (hpl : (backTo pos (starEach [.Name y py] X.env)).any (·.1) = false := by rfl) :
    DE X E (.Call (.Name "isinstance" q) [.Name x pe, .Name y py] [] pos) (wIsP i p.1 bb) :=
  de_isP0 C hz hX i (pe_glob (v := .ref a) hgy hm rfl hdy) (fun u h => h) hk hb hi hvis hd hcd hg he he2 hpl
theorem de_isPT {D : Addr} {y : Str} {T : String} {bb : Bool} {x : Str} {pe py q : Pos} (C : ExcC X.K D) (hz : Zc (.ref D) none p.2) (hX : DXH X p) (i : Nat) (hm : X.mg y = none) (hk : PySem.W.kitOne X.K (.ref D) (.type T) = some bb) (hb : X.mg "isinstance" = none) (hv : bootBuiltins y = some (.type T) := by decide +kernel)
    (hgy : Gl X y := by rfl) (hny : y ≠ "__name__" := by decide) (hdy : (y == ("__debug__" : Str)) = false := by decide) (hi : X.N[i]? = some x := by rfl) (hvis : Vis X.env.scope x := by first | exact Or.inl rfl | exact Or.inr (Or.inl rfl) | exact Or.inr (Or.inr rfl)) (hd : (x == ("__debug__" : Str)) = false := by decide) (hcd : (x == ("__classdict__" : Str)) = false := by decide) (hg : Gl X "isinstance" := by rfl)
    (he : starEach [.Name x pe, .Name y py] X.env = (false, eval (.Name x pe) X.env) :: starEach [.Name y py] X.env := by rfl) (he2 : starEach [.Name y py] X.env = (false, eval (.Name y py) X.env) :: starEach [] X.env := by rfl) (hpl : (backTo pos (starEach [.Name y py] X.env)).any (·.1) = false := by rfl) :
    DE X E (.Call (.Name "isinstance" q) [.Name x pe, .Name y py] [] pos) (wIsP i p.1 bb) :=
  de_isP0 C hz hX i (pe_bltn (v := .ty T) hgy hm hv rfl hny hdy) (fun u h => h) hk hb hi hvis hd hcd hg he he2 hpl
end
/-- what stands of the classes of errors: at as, in the order of xs; labels -/
def errXs : List Str := ["InvalidClause", "InvalidBox", "InvalidBoxes", "InvalidDay", "InvalidStrikes", "InvalidNumber", "InvalidNotes", "InvalidTruth", "InvalidText", "Shut", "Unlike", "NothingToUndo", "TooMany"]
def errLs : List Str := ["clause", "box", "boxes", "day", "strikes", "number", "notes", "truth", "text", "shut", "unlike", "undo", "many"]
/-- the name that _law_names tells of the class at i -/
def errNm (i : Nat) : Str := (errLs.getD i "") ++ " value"
/-- what the class i of as says of itself, of the others, of BoxError at B -/
def errB (K : PySem.W.Frag) (as : List Addr) (B : Addr) (i : Nat) : Bool :=
  let D := as.getD i 0
  (PySem.W.findIn K (.ref D) "__getattribute__" == some (some (.builtin "BaseException.__getattribute__"))) && (PySem.W.findIn K (.ref D) "__getattr__" == some none) && (PySem.W.subIn K (.ref D) (.type "BaseException") == some true) && PySem.W.hasDictIn K D &&
  (PySem.W.findIn K (.ref D) "__class__" == some (some (.builtin "object.__class__"))) && (PySem.W.specialIn K (.builtin "object.__class__") "__get__" == some (some (.builtin "getset_descriptor.__get__"))) && (PySem.W.takesIn K (.builtin "object.__class__") == some true) && (PySem.W.mroIn K D (.type "object") == some true) &&
  (as.zipIdx.all fun q => PySem.W.kitOne K (.ref D) (.ref q.1) == some (q.2 == i)) && (PySem.W.kitOne K (.ref D) (.type "ValueError") == some true) && (PySem.W.exmOne K (.ref D) (.ref B) == some true)
theorem errB_c {K : PySem.W.Frag} {as : List Addr} {B : Addr} {i : Nat} (h : errB K as B i = true) : ExcC K (as.getD i 0) ∧ (∀ (j : Nat) (a : Addr), as[j]? = some a → PySem.W.kitOne K (.ref (as.getD i 0)) (.ref a) = some (j == i)) ∧ PySem.W.kitOne K (.ref (as.getD i 0)) (.type "ValueError") = some true ∧ PySem.W.exmOne K (.ref (as.getD i 0)) (.ref B) = some true := by
  unfold errB at h
  simp only [Bool.and_eq_true, beq_iff_eq, List.all_eq_true] at h
  obtain ⟨⟨⟨⟨⟨⟨⟨⟨⟨⟨h1, h2⟩, h3⟩, h4⟩, h5⟩, h6⟩, h7⟩, h8⟩, h9⟩, h10⟩, h11⟩ := h
  refine ⟨⟨h1, h2, h3, h4, h5, h6, h7, h8⟩, fun j a e => ?_, h10, h11⟩
  have := h9 (a, j) (by rw [List.mem_zipIdx_iff_getElem?]; exact e)
  exact this
end Bx

set_option Elab.async false
set_option linter.all false
set_option maxRecDepth 100000
set_option maxHeartbeats 4000000
namespace Bx
open PySem PySem.Spec L2 HotX L2H
open PyProof.Rows hiding St
/-- the classes of errors stand -/
structure Errs (K : PySem.W.Frag) (mg : Str → Option Value) (ex : Str → Value) (as : List Addr) (B : Addr) : Prop where
  at_ : ∀ i x, errXs[i]? = some x → mg x = some (.ref (as.getD i 0)) ∧ ex x = .ref (as.getD i 0)
  len : as.length = 13
  hB : mg "BoxError" = some (.ref B)
  ok : ∀ i, i < 13 → errB K as B i = true
/-- what _law_names promises, handed the exception that is handled -/
structure NmFn (P : Program) (w : World) (K : PySem.W.Frag) (mg : Str → Option Value) (base : Heap) (k : Nat) (as : List Addr) : Prop where
  ex : ∃ f fd, mg "_law_names" = some (.ref f) ∧ PySem.W.keepIn K (.ref f) = true ∧ Binds K fd ["e"] [] ∧ ∀ i, i < 13 → FnE P w K mg base (L2N.CX P w) k f fd ["e"] (as.getD i 0) fun H Q _ => ∀ H', Same H H' → Q (.str (errNm i)) H'
theorem wd_nil {K : PySem.W.Frag} {H : Hp} : Wd K (fun _ => False) (fun _ => none) H := ⟨fun _ _ z => (by cases z), fun _ z => z.elim⟩
section
variable {P : Program} {w : World} {K : PySem.W.Frag} {mg : Str → Option Value} {base : Heap} {ex : Str → Value} {as : List Addr} {B : Addr} {N : List Str} {st : Stmt} {k : Nat}
theorem nm_here {wb : Nat → Addr → DTS} (T : Here K mg "_law_names" ["e"] st) (S : FnScope N ["e"] (defScope st)) (X : Errs K mg ex as B)
    (body : ∀ (i : Nat) (f : Addr) (cdv : Value) (A : Around) (outer : List Env) (s : Shared) (H : Hp) (E : XK) (p : Addr × Obj), i < 13 → ExcC K (as.getD i 0) → Zc (.ref (as.getD i 0)) none p.2 → (∀ j, j < 13 → PySem.W.kitOne K (.ref (as.getD i 0)) (.ref (as.getD j 0)) = some (j == i)) → PySem.W.kitOne K (.ref (as.getD i 0)) (.type "ValueError") = some true →
      DXH (cxH (L2N.CX P w) P w K mg base N "_law_names" (defScope st) f cdv A outer s H E p) p → DSs (cxH (L2N.CX P w) P w K mg base N "_law_names" (defScope st) f cdv A outer s H E p) E (defBody st) (wb i p.1))
    (rd : ∀ (i : Nat) (a : Addr), i < 13 → wb i a { nx := fun _ _ => False, rt := fun d _ => d = .str (errNm i) } ⟨startD N [.ref a], fun _ _ => False⟩ fun _ => none) : NmFn P w K mg base (k + 1) as := by
  obtain ⟨f, fd, F, hm, hb⟩ := T
  refine ⟨f, fd, hm, F.kp, hb, fun i hi => ?_⟩
  obtain ⟨oc, od, kV, doc, pm, an, cdv, ct, osl, rfl, lk, hcd⟩ := F.ex
  obtain ⟨e1, e2, e3, e4⟩ := errB_c (X.ok i hi)
  refine fnE_of lk hcd S rfl fun A outer s H Q E p hot hz hr hsp => ?_
  have hX : DXH (cxH (L2N.CX P w) P w K mg base N "_law_names" (defScope st) f cdv A outer s H E p) p := ⟨S.nd, List.mem_singleton.mpr rfl, hot⟩
  refine ⟨_, body i f cdv A outer s H E p hi e1 hz (fun j hj => e2 j _ ?_) e3 hX, fun _ => False, ⟨startD N [.ref p.1], fun _ _ => False⟩, fun _ => none, { nx := fun _ _ => False, rt := fun d _ => d = .str (errNm i) }, ⟨start_rep (.cons (.ref p.1) .nil), wd_nil⟩,
    fun _ _ _ _ _ _ z => (xok_no z).elim, ⟨fun _ _ _ _ _ _ _ z => z.elim, fun v H' d M' r _ e q => ?_, fun _ _ _ _ _ _ _ z => z.elim, fun _ _ _ _ _ _ _ z => z.elim⟩, rd i p.1 hi⟩
  · have : j < as.length := by rw [X.len]; exact hj
    rw [List.getD_eq_getElem?_getD, List.getElem?_eq_getElem this]; rfl
  · subst q; cases r
    exact hsp H' fun a o q => e.keep a o q (.inr rfl)
end
/-- try: .. except BoxError as e: return _law_names(e) -/
def xTry (as : List Addr) (R : Str → Mem → Prop) : Value → Mem → Prop := fun c M => ∃ i, i < 13 ∧ c = .ref (as.getD i 0) ∧ R (errNm i) M
def exTry (ex : Str → Value) (R : Str → Mem → Prop) : Value → Mem → Prop := fun c M => ∃ i x, i < 13 ∧ errXs[i]? = some x ∧ c = ex x ∧ R (errNm i) M
def wTryW (ex : Str → Value) (R : DEnds → Str → Mem → Prop) (wb : DTS) : DTS := fun D δ M =>
  wb { nx := fun δ' M' => D.nx ⟨δ'.s, δ.x⟩ M', rt := D.rt, bk := fun δ' M' => D.bk ⟨δ'.s, δ.x⟩ M', ct := fun δ' M' => D.ct ⟨δ'.s, δ.x⟩ M' } ⟨δ.s, exTry ex (R D)⟩ M
section
variable {X : Cx} {E : XK} {k kn : Nat} {ex : Str → Value} {as : List Addr} {B : Addr} {body : List Stmt} {wb : DTS} {np p1 p2 p3 p4 p5 pos : Pos} {b₀ : Stmt}
/-- what the suite must do: R of the name -/
def SuiteOk (X : Cx) (as : List Addr) (i : Nat) (b₀ : Stmt) (R : DEnds → Str → Mem → Prop) : Prop := ∀ (a : Addr) (oe : Obj) (cls : Value) (d : Option Addr) (pn : List (Addr × Obj)), L2N.Zn cls d oe → (∃ vs, oe.data = .fields vs) →
  PSs (X.suite a ((a, oe) :: pn)) [b₀] fun Dh σ H => σ[i]? = some (some (.ref a)) ∧ d = none ∧ ∃ j, j < 13 ∧ cls = .ref (as.getD j 0) ∧ ∃ F M Dd, Wd X.K F M H ∧ R Dd (errNm j) M ∧
    ∀ v H' d M', Rep X.K (Bar F M') H' v d → Wd X.K F M' H' → Ext F M H M' H' → Dd.rt d M' → Dh.rt v H'
theorem ds_tryW {R : DEnds → Str → Mem → Prop} (hX : DX X E k) (i : Nat) (Er : Errs X.K X.mg ex as B) (hsu : SuiteOk X as i b₀ R)
    (hb : ∀ (pn : List (Addr × Obj)) (xe : Value → Shared → Prop) (E1 : XK), DX (X.tr pn xe) E1 k → DSs (X.tr pn xe) E1 body wb)
    (hs : X.stack = X.env :: X.outer := by rfl) (hf : X.env.frame = some X.env.locals := by rfl) (hi : X.N[i]? = some ("e" : Str) := by rfl) (hln : X.env.kindOf "e" = some .local := by rfl) (hg : Gl X "BoxError" := by rfl) :
    DS X E (.Try body [.ExceptHandler (some (.Name "BoxError" np)) (some "e") [b₀] p5] [] [] pos) (wTryW ex R wb) := by
  have hil : i < X.N.length := (List.getElem?_eq_some_iff.mp hi).1
  refine ps_mono (L2N.ps_try_as (Wout := fun cls d _ H => E cls d H) (tb := fun W => liftS X.K (fun cls d H => ∀ σ : L2.St, σ.length = X.N.length → W cls d σ H) wb) hs hf hX.nd hi hln ⟨hg, by decide, .inl Er.hB⟩ hX.tk (fun W pn xe tk po => ?_) hsu) fun Dh σ H ⟨F, δ, M, Dd, sm, lx, ld, hw⟩ => ?_
  · have tk1 : L2N.Takes (X.tr pn xe) fun cls d _ H => ∀ σ : L2.St, σ.length = X.N.length → W cls d σ H := fun u s' ⟨a, B, sI, pins, σ, H, cls, d, e, I, nb, up, sky, na, os, ag, w⟩ => tk u s' ⟨a, B, sI, pins, σ, H, cls, d, e, I, nb, up, sky, na, os, ag, w σ I.len⟩
    exact hb pn xe _ ⟨hX.calm, po, L2N.passes_call tk1 fun _ _ _ _ z => z, tk1, hX.nd, hX.room⟩
  · refine ⟨F, ⟨δ.s, exTry ex (R Dd)⟩, M, { nx := fun δ' M' => Dd.nx ⟨δ'.s, δ.x⟩ M', rt := Dd.rt, bk := fun δ' M' => Dd.bk ⟨δ'.s, δ.x⟩ M', ct := fun δ' M' => Dd.ct ⟨δ'.s, δ.x⟩ M' }, sm, fun cls dd H' M' w' e' q => ?_, ⟨fun σ' H' δ' M' sm' e' ex' q => ld.nx σ' H' ⟨δ'.s, δ.x⟩ M' sm' e' rfl q, ld.rt, fun σ' H' δ' M' sm' e' ex' q => ld.bk σ' H' ⟨δ'.s, δ.x⟩ M' sm' e' rfl q, fun σ' H' δ' M' sm' e' ex' q => ld.ct σ' H' ⟨δ'.s, δ.x⟩ M' sm' e' rfl q⟩, hw⟩
    intro σ' hl
    rcases q with ⟨hd, j, x, hj, hx, hc, hR⟩ | ⟨C, d, fs, hC, hd, hfs, j, x, hj, hx, hc, hR⟩
    · have hc : cls = .ref (as.getD j 0) := hc.trans (Er.at_ j x hx).2
      obtain ⟨_, _, _, hexm⟩ := errB_c (Er.ok j hj)
      refine ⟨true, by rw [hc]; exact hexm, fun _ a na => ⟨by rw [List.getElem?_set_self (by rw [hl]; exact hil)], hd, j, hj, hc, F, M', Dd, w', hR, fun v H2 d M2 r w e q => ld.rt v H2 d M2 r w (Ext.trans w' e' e) q⟩, fun z => nomatch z⟩
    · have := hc.symm.trans rfl
      rw [(Er.at_ j x hx).2] at hc
      cases hc
/-- _law_names(e) in the suite -/
def tNm (as : List Addr) (i : Nat) (a : Addr) (cls : Value) (d : Option Addr) : TE := fun σ H Q => σ[i]? = some (some (.ref a)) ∧ d = none ∧ ∃ j, j < 13 ∧ cls = .ref (as.getD j 0) ∧ ∀ H', Same H H' → Q (.str (errNm j)) H'
theorem pe_nm {a : Addr} {oe : Obj} {cls : Value} {d : Option Addr} {pn : List (Addr × Obj)} (hX : DX X E k) (i : Nat) (nm : NmFn X.prog X.w X.K X.mg X.base kn as) (hz : L2N.Zn cls d oe) (hfl : ∃ vs, oe.data = .fields vs) (hk : kn ≤ k) (hi : X.N[i]? = some ("e" : Str)) (hln : X.env.kindOf "e" = some .local) (hg : Gl X "_law_names")
    (hst : starEach [.Name "e" p2] X.env = (false, eval (.Name "e" p2) X.env) :: starEach [] X.env := by rfl) (hpl : (backTo p3 (starEach [] X.env)).any (·.1) = false := by rfl) :
    PE (X.suite a ((a, oe) :: pn)) (.Call (.Name "_law_names" p1) [.Name "e" p2] [] p3) (tNm as i a cls d) := by
  obtain ⟨f, fd, hm, hkp, hbn, hF⟩ := nm.ex
  refine ⟨fun pins s σ H Q I ⟨hs, hd, j, hj, hc, h⟩ => ?_⟩
  have hgY : Gl (X.suite a ((a, oe) :: pn)) "_law_names" := hg
  refine wpAny_Call_Name_kw (ld_glob I hgY hm ?_ (by decide))
  have hpv : PE (X.suite a ((a, oe) :: pn)) (.Name "e" p2) (tVar i) := pv i hi (.inl hln) (by decide) (by decide)
  have hpa := pa_cons hpv (pa_nil (X := X.suite a ((a, oe) :: pn))) hst
  refine PySem.W.callWith_K (first := []) (h₀ := X.base) I.ok.mod.kin hkp (thn (hpa.run p3 pins s σ H (fun vs H1 => vs = [.ref a] ∧ H1 = H) I ⟨.ref a, hs, rfl, rfl⟩) fun us s1 ⟨vs, H1, I1, r, ev, eH⟩ => ⟨I1.kIn, ?_⟩) hst hpl
  subst ev
  subst eH
  cases r with
  | cons ru rr =>
    cases rr
    cases ru
    obtain ⟨vs0, hv0⟩ := hfl
    subst hd
    subst hc
    exact run_fnE (X := X.suite a ((a, oe) :: pn)) (p := (a, oe)) (E := fun _ _ _ _ => False) (hF j hj) ⟨(roomH_of (hX.room.mono hk)).dp, (roomH_of (hX.room.mono hk)).un⟩ ⟨rfl, vs0, hv0, hz.2.2 vs0 hv0⟩ hz.zc List.mem_cons_self hbn (fun pins H s e s' I c => by
      obtain ⟨_, _, _, _, _, _, _, _, _, _, _, _, z⟩ := c
      exact z.elim) I1 h
/-- return _law_names(e) -/
theorem suite_nm (hX : DX X E k) (i : Nat) (nm : NmFn X.prog X.w X.K X.mg X.base kn as) (hk : kn ≤ k := by decide) (hi : X.N[i]? = some ("e" : Str) := by rfl) (hln : X.env.kindOf "e" = some .local := by rfl) (hg : Gl X "_law_names" := by rfl)
    (hst : starEach [.Name "e" p2] X.env = (false, eval (.Name "e" p2) X.env) :: starEach [] X.env := by rfl) (hpl : (backTo p3 (starEach [] X.env)).any (·.1) = false := by rfl) :
    SuiteOk X as i (.Return (some (.Call (.Name "_law_names" p1) [.Name "e" p2] [] p3)) p4) fun D s M => D.rt (.str s) M := by
  intro a oe cls d pn hz hfl
  refine pss_mono (pss_one (ps_ret (pe_nm hX i nm hz hfl hk hi hln hg hst hpl))) fun Dh σ H ⟨hs, hd, j, hj, hc, F, M, Dd, w, q, lk⟩ => ?_
  refine ⟨hs, hd, j, hj, hc, fun H' hS => ?_⟩
  obtain ⟨w', e'⟩ := w.same hS
  exact lk _ H' _ M (.str _) w' e' q
/-- return (None, _law_names(e)) -/
theorem suite_nm2 {x1} {p6 p7 : Pos} {j : Nat} (hX : DX X E k) (i : Nat) (nm : NmFn X.prog X.w X.K X.mg X.base kn as) (hk : kn ≤ k := by decide) (hi : X.N[i]? = some ("e" : Str) := by rfl) (hln : X.env.kindOf "e" = some .local := by rfl) (hg : Gl X "_law_names" := by rfl)
    (hst : starEach [.Name "e" p2] X.env = (false, eval (.Name "e" p2) X.env) :: starEach [] X.env := by rfl) (hpl : (backTo p3 (starEach [] X.env)).any (·.1) = false := by rfl)
    (hs1 : starEach [.Constant .none j p6, .Call (.Name "_law_names" p1) [.Name "e" p2] [] p3] X.env = (false, eval (.Constant .none j p6) X.env) :: starEach [.Call (.Name "_law_names" p1) [.Name "e" p2] [] p3] X.env := by rfl)
    (hs2 : starEach [.Call (.Name "_law_names" p1) [.Name "e" p2] [] p3] X.env = (false, eval (.Call (.Name "_law_names" p1) [.Name "e" p2] [] p3) X.env) :: starEach [] X.env := by rfl) :
    SuiteOk X as i (.Return (some (.Tuple [.Constant .none j p6, .Call (.Name "_law_names" p1) [.Name "e" p2] [] p3] x1 p7)) p4) fun D s M => D.rt (.tup [.non, .str s]) M := by
  intro a oe cls d pn hz hfl
  refine pss_mono (pss_one (ps_ret (pe_tup (pa_cons pe_non (pa_cons (pe_nm hX i nm hz hfl hk hi hln hg hst hpl) pa_nil hs2) hs1)))) fun Dh σ H ⟨hs, hd, j, hj, hc, F, M, Dd, w, q, lk⟩ => ?_
  refine ⟨hs, hd, j, hj, hc, fun H' hS => ⟨by show 2 ≤ sizeLine; decide, fun p hp => ?_⟩⟩
  obtain ⟨w', e'⟩ := w.same hS
  exact lk _ _ _ M (.newTup w' hp (.cons .non (.cons (.str _) .nil))) (w'.laid hp) (Ext.trans w' e' (ext_laid hp)) q
end
end Bx

set_option Elab.async false
set_option linter.all false
set_option maxRecDepth 100000
set_option maxHeartbeats 4000000
namespace Bx
open PySem PySem.Spec L2
open PyProof.Rows hiding St
/-! ### defs that make lambdas -/
/-- the def named x has the code object c -/
def CodeAt (K : PySem.W.Frag) (mg : Str → Option Value) (x : Str) (c : Addr) : Prop := ∀ f o gd, mg x = some (.ref f) → K.lookup f = some o → o.data = .func gd → gd.code = .ref c
theorem fn_coreC {P : Program} {w : World} {K : PySem.W.Frag} {mg : Str → Option Value} {base : Heap} {k n : Nat} {x : Str} {spec : DSpec} {st : Stmt} {f c : Addr} {fd : FuncData} {N ps : List Str} {wb : DTS} (F : Fun K x x st f fd) (hm : mg x = some (.ref f)) (C : CodeAt K mg x c) (S : FnScope N ps (defScope st)) 
    (body : ∀ (cdv : Value) (A : Around) (outer : List Env) (s : Shared) (H : Hp) (E : XK), cdv = .ref c → DX (cxOf (L2N.CX P w) P w K mg base N x (defScope st) f cdv A outer s H E) E k → DSs (cxOf (L2N.CX P w) P w K mg base N x (defScope st) f cdv A outer s H E) E (defBody st) wb)
    (rd : ∀ ds M Q Ed, ds.length = n → spec ds M Q Ed → wb { nx := fun _ M' => Q .non M', rt := Q } ⟨startD N ds, Ed⟩ M) (hl : ps.length = n := by rfl) : FnOk P w K mg base (L2N.CX P w) (k + 1) f fd ps (DSp K n spec) := by
  refine Fun_okN F S (fun vs H Q E ⟨_, _, ds, _, _, hn, ra, _⟩ => by rw [ra.length, hn, hl]) (fun cdv A outer s H vs Q E ⟨o, ho, gd, hgd, hgc⟩ hr ⟨F1, M, ds, Qd, Ed, hn, ra, wd, lx, hs, lk⟩ => ?_)
  have hc : cdv = .ref c := hgc.symm.trans (C f o gd hm ho hgd)
  have tk : L2N.Takes (cxOf (L2N.CX P w) P w K mg base N x (defScope st) f cdv A outer s H E) fun cls d _ H => E cls d H := L2N.takes_of rfl rfl rfl rfl
  have hX : DX (cxOf (L2N.CX P w) P w K mg base N x (defScope st) f cdv A outer s H E) E k := ⟨rfl, passes_of rfl, L2N.passes_call tk fun _ _ _ _ z => z, tk, S.nd, hr⟩
  refine ⟨_, body cdv A outer s H E hc hX, F1, ⟨startD N ds, Ed⟩, M, { nx := fun _ M' => Qd .non M', rt := Qd }, ⟨start_rep ra, wd⟩, lx, ⟨fun σ' H' δ' M' sm e _ q => ?_, fun v H' d M' r w e q => lk v H' d M' r w e q, fun _ _ _ _ _ _ _ z => z.elim, fun _ _ _ _ _ _ _ z => z.elim⟩, rd ds M Qd Ed hn hs⟩
  exact lk .non H' .non M' .non sm.wd e q
theorem DFn.hereC {P : Program} {w : World} {K : PySem.W.Frag} {mg : Str → Option Value} {base : Heap} {k n : Nat} {x : Str} {c : Addr} {spec : DSpec} {st : Stmt} {N ps : List Str} {wb : DTS} (T : Here K mg x ps st) (C : CodeAt K mg x c) (S : FnScope N ps (defScope st))
    (body : ∀ (f : Addr) (cdv : Value) (A : Around) (outer : List Env) (s : Shared) (H : Hp) (E : XK), cdv = .ref c → DX (cxOf (L2N.CX P w) P w K mg base N x (defScope st) f cdv A outer s H E) E k → DSs (cxOf (L2N.CX P w) P w K mg base N x (defScope st) f cdv A outer s H E) E (defBody st) wb)
    (rd : ∀ ds M Q Ed, ds.length = n → spec ds M Q Ed → wb { nx := fun _ M' => Q .non M', rt := Q } ⟨startD N ds, Ed⟩ M) (hl : ps.length = n := by rfl) : DFn P w K mg base (k + 1) x n spec := by
  obtain ⟨f, fd, F, hm, hb⟩ := T
  exact ⟨f, fd, ps, hl, fn_coreC F hm C S (body f) rd hl, hm, F.kp, hb⟩
/-- one function and its promise -/
def One (f : Addr) (sp : DSpec) : Addr → DSpec → Prop := fun g s => g = f ∧ s = sp
theorem One.v {P : Program} {w : World} {K : PySem.W.Frag} {mg : Str → Option Value} {base : Heap} {k n : Nat} {f : Addr} {sp : DSpec} (h : FnV P w K mg base k n f sp) : ∀ g s, One f sp g s → FnV P w K mg base k n g s := fun g s ⟨e1, e2⟩ => by rw [e1, e2]; exact h
/-! ### _law_error, _law_told, _law_all_refused -/
def G_error (K : PySem.W.Frag) (ex : Str → Value) (f : Addr) (sp : DSpec) : DSpec := fun ds M Q _ => ds = [.ref f] ∧ Lv K f M ∧ sp [] M (fun _ M' => Q (.str "") M') (exTry ex fun s M' => Q (.str s) M')
def w_error (K : PySem.W.Frag) (ex : Str → Value) (f : Addr) (sp : DSpec) : DTS := wSeq (wTryW ex (fun D s M => D.rt (.str s) M) (wDrop (wCallV0 K (One f sp) 0))) (wRet (wC (.str "")))
theorem rd_error {K : PySem.W.Frag} {ex : Str → Value} {f : Addr} {sp : DSpec} : ∀ ds M Q Ed, ds.length = 1 → G_error K ex f sp ds M Q Ed → w_error K ex f sp { nx := fun _ M' => Q .non M', rt := Q } ⟨startD ["call", "e"] ds, Ed⟩ M := fun ds M Q Ed _ ⟨hd, hl, hs⟩ => by
  subst hd
  exact ⟨f, sp, ⟨rfl, rfl⟩, rfl, hl, hs⟩
def G_told (K : PySem.W.Frag) (ex : Str → Value) (f : Addr) (sp : DSpec) : DSpec := fun ds M Q _ => ds = [.ref f] ∧ Lv K f M ∧ sp [] M (fun d M' => 2 ≤ sizeLine ∧ Q (.tup [d, .str ""]) M') (exTry ex fun s M' => Q (.tup [.non, .str s]) M')
def w_told (K : PySem.W.Frag) (ex : Str → Value) (f : Addr) (sp : DSpec) : DTS := wTryW ex (fun D s M => D.rt (.tup [.non, .str s]) M) (wRet (wTup (wCons (wCallV0 K (One f sp) 0) (wCons (wC (.str "")) wNil))))
theorem rd_told {K : PySem.W.Frag} {ex : Str → Value} {f : Addr} {sp : DSpec} : ∀ ds M Q Ed, ds.length = 1 → G_told K ex f sp ds M Q Ed → w_told K ex f sp { nx := fun _ M' => Q .non M', rt := Q } ⟨startD ["call", "e"] ds, Ed⟩ M := fun ds M Q Ed _ ⟨hd, hl, hs⟩ => by
  subst hd
  exact ⟨f, sp, ⟨rfl, rfl⟩, rfl, hl, hs⟩
/-- all odds are refused with the error of this name -/
def G_all (K : PySem.W.Frag) (ex : Str → Value) (P : Addr) (nmF : Nat → Nat → Str) (f : Addr) (sp : DSpec) : DSpec := fun ds M Q _ => ∃ odds os nm, ds = [.ref f, odds, .str nm] ∧ sqI odds = some os ∧ os.length ≤ 1000 ∧ PyData.strOk nm = true ∧ Lv K f M ∧ M P = some (.tab nmF) ∧
  (∀ o ∈ os, ∀ g κ s Q' Ed', M g = none → (∀ j x, j < 13 → errXs[j]? = some x → errNm j = nm → Ed' (ex x) (updM M g (.clo κ s))) → sp [o] (updM M g (.clo κ s)) Q' Ed') ∧ Q (.bl true) M
def w_all (K : PySem.W.Frag) (ex : Str → Value) (P : Addr) (nmF : Nat → Nat → Str) (f : Addr) (sp : DSpec) : DTS :=
  wRet (wOp wEqV (wLc (wSeqI (wVar 1)) (.nm 3) (wTest (wOp wNeV (wCallL P nmF 1 (G_error K ex) [0, 3] (wCallV K (One f sp) 0 1 (wCons (wVar 1) wNil)) wNil) (wVar 2))) (wVar 3) [3]) (wLst wNil))
theorem lv_upd {K : PySem.W.Frag} {f g : Addr} {M : Mem} {o : MO} (h : Lv K f M) (n : M g = none) : Lv K f (updM M g o) := by
  rcases h with h | ⟨κ, s, h⟩
  · exact .inl h
  · refine .inr ⟨κ, s, ?_⟩
    rw [updM_ne (fun e => by subst e; rw [n] at h; cases h)]; exact h
theorem rd_all {K : PySem.W.Frag} {ex : Str → Value} {P : Addr} {nmF : Nat → Nat → Str} {f : Addr} {sp : DSpec} :
    ∀ ds M Q Ed, ds.length = 3 → G_all K ex P nmF f sp ds M Q Ed → w_all K ex P nmF f sp { nx := fun _ M' => Q .non M', rt := Q } ⟨startD ["call", "odds", "name", "odd"] ds, Ed⟩ M := fun ds M Q Ed _ ⟨odds, os, nm, hd, ho, hlen, hnm, hl, hP, hs, hq⟩ => by
  subst hd
  show match sqI odds with | some es => LcGoal es _ (.nm 3) _ _ [3] _ M | none => False
  rw [ho]
  refine ⟨Nat.le_trans hlen (by decide), fun _ acc M' => acc = [] ∧ M' = M, ⟨rfl, rfl⟩, fun i d acc M' hd ⟨ha, hM⟩ => ?_, fun acc M' _ ⟨ha, hM⟩ => ?_⟩
  · subst ha; subst hM
    refine ⟨hP, fun g κ hg => ⟨updM_same, rfl, rfl, .inr ⟨κ, _, updM_same⟩, updM_same, f, sp, ⟨rfl, rfl⟩, rfl, lv_upd hl hg, lv_upd hl hg, rfl, ?_⟩⟩
    refine hs d (List.mem_of_getElem? hd) g κ _ _ _ hg fun j x hj hx ht => ⟨j, x, hj, hx, rfl, ?_⟩
    rw [ht]
    refine fun M3 e3 => ?_
    cases e3.trans (delM_updM hg)
    have fitS : D.fit 64 (.str nm) = true := by simpa [D.fit] using hnm
    refine ⟨⟨fitS, fitS⟩, ?_⟩
    have : D.eqv (.str nm) (.str nm) = true := by simp [D.eqv]
    rw [this]
    exact ⟨rfl, rfl⟩
  · subst ha; subst hM
    exact ⟨by decide, ⟨by decide, by decide⟩, hq⟩
end Bx

set_option Elab.async false
set_option linter.all false
set_option maxRecDepth 100000
set_option maxHeartbeats 4000000
namespace Bx
open PySem PySem.Spec L2 LamX
open PyProof.Rows hiding St
/-! ### the end of a law whose defs make lambdas -/
/-- the tables at Ps stand in the memory -/
def TM (Ps : List Addr) (nm : Nat → Nat → Str) (M : Mem) : Prop := ∀ P ∈ Ps, M P = some (.tab nm)
theorem TM.new {Ps : List Addr} {nm : Nat → Nat → Str} {M : Mem} {p : Addr} {o : MO} (t : TM Ps nm M) (n : M p = none) : TM Ps nm (updM M p o) := fun P h => by
  rw [updM_ne (fun e => by subst e; rw [t _ h] at n; cases n)]; exact t P h
theorem TM.ex {Ps : List Addr} {nm : Nat → Nat → Str} {M M' : Mem} {p : Addr} (t : TM Ps nm M) (v : VatAt M p) (e : VatEx M M' p) : TM Ps nm M' := fun P h => by
  rw [e.2 P (fun q => by subst q; obtain ⟨a, b, z⟩ := v; rw [t _ h] at z; cases z)]; exact t P h
def spLawT (Ps : List Addr) (nm : Nat → Nat → Str) : DSpec := fun ds M Q _ => ∃ ns : List Int, ds = [.fro (ns.map D.int)] ∧ ns.length ≤ 63 ∧ TM Ps nm M ∧ ∀ M', Q (.bl true) M'
/-- what the top says of the tables -/
def TabsAt (p : Program) (mg : Str → Option Value) (h : Heap) : Prop := ∀ d ∈ recsOf p, ∃ a o fd c P, mg d.name = some (.ref a) ∧ h.get? a = some o ∧ o.data = .func fd ∧ fd.code = .ref c ∧ h.IsCode c P #[] ∧ h.TableAt c P #[]
/-- the def x has the code object c, its table lies at P, empty -/
structure TabOf (K : PySem.W.Frag) (mg : Str → Option Value) (h : Heap) (x : Str) (c P : Addr) : Prop where
  code : CodeAt K mg x c
  get : h.get? P = some { cls := .none, data := .fields #[] }
  out : K.lookup P = none
  hd : PySem.W.CodeHd h c P
theorem tab_mk {p : Program} {K : PySem.W.Frag} {h : Heap} {mg : Str → Option Value} {x : Str} {f c P : Addr} {oc oc2 : Value} {od od2 : Option Addr} {gd : FuncData} {osl osl2 : Array (Option Value)} {us : Array Value} (T : TabsAt p mg h) (X : K.In h) (G : h.Ns mainGlobals mg) (a : PySem.W.nsIn K mainGlobals x = some (some (.ref f)))
    (l : K.lookup f = some ⟨oc, od, .func gd, osl⟩) (hc : gd.code = .ref c) (lc : K.lookup c = some ⟨oc2, od2, .fields us, osl2⟩) (hp : us[11]? = some (.ref P)) (out : PySem.W.typeIn K (.ref P) = none) (hr : ((recsOf p).any fun d => d.name == x) = true) : TabOf K mg h x c P := by
  have hm := PySem.W.mg_of X G a
  obtain ⟨d, hd, hn⟩ := List.any_eq_true.mp hr
  have hn : d.name = x := beq_iff_eq.mp hn
  obtain ⟨a', o', fd', c', P', h1, h2, h3, h4, h5, h6⟩ := T d hd
  rw [hn, hm] at h1
  cases h1
  rw [X _ _ l] at h2
  cases h2
  cases h3
  rw [hc] at h4
  cases h4
  have hP : P' = P := by
    obtain ⟨⟨o, vs, g1, g2, g3, g4⟩, _⟩ := h6
    rw [X _ _ lc] at g1
    cases g1
    cases g3
    rw [hp] at g4
    exact (Value.ref.inj (Option.some.inj g4)).symm
  subst hP
  have out' : K.lookup P' = none := by
    cases e : K.lookup P' with
    | none => rfl
    | some o => simp [PySem.W.typeIn, e] at out
  refine ⟨fun g o gd' e1 e2 e3 => ?_, h6.2, out', PySem.W.CodeHd.of h5 h6⟩
  rw [hm] at e1
  cases e1
  rw [l] at e2
  cases e2
  cases e3
  exact hc
/-- one class says of another whether it is below it -/
structure ClsE (K : PySem.W.Frag) (C : Addr) : Prop where
  c : PySem.W.isClsIn K C = true
  t : PySem.W.typeIn K (.ref C) = some (.type "type")
  b : PySem.W.subIn K (.ref C) (.type "BaseException") = some true
structure ErrRow (K : PySem.W.Frag) (D : Addr) : Prop where
  g : PySem.W.findIn K (.ref D) "__getattribute__" = some (some (.builtin "BaseException.__getattribute__"))
  k : PySem.W.findIn K (.ref D) "__getattr__" = some none
  d : PySem.W.hasDictIn K D = true
  a : PySem.W.findIn K (.ref D) "__class__" = some (some (.builtin "object.__class__"))
  m : PySem.W.mroIn K D (.type "object") = some true
  v : PySem.W.subIn K (.ref D) (.type "ValueError") = some true
/-- all pairs -/
def Subs (K : PySem.W.Frag) (D : Addr) (i : Nat) : Nat → List Addr → Prop
  | _, [] => True
  | j, C :: r => PySem.W.subIn K (.ref D) (.ref C) = some (j == i) ∧ Subs K D i (j + 1) r
def Rows (K : PySem.W.Frag) (as : List Addr) (B : Addr) : Nat → List Addr → Prop
  | _, [] => True
  | i, D :: r => (ClsE K D ∧ ErrRow K D ∧ PySem.W.subIn K (.ref D) (.ref B) = some true ∧ Subs K D i 0 as) ∧ Rows K as B (i + 1) r
theorem subs_get {K : PySem.W.Frag} {D : Addr} {i : Nat} : ∀ {as : List Addr} {n : Nat}, Subs K D i n as → ∀ j a, as[j]? = some a → PySem.W.subIn K (.ref D) (.ref a) = some (n + j == i)
  | [], _, _, _, _, e => by simp at e
  | C :: r, n, ⟨h, t⟩, 0, a, e => by simp at e; subst e; simpa using h
  | C :: r, n, ⟨h, t⟩, j + 1, a, e => by
    have := subs_get t j a (by simpa using e)
    rw [this]
    congr 2
    omega
theorem rows_get {K : PySem.W.Frag} {as : List Addr} {B : Addr} : ∀ {l : List Addr} {n : Nat}, Rows K as B n l → ∀ i a, l[i]? = some a → ClsE K a ∧ ErrRow K a ∧ PySem.W.subIn K (.ref a) (.ref B) = some true ∧ Subs K a (n + i) 0 as
  | [], _, _, _, _, e => by simp at e
  | D :: r, n, ⟨h, t⟩, 0, a, e => by simp at e; subst e; simpa using h
  | D :: r, n, ⟨h, t⟩, i + 1, a, e => by
    have := rows_get t i a (by simpa using e)
    rw [show n + (i + 1) = n + 1 + i by omega]
    exact this
theorem kitOne_of {K : PySem.W.Frag} {D C : Addr} {b : Bool} (c : ClsE K C) (h : PySem.W.subIn K (.ref D) (.ref C) = some b) (hd : D = C → b = true) : PySem.W.kitOne K (.ref D) (.ref C) = some b := by
  unfold PySem.W.kitOne
  by_cases e : D = C
  · subst e
    rw [hd rfl]
    simp
  · have : ((Value.ref D == Value.ref C) = true) = False := by simp [e]
    rw [if_neg (by rw [this]; exact id)]
    have hc := c.c
    unfold PySem.W.isClsIn at hc
    show (if ((PySem.W.clsIn K C).isSome && PySem.W.typeIn K (.ref C) == some (.type "type")) = true then PySem.W.subIn K (.ref D) (.ref C) else none) = some b
    rw [if_pos (by rw [hc, c.t]; rfl)]
    exact h
theorem errs_mk {K : PySem.W.Frag} {h : Heap} {mg : Str → Option Value} {as : List Addr} {B : Addr} (X : K.In h) (G : h.Ns mainGlobals mg) (ns : ∀ i x, errXs[i]? = some x → PySem.W.nsIn K mainGlobals x = some (some (.ref (as.getD i 0)))) (hB : PySem.W.nsIn K mainGlobals "BoxError" = some (some (.ref B))) (cB : ClsE K B) (dB : PySem.W.hasDictIn K B = true)
    (hn : PySem.W.specialIn K (.builtin "object.__class__") "__get__" = some (some (.builtin "getset_descriptor.__get__"))) (ht : PySem.W.takesIn K (.builtin "object.__class__") = some true) (R : Rows K as B 0 as) (hl : as.length = 13) (nd : as.Nodup) : Errs K mg (exOf mg) as B := by
  refine ⟨fun i x e => ?_, hl, PySem.W.mg_of X G hB, fun i hi => ?_⟩
  · have m := PySem.W.mg_of X G (ns i x e)
    exact ⟨m, by unfold exOf; rw [m]; rfl⟩
  · have hi' : i < as.length := by rw [hl]; exact hi
    have eD : as.getD i 0 = as[i] := by rw [List.getD_eq_getElem?_getD, List.getElem?_eq_getElem hi']; rfl
    obtain ⟨c, r, sB, ss⟩ := rows_get R i as[i] (List.getElem?_eq_getElem hi')
    unfold errB
    rw [eD]
    have e1 : (as.zipIdx.all fun q => PySem.W.kitOne K (.ref as[i]) (.ref q.1) == some (q.2 == i)) = true := by
      rw [List.all_eq_true]
      intro q hq
      have hq := List.mem_zipIdx_iff_getElem?.mp hq
      have s := subs_get ss q.2 q.1 hq
      obtain ⟨cq, _⟩ := rows_get R q.2 q.1 hq
      rw [Nat.zero_add] at s
      rw [Nat.zero_add] at s
      rw [beq_iff_eq]
      refine kitOne_of cq s fun e => ?_
      have hl2 := (List.getElem?_eq_some_iff.mp hq).1
      have eq : as[i] = as[q.2] := e.trans ((List.getElem?_eq_some_iff.mp hq).2).symm
      have key := List.pairwise_iff_getElem.mp nd
      rcases Nat.lt_trichotomy i q.2 with z | z | z
      · exact absurd eq (key i q.2 hi' hl2 z)
      · rw [z]; simp
      · exact absurd eq.symm (key q.2 i hl2 hi' z)
    have e2 : PySem.W.kitOne K (.ref as[i]) (.type "ValueError") = some true := by
      unfold PySem.W.kitOne
      rw [if_neg (by simp)]
      show (if PySem.W.kitMeta "ValueError" = true then PySem.W.subIn K (.ref as[i]) (.type "ValueError") else none) = some true
      rw [if_pos (by decide +kernel)]
      exact r.v
    have e3 : PySem.W.exmOne K (.ref as[i]) (.ref B) = some true := PySem.W.exm_ref cB.b dB cB.t sB
    simp only [r.g, r.k, c.b, r.d, r.a, hn, ht, r.m, e1, e2, e3, beq_self_eq_true, Bool.and_self]
theorem ns13 {K : PySem.W.Frag} {a0 a1 a2 a3 a4 a5 a6 a7 a8 a9 a10 a11 a12 : Addr} (n0 : PySem.W.nsIn K mainGlobals "InvalidClause" = some (some (.ref a0))) (n1 : PySem.W.nsIn K mainGlobals "InvalidBox" = some (some (.ref a1))) (n2 : PySem.W.nsIn K mainGlobals "InvalidBoxes" = some (some (.ref a2))) (n3 : PySem.W.nsIn K mainGlobals "InvalidDay" = some (some (.ref a3))) (n4 : PySem.W.nsIn K mainGlobals "InvalidStrikes" = some (some (.ref a4))) (n5 : PySem.W.nsIn K mainGlobals "InvalidNumber" = some (some (.ref a5))) (n6 : PySem.W.nsIn K mainGlobals "InvalidNotes" = some (some (.ref a6))) (n7 : PySem.W.nsIn K mainGlobals "InvalidTruth" = some (some (.ref a7))) (n8 : PySem.W.nsIn K mainGlobals "InvalidText" = some (some (.ref a8))) (n9 : PySem.W.nsIn K mainGlobals "Shut" = some (some (.ref a9))) (n10 : PySem.W.nsIn K mainGlobals "Unlike" = some (some (.ref a10))) (n11 : PySem.W.nsIn K mainGlobals "NothingToUndo" = some (some (.ref a11))) (n12 : PySem.W.nsIn K mainGlobals "TooMany" = some (some (.ref a12))) :
    ∀ i x, errXs[i]? = some x → PySem.W.nsIn K mainGlobals x = some (some (.ref ([a0, a1, a2, a3, a4, a5, a6, a7, a8, a9, a10, a11, a12].getD i 0))) := fun i x e => by
  rcases i with _ | _ | _ | _ | _ | _ | _ | _ | _ | _ | _ | _ | _ | i
  all_goals first
    | (cases e; assumption)
    | (have e : ([] : List Str)[i]? = some x := e; cases e)
theorem law_callT {P : Program} {w : World} {K : PySem.W.Frag} {mg mb : Str → Option Value} {k : Nat} {fa a : Addr} {cs : List (Addr × Addr)} {nm : Nat → Nat → Str} {fd : FuncData} {x : Str} {s₁ : Shared} {vs : List Value} {ns : List Int}
    (KX : K.In s₁.heap) (hns : s₁.heap.Ns mainGlobals mg) (hb : s₁.heap.Ns builtinsNs mb) (hbb : ∀ x : Str, x ≠ "__name__" → mb x = bootBuiltins x) (hlim : s₁.heap.NoLimit) (hg : s₁.gens = #[])
    (hT : ∀ p ∈ cs, s₁.heap.get? p.2 = some { cls := .none, data := .fields #[] }) (nT : ∀ p ∈ cs, K.lookup p.2 = none) (C : ∀ p ∈ cs, PySem.W.CodeHd s₁.heap p.1 p.2)
    (hbm : ∃ (bm : Addr) (ob : Obj), mg "__builtins__" = some (.ref bm) ∧ bm ≠ builtinsNs ∧ s₁.heap.get? bm = some ob ∧ ob.cls = .type "module" ∧ ob.dict = some builtinsNs ∧ ob.data = .plain)
    (ha : s₁.heap.get? a = some { cls := .type "list", data := .seq vs.toArray }) (hi : IntsAre vs ns) (hl : ns.length ≤ 63) (hr : Room k callerA)
    (F : ∀ base : Heap, Mod K mg base → (∀ p ∈ cs, TabB base mg p.1 p.2) → FnOk P w K mg base (L2N.CX P w) k fa fd [x] (DSp K 1 (spLawT (cs.map (·.2)) nm))) (hbind : ∀ (s : Shared) (u : Value), BindsTo s fd ⟨[u], []⟩ [(x, u)]) :
    codeAny (model P w) callerA (.call (.ref fa) ⟨[.ref a], []⟩) (fun r s' => r = .ok (.ret (.bool true)) ∧ OldK s₁.heap s'.heap ∧ s'.os = s₁.os ∧ AllBare s'.gens) s₁ := by
  refine law_callTs (CX := L2N.CX P w) (sp := DSp K 1 (spLawT (cs.map (·.2)) nm)) KX hns hb hbb hlim hg hT nT C hbm ha hi (Nat.le_trans hl (by decide)) hr (fun base _ _ TB => ⟨fun vs H Q E ⟨_, _, ds, _, _, hn, ra, _⟩ => by rw [ra.length, hn]; rfl, fun A outer s H args us vs Q E hr e0 b r q => (F base e0.mod TB).run A outer s H args us vs Q E hr e0 b r q⟩) hbind (fun H hH hS => ?_) fun H e s' h => ?_
  · refine ⟨fun _ => False, fun b => if b ∈ cs.map (·.2) then some (.tab nm) else none, [.fro (ns.map D.int)], fun d _ => d = .bl true, fun _ _ => False, rfl, .cons (.fro ?_ (repAll_ints ns)) .nil, ⟨fun b m z => ?_, fun _ z => z.elim⟩, fun _ _ _ _ _ _ z => (xok_no z).elim, ⟨ns, rfl, hl, fun Q hQ => if_pos hQ, fun _ => rfl⟩, fun v H' d M' r _ _ q => ?_⟩
    · have nb : ¬ Bar (fun _ => False) (fun b => if b ∈ cs.map (·.2) then some (MO.tab nm) else none) a := by
        rintro (z | ⟨o, z⟩)
        · exact z
        · by_cases hm : a ∈ cs.map (·.2)
          · obtain ⟨p, hp, e⟩ := List.mem_map.mp hm
            have q := hT p hp
            rw [e, ha] at q
            have z' : Data.seq vs.toArray _ = Data.fields #[] := congrArg Obj.data (Option.some.inj q)
            cases z'
          · have z' := (if_neg hm).symm.trans z
            cases z'
      rcases hS with (hS | hS) | hS
      · exact .inl ⟨hS, nb⟩
      · exact .inr (.inl hS)
      · exact .inr (.inr hS)
    · by_cases hm : b ∈ cs.map (·.2)
      · have z' := (if_pos hm).symm.trans z
        cases z'
        obtain ⟨p, hp, e⟩ := List.mem_map.mp hm
        refine ⟨#[], by rw [← e]; exact hH p hp, True.intro, fun pos cv hc => ?_⟩
        have z : codeAmong pos [] = some cv := hc
        simp [codeAmong] at z
      · have z' := (if_neg hm).symm.trans z
        cases z'
    · subst q; cases r; rfl
  · obtain ⟨_, _, _, _, _, _, _, _, _, _, _, _, z⟩ := h
    exact z
theorem walk_ofTX {l : PySem.W.OpenLaw} {k : Nat} {q : Program} {loose : List Str} {XP : (Str → Option Value) → Heap → Prop} {YP : World → Heap → Prop} {d : DefRec} {K : Params → PySem.W.Frag} {x : Str}
    (hn : l.most = some 63) (hdf : d.params.defaults = []) (hr : Room k callerA) (hY : ∀ (w : World) (h : Heap), YP w h → (K w.params).In h)
    (F : ∀ (w : World) (mg : Str → Option Value) (fa : Addr) (h : Heap), (K w.params).In h → h.Ns mainGlobals mg → XP mg h → TabsAt q mg h → mg d.name = some (.ref fa) →
      ∃ (fd : FuncData) (cs : List (Addr × Addr)) (nm : Nat → Nat → Str), (∀ p ∈ cs, h.get? p.2 = some { cls := .none, data := .fields #[] } ∧ (K w.params).lookup p.2 = none ∧ PySem.W.CodeHd h p.1 p.2) ∧ (∀ (s : Shared) (u : Value), BindsTo s fd ⟨[u], []⟩ [(x, u)]) ∧
        ∀ base : Heap, Mod (K w.params) mg base → (∀ p ∈ cs, TabB base mg p.1 p.2) → FnOk l.prog w (K w.params) mg base (L2N.CX l.prog w) k fa fd [x] (DSp (K w.params) 1 (spLawT (cs.map (·.2)) nm))) :
    PySem.W.WalkO q loose XP YP l.row.toRowW d [] (fun f vs => PySem.call f vs) := by
  refine Att.attach_call hn hdf fun w s₀ s₁ mg mb fa o pm cd doc a vs ns G Y ho hd hcd hmg hobj hints hlen hg => ?_
  have KX := hY w _ Y
  obtain ⟨fd, cs, nm, hc, hb, hF⟩ := F w mg fa _ KX G.T.g G.X G.T.tab hmg
  exact law_callT KX G.T.g G.T.b G.T.builtins G.T.nolimit hg (fun p hp => (hc p hp).1) (fun p hp => (hc p hp).2.1) (fun p hp => (hc p hp).2.2) G.T.bmain hobj hints hlen hr hF hb
end Bx

set_option Elab.async false
set_option linter.all false
set_option maxRecDepth 100000
set_option maxHeartbeats 4000000
namespace Bx
open PySem PySem.Spec L2
open PyProof.Rows hiding St
/-! ### what _law_names tells -/
def nmLabels : Str := "clause box boxes day strikes number notes truth text shut unlike undo many value"
def w_names (i : Nat) (a : Addr) : DTS := wSeq (wAsg (wLst (wCons (wIsP 0 a (0 == i)) (wCons (wIsP 0 a (1 == i)) (wCons (wIsP 0 a (2 == i)) (wCons (wIsP 0 a (3 == i)) (wCons (wIsP 0 a (4 == i)) (wCons (wIsP 0 a (5 == i)) (wCons (wIsP 0 a (6 == i))
  (wCons (wIsP 0 a (7 == i)) (wCons (wIsP 0 a (8 == i)) (wCons (wIsP 0 a (9 == i)) (wCons (wIsP 0 a (10 == i)) (wCons (wIsP 0 a (11 == i)) (wCons (wIsP 0 a (12 == i)) (wCons (wIsP 0 a true) wNil))))))))))))))) (.nm 1))
  (wSeq (wAsg (wC (.str "clause box boxes day strikes number notes truth text shut unlike undo many value")) (.nm 2)) (wRet (wJoin (wC (.str " ")) (wLc (wZipL (wCons (wSplit (wVar 2) (wC (.str " "))) (wCons (wVar 1) wNil))) (.tp [.nm 3, .nm 4]) (wTest (wVar 4)) (wVar 3) [3, 4]))))
def goodW : D → Option D
  | .tup [w, .bl true] => some w
  | _ => none
def nmBits (i : Nat) : List Bool := [0 == i, 1 == i, 2 == i, 3 == i, 4 == i, 5 == i, 6 == i, 7 == i, 8 == i, 9 == i, 10 == i, 11 == i, 12 == i, true]
theorem nm_split : Txt.split "clause box boxes day strikes number notes truth text shut unlike undo many value" " " = errLs ++ [("value" : Str)] := by decide +kernel
theorem rd_names : ∀ (i : Nat) (a : Addr), i < 13 → w_names i a { nx := fun _ _ => False, rt := fun d _ => d = .str (errNm i) } ⟨startD ["e", "some", "labels", "word", "good"] [.ref a], fun _ _ => False⟩ fun _ => none := by
  intro i a hi
  refine ⟨rfl, rfl, rfl, rfl, rfl, rfl, rfl, rfl, rfl, rfl, rfl, rfl, rfl, rfl, sl, ?_⟩
  refine ⟨⟨rfl, by decide⟩, ?_⟩
  show LcGoal (zipD ((Txt.split "clause box boxes day strikes number notes truth text shut unlike undo many value" " ").map D.str) ((nmBits i).map D.bl)) _ _ _ _ _ _ _
  rw [nm_split]
  refine lc_pure goodW (by rw [zipD_len]; exact Nat.le_trans (Nat.min_le_right _ _) (by rw [List.length_map]; exact sl)) (fun j d hd Y N h1 h2 => ?_) ?_
  · obtain ⟨x, y, hx, hy, rfl⟩ := zipD_get hd
    rw [List.getElem?_map] at hx hy
    cases ex : (errLs ++ [("value" : Str)])[j]? with
    | none => rw [ex] at hx; cases hx
    | some w =>
      cases ey : (nmBits i)[j]? with
      | none => rw [ey] at hy; cases hy
      | some b =>
        rw [ex] at hx; rw [ey] at hy
        cases hx; cases hy
        cases b with
        | true => exact h1 _ rfl
        | false => exact h2 rfl
  · rcases i with _ | _ | _ | _ | _ | _ | _ | _ | _ | _ | _ | _ | _ | i
    all_goals first
      | omega
      | exact ⟨by decide, rfl⟩
end Bx

set_option Elab.async false
set_option linter.all false
set_option maxRecDepth 100000
set_option maxHeartbeats 4000000
namespace Bx
open PySem PySem.Spec L2
open PyProof.Rows hiding St
/-! ### list(range(..)), tuple(range(..)); a def's name as a value -/
theorem repAll_mapI {K : PySem.W.Frag} {B : Addr → Prop} {H : Hp} {α : Type} (g : α → Int) : ∀ l : List α, RepAll K B H (l.map fun i => V.int (g i)) (l.map fun i => D.int (g i))
  | [] => .nil
  | a :: l => .cons (.int _) (repAll_mapI g l)
section
variable {X : Cx} {E : XK} {k : Nat} {a b : Expr} {wa wb : DTE} {pos p q : Pos} {x : Str} {f : Addr}
abbrev DTR := DSt → Mem → (Int → Int → Mem → Prop) → Prop
def liftR (K : PySem.W.Frag) (E : XK) (w : DTR) : L2.St → Hp → (Int → Int → Hp → Prop) → Prop := fun σ H Q' => ∃ F δ M Q, Sm K F H σ δ.s M ∧ LkX K E F M H δ.x ∧ w δ M Q ∧ ∀ i j H' M', Wd K F M' H' → Ext F M H M' H' → Q i j M' → Q' i j H'
abbrev DRg (X : Cx) (E : XK) (e : Expr) (w : DTR) : Prop := PRg X e (liftR X.K E w)
def wRg1 (wa : DTE) : DTR := fun δ M Q => wa δ M fun d M1 => match d with | .int n => Q 0 n M1 | _ => False
def wRg2 (wa wb : DTE) : DTR := fun δ M Q => wa δ M fun d M1 => wb δ M1 fun e M2 => match d, e with | .int i, .int j => Q i j M2 | _, _ => False
theorem dr_1 (hm : X.mg "range" = none) (ha : DE X E a wa) (hg : Gl X "range" := by rfl) (na : starEach [a] X.env = (false, eval a X.env) :: starEach [] X.env := by rfl) : DRg X E (.Call (.Name "range" p) [a] [] pos) (wRg1 wa) := by
  intro pins s σ H Q' I ⟨F, δ, M, Q, sm, lx, hw, lk⟩
  refine prg_1 hg hm ha na pins s σ H Q' I ⟨F, δ, M, _, sm, lx, hw, fun v H1 d M1 r1 w1 e1 q1 => ?_⟩
  cases d with
  | int n => cases r1; exact ⟨n, rfl, lk 0 n H1 M1 w1 e1 q1⟩
  | _ => exact (show False from q1).elim
theorem dr_2 (hm : X.mg "range" = none) (ha : DE X E a wa) (hb : DE X E b wb) (hg : Gl X "range" := by rfl) (na : starEach [a, b] X.env = (false, eval a X.env) :: starEach [b] X.env := by rfl) (nb : starEach [b] X.env = (false, eval b X.env) :: starEach [] X.env := by rfl) (hp : (backTo pos (starEach [b] X.env)).any (·.1) = false := by rfl) :
    DRg X E (.Call (.Name "range" p) [a, b] [] pos) (wRg2 wa wb) := by
  intro pins s σ H Q' I ⟨F, δ, M, Q, sm, lx, hw, lk⟩
  refine prg_2 hg hm ha hb na nb hp pins s σ H Q' I ⟨F, δ, M, _, sm, lx, hw, fun v H1 d M1 r1 w1 e1 q1 => ?_⟩
  refine ⟨F, δ, M1, _, sm.ext w1 e1, lx.ext w1 e1, q1, fun u H2 e M2 r2 w2 e2 q2 => ?_⟩
  cases d with
  | int i =>
    cases e with
    | int j => cases r1; cases r2; exact ⟨i, j, rfl, rfl, lk i j H2 M2 w2 (Ext.trans w1 e1 e2) q2⟩
    | _ => exact (show False from q2).elim
  | _ => exact (show False from q2).elim
def wLstRg (w : DTR) : DTE := fun δ M Q => w δ M fun i j M1 => RgOk i j ∧ Q (.lst (rngD i (j - i).toNat)) M1
def wTupRg (w : DTR) : DTE := fun δ M Q => w δ M fun i j M1 => RgOk i j ∧ Q (.tup (rngD i (j - i).toNat)) M1
theorem de_lstRg {e : Expr} {w : DTR} (hX : DX X E k) (hm : X.mg "list" = none) (he : DRg X E e w) (hg : Gl X "list" := by rfl) (na : starEach [e] X.env = (false, eval e X.env) :: starEach [] X.env := by rfl) : DE X E (.Call (.Name "list" p) [e] [] pos) (wLstRg w) := by
  refine pe_mono (pe_listRg hX.calm hg hm he na) fun σ H Q' ⟨F, δ, M, Q, sm, lx, hw, lk⟩ => ?_
  exact ⟨F, δ, M, _, sm, lx, hw, fun i j H1 M1 w1 e1 q1 => ⟨q1.1, fun p hp => lk _ _ _ M1 (.newLst w1 hp (repAll_mapI _ _)) (w1.laid hp) (Ext.trans w1 e1 (ext_laid hp)) q1.2⟩⟩
theorem de_tupRg {e : Expr} {w : DTR} (hX : DX X E k) (hm : X.mg "tuple" = none) (he : DRg X E e w) (hg : Gl X "tuple" := by rfl) (na : starEach [e] X.env = (false, eval e X.env) :: starEach [] X.env := by rfl) : DE X E (.Call (.Name "tuple" p) [e] [] pos) (wTupRg w) := by
  refine pe_mono (pe_tupRg hX.calm hg hm he na) fun σ H Q' ⟨F, δ, M, Q, sm, lx, hw, lk⟩ => ?_
  exact ⟨F, δ, M, _, sm, lx, hw, fun i j H1 M1 w1 e1 q1 => ⟨q1.1, fun p hp => lk _ _ _ M1 (.newTup w1 hp (repAll_mapI _ _)) (w1.laid hp) (Ext.trans w1 e1 (ext_laid hp)) q1.2⟩⟩
theorem de_fnv (hm : X.mg x = some (.ref f)) (hg : Gl X x := by rfl) (hdb : (x == ("__debug__" : Str)) = false := by decide) : DE X E (.Name x pos) (wC (.ref f)) := dc_of (pe_glob hg hm (v := .ref f) rfl hdb) fun _ _ _ => .ref _
end
/-! ### short ways through the refusals -/
def MExt (M M' : Mem) : Prop := ∀ a o, M a = some o → M' a = some o
theorem MExt.upd {M : Mem} {f : Addr} {o : MO} (h : M f = none) : MExt M (updM M f o) := fun a u e => by
  rw [updM_ne (fun q => by subst q; rw [h] at e; cases e)]; exact e
theorem MExt.trans {M M1 M2 : Mem} (a : MExt M M1) (b : MExt M1 M2) : MExt M M2 := fun x o e => b x o (a x o e)
theorem Lv.ext {K : PySem.W.Frag} {f : Addr} {M M' : Mem} (h : Lv K f M) (e : MExt M M') : Lv K f M' := by
  rcases h with h | ⟨κ, s, h⟩
  · exact .inl h
  · exact .inr ⟨κ, s, e _ _ h⟩
theorem all_no {p : D → Bool} {l : List D} (h : l.all (fun d => D.fit 63 d && !p d) = true) : ∀ d ∈ l, D.fit 63 d = true ∧ p d = false := fun d hd => by
  have := List.all_eq_true.mp h d hd
  rw [Bool.and_eq_true] at this
  exact ⟨this.1, by have := this.2; cases q : p d; rfl; rw [q] at this; cases this⟩
theorem G_all_i {K : PySem.W.Frag} {ex : Str → Value} {P : Addr} {nmF : Nat → Nat → Str} {f : Addr} {κ : Clo} {s : List (Option D)} {js : List Nat} {te : DTE} {M : Mem} {odds : D} {os : List D} {nm : Str} {Q : DK} {Ed : Value → Mem → Prop} (hf : M f = none) (hP : M P = some (.tab nmF)) (ho : sqI odds = some os) (hl : os.length ≤ 1000) (hn : PyData.strOk nm = true)
    (h : ∀ o ∈ os, ∀ M' Q' Ed', MExt M M' → (∀ j x, j < 13 → errXs[j]? = some x → errNm j = nm → Ed' (ex x) M') → te ⟨lamD [o] s js, Ed'⟩ M' Q') (hq : Q (.bl true) (updM M f (.clo κ s))) :
    (updM M f (.clo κ s)) f = some (.clo κ s) ∧ [odds, D.str nm].length + 1 = 3 ∧ G_all K ex P nmF f (lamSpec f κ s js te) (.ref f :: [odds, .str nm]) (updM M f (.clo κ s)) Q Ed := by
  refine ⟨updM_same, rfl, odds, os, nm, rfl, ho, hl, hn, .inr ⟨κ, s, updM_same⟩, MExt.upd hf _ _ hP, fun o ho g κ' s' Q' Ed' hg hE => ⟨MExt.upd hg _ _ updM_same, h o ho _ _ _ ((MExt.upd hf).trans (MExt.upd hg)) hE⟩, ?_⟩
  exact hq
end Bx

set_option Elab.async false
set_option linter.all false
set_option maxRecDepth 100000
set_option maxHeartbeats 4000000
namespace Bx
open PySem PySem.Spec L2
open PyProof.Rows hiding St
/-! ### the module's own constants: texts, tuples -/
mutual
/-- the written part's value u is d -/
def KRep (K : PySem.W.Frag) : D → Value → Prop
  | .non, u => u = .none
  | .bl b, u => u = .bool b
  | .int i, u => ∃ t, u = .int i t
  | .str x, u => ∃ t, u = .str x t
  | .tup ds, u => ∃ a dd its n sl, u = .ref a ∧ K.lookup a = some ⟨.type "tuple", dd, .seq its n, sl⟩ ∧ its.size ≤ sizeLine ∧ KReps K ds its.toList
  | _, _ => False
def KReps (K : PySem.W.Frag) : List D → List Value → Prop
  | [], us => us = []
  | d :: ds, us => ∃ u r, us = u :: r ∧ KRep K d u ∧ KReps K ds r
end
mutual
theorem KRep.rep {K : PySem.W.Frag} {B : Addr → Prop} {H : Hp} : ∀ (d : D) (u : Value), KRep K d u → ∃ v, RelV v u ∧ Rep K B H v d
  | .non, _, h => ⟨.non, h, .non⟩
  | .bl b, _, h => ⟨.bl b, h, .bl b⟩
  | .int i, _, ⟨t, h⟩ => ⟨.int i, ⟨t, h⟩, .int i⟩
  | .str x, _, ⟨t, h⟩ => ⟨.str x, ⟨t, h⟩, .str x⟩
  | .tup ds, _, ⟨a, dd, its, n, sl, e, l, z, r⟩ => by
    obtain ⟨vs, r1, r2⟩ := KReps.rep (K := K) (B := B) (H := H) ds its.toList r
    exact ⟨.ref a, e, .tup (.inr ⟨_, its, n, l, rfl, rfl, z, r1⟩) r2⟩
  | .lst _, _, h => h.elim
  | .fro _, _, h => h.elim
  | .ref _, _, h => h.elim
theorem KReps.rep {K : PySem.W.Frag} {B : Addr → Prop} {H : Hp} : ∀ (ds : List D) (us : List Value), KReps K ds us → ∃ vs, Vals vs us ∧ RepAll K B H vs ds
  | [], us, h => by
    have h : us = [] := h
    subst h
    exact ⟨[], .nil, .nil⟩
  | d :: ds, us, h => by
    obtain ⟨u, r, e, h1, h2⟩ : ∃ u r, us = u :: r ∧ KRep K d u ∧ KReps K ds r := h
    subst e
    obtain ⟨v, a1, a2⟩ := KRep.rep (K := K) (B := B) (H := H) d u h1
    obtain ⟨vs, b1, b2⟩ := KReps.rep (K := K) (B := B) (H := H) ds r h2
    exact ⟨v :: vs, .cons a1 b1, .cons a2 b2⟩
end
/-- the module's name x holds d -/
def DatAt (K : PySem.W.Frag) (mg : Str → Option Value) (x : Str) (d : D) : Prop := ∃ u, mg x = some u ∧ KRep K d u
theorem dgd {X : Cx} {E : XK} {pos : Pos} {x : Str} {d : D} (h : DatAt X.K X.mg x d) (hg : Gl X x := by rfl) (hdb : (x == ("__debug__" : Str)) = false := by decide) : DE X E (.Name x pos) (wC d) := by
  obtain ⟨u, hm, r⟩ := h
  refine ⟨fun pins s σ H Q' I ⟨F, δ, M, Q, sm, lx, hw, lk⟩ => ?_⟩
  obtain ⟨v, r1, r2⟩ := KRep.rep (B := Bar F M) (H := H) d u r
  exact (pe_glob (X := X) (pos := pos) hg hm r1 hdb).run pins s σ H Q' I (lk v H d M r2 sm.wd (.refl _ _ _) hw)
theorem dat_mk {K : PySem.W.Frag} {h : Heap} {mg : Str → Option Value} {x : Str} {u : Value} {d : D} (X : K.In h) (G : h.Ns mainGlobals mg) (a : PySem.W.nsIn K mainGlobals x = some (some u)) (r : KRep K d u) : DatAt K mg x d := ⟨u, PySem.W.mg_of X G a, r⟩
theorem krep_tup {K : PySem.W.Frag} {a : Addr} {dd : Option Addr} {its : Array Value} {n : Nat} {sl : Array (Option Value)} {ds : List D} (l : K.lookup a = some ⟨.type "tuple", dd, .seq its n, sl⟩) (s : its.size ≤ sizeLine) (r : KReps K ds its.toList) : KRep K (.tup ds) (.ref a) := ⟨a, dd, its, n, sl, rfl, l, s, r⟩
theorem kreps_cons {K : PySem.W.Frag} {d : D} {u : Value} {ds : List D} {us : List Value} (h : KRep K d u) (t : KReps K ds us) : KReps K (d :: ds) (u :: us) := ⟨u, us, rfl, h, t⟩
end Bx

set_option Elab.async false
set_option linter.all false
set_option maxRecDepth 100000
set_option maxHeartbeats 4000000
namespace Bx
open PySem PySem.Spec L2
open PyProof.Rows hiding St
/-! ### strikes, boxes, what is refused -/
def isDaysD : List D → Bool
  | [] => true
  | d :: ds => isWholeD d 0 (10 ^ 30) && isDaysD ds
def isStrikesD : D → Bool
  | .tup ds => decide (ds.length ≤ 20) && isDaysD ds && risesD ds
  | _ => false
theorem isDaysD_ints : ∀ {ds : List D}, isDaysD ds = true → ∃ is : List Int, ds = is.map D.int
  | [], _ => ⟨[], rfl⟩
  | d :: ds, h => by
    have h : (isWholeD d 0 (10 ^ 30) && isDaysD ds) = true := h
    rw [Bool.and_eq_true] at h
    obtain ⟨i, rfl, _⟩ := isWholeD_int h.1
    obtain ⟨is, rfl⟩ := isDaysD_ints h.2
    exact ⟨i :: is, rfl⟩
theorem isDaysD_all : ∀ ds : List D, ds.all (fun d => isWholeD d 0 (10 ^ 30)) = isDaysD ds
  | [] => rfl
  | d :: ds => by rw [List.all_cons, isDaysD_all ds]; rfl
def boxR : D → Int
  | .tup [_, .int r] => r
  | _ => 0
/-- what is refused, in the program's order -/
def needAllE (vc vb vf vs : D) : Option Str := match isClauseD vc with
  | false => some "InvalidClause"
  | true => match isBoxD vb with
    | false => some "InvalidBox"
    | true => match isWholeD vf (boxR vb) (10 ^ 30) with
      | false => some "InvalidDay"
      | true => match isStrikesD vs with
        | false => some "InvalidStrikes"
        | true => none
structure Strikes (ss : List Int) : Prop where
  len : ss.length ≤ 20
  up : rising ss = true
  day : ∀ s ∈ ss, 0 ≤ s ∧ s ≤ 10 ^ 30
structure Box (l r : Int) : Prop where
  lo : 0 ≤ l
  le : l ≤ r
  hi : r ≤ 10 ^ 30
structure Valid (c : Cl) (l r f : Int) (ss : List Int) : Prop where
  c : c.Ok
  b : Box l r
  f : r ≤ f ∧ f ≤ 10 ^ 30
  s : Strikes ss
theorem isDaysD_of {ss : List Int} (h : ∀ s ∈ ss, 0 ≤ s ∧ s ≤ 10 ^ 30) : isDaysD (ss.map D.int) = true := by
  rw [← isDaysD_all, List.all_eq_true]
  intro d hd
  obtain ⟨s, hs, rfl⟩ := List.mem_map.mp hd
  show (decide (0 ≤ s) && decide (s ≤ 10 ^ 30)) = true
  rw [decide_eq_true (h s hs).1, decide_eq_true (h s hs).2]; rfl
theorem Strikes.ok {ss : List Int} (h : Strikes ss) : isStrikesD (.tup (ss.map D.int)) = true := by
  show (decide ((ss.map D.int).length ≤ 20) && isDaysD (ss.map D.int) && risesD (ss.map D.int)) = true
  rw [isDaysD_of h.day, rises_ints, h.up, List.length_map, decide_eq_true h.len]; rfl
theorem Strikes.pw {ss : List Int} (h : Strikes ss) : ss.Pairwise (· < ·) := rising_pw.mp h.up
theorem Strikes.fit {ss : List Int} (n : Nat) : D.fit (n + 1) (.tup (ss.map D.int)) = true := by rw [fit_tupC]; exact fit_ints n ss
theorem Box.ok {l r : Int} (h : Box l r) : isBoxD (boxD l r) = true := by
  show ((decide (0 ≤ l) && decide (l ≤ 10 ^ 30)) && (decide (0 ≤ r) && decide (r ≤ 10 ^ 30)) && decide (l ≤ r)) = true
  have := h.lo; have := h.le; have := h.hi
  rw [decide_eq_true h.lo, decide_eq_true h.le, decide_eq_true h.hi, decide_eq_true (show l ≤ 10 ^ 30 by omega), decide_eq_true (show 0 ≤ r by omega)]; rfl
theorem isWhole_ok {v lo hi : Int} (h : lo ≤ v ∧ v ≤ hi) : isWholeD (.int v) lo hi = true := by
  show (decide (lo ≤ v) && decide (v ≤ hi)) = true
  rw [decide_eq_true h.1, decide_eq_true h.2]; rfl
theorem Valid.none {c : Cl} {l r f : Int} {ss : List Int} (h : Valid c l r f ss) : needAllE c.d (boxD l r) (.int f) (.tup (ss.map D.int)) = none := by
  unfold needAllE
  rw [isClauseD_ok h.c, h.b.ok, h.s.ok]
  show (match isWholeD (.int f) r (10 ^ 30) with | false => _ | true => _) = _
  rw [isWhole_ok h.f]
theorem fit_cl {c : Cl} (h : c.Ok) : D.fit 64 c.d = true := fit_up (sp_cl h).1 (by decide)
theorem fit_box (l r : Int) : D.fit 64 (boxD l r) = true := fit_up (sp_box l r).1 (by decide)
/-! ### comprehensions over the image of a list -/
theorem lc_on {α : Type} {xs : List α} {f : α → D} {δ : DSt} {t : Tg} {te : DTE} {vs : List Nat} {Q : DK} {M : Mem} (g : α → D) (hlen : xs.length ≤ sizeLine)
    (turn : ∀ x ∈ xs, ∀ (Y : DK), Y (g x) M → t.setK (f x) (wipeD δ.s vs) fun s => te ⟨s, noX⟩ M fun y M3 => Y y M3) (done : Q (.lst (xs.map g)) M) : LcGoal (xs.map f) δ t wYes te vs Q M := by
  refine ⟨by rw [List.length_map]; exact hlen, fun i acc M' => M' = M ∧ acc = (xs.take i).map g, ⟨rfl, rfl⟩, fun i d acc M' hd ⟨eM, ea⟩ => ?_, fun acc M' _ ⟨eM, ea⟩ => ?_⟩
  · subst eM; subst ea
    rw [List.getElem?_map] at hd
    cases e : xs[i]? with
    | none => rw [e] at hd; cases hd
    | some x =>
      rw [e] at hd; cases hd
      exact turn x (List.mem_of_getElem? e) (fun y M3 => M3 = M' ∧ (xs.take i).map g ++ [y] = (xs.take (i + 1)).map g) ⟨rfl, by rw [List.take_add_one, e, List.map_append]; rfl⟩
  · subst eM; subst ea
    rw [List.length_map, List.take_length]
    exact done
theorem lc_fil {α : Type} {xs : List α} {f : α → D} {δ : DSt} {t : Tg} {tt : DTT} {te : DTE} {vs : List Nat} {Q : DK} {M : Mem} (p : α → Bool) (g : α → D) (hlen : xs.length ≤ sizeLine)
    (turn : ∀ x ∈ xs, ∀ (Y : DK) (N : Mem → Prop), (p x = true → Y (g x) M) → (p x = false → N M) → t.setK (f x) (wipeD δ.s vs) fun s => tt ⟨s, noX⟩ M fun b M2 => onT b (te ⟨s, noX⟩ M2 fun y M3 => Y y M3) (N M2)) (done : Q (.lst ((xs.filter p).map g)) M) : LcGoal (xs.map f) δ t tt te vs Q M := by
  refine ⟨by rw [List.length_map]; exact hlen, fun i acc M' => M' = M ∧ acc = ((xs.take i).filter p).map g, ⟨rfl, rfl⟩, fun i d acc M' hd ⟨eM, ea⟩ => ?_, fun acc M' _ ⟨eM, ea⟩ => ?_⟩
  · subst eM; subst ea
    rw [List.getElem?_map] at hd
    cases e : xs[i]? with
    | none => rw [e] at hd; cases hd
    | some x =>
      rw [e] at hd; cases hd
      have es : ((xs.take (i + 1)).filter p).map g = ((xs.take i).filter p).map g ++ (match p x with | true => [g x] | false => []) := by
        rw [List.take_add_one, e, List.filter_append, List.map_append]
        congr 1
        show ([x].filter p).map g = _
        rw [List.filter_cons]
        cases p x <;> rfl
      refine turn x (List.mem_of_getElem? e) (fun y M3 => M3 = M' ∧ ((xs.take i).filter p).map g ++ [y] = ((xs.take (i + 1)).filter p).map g) (fun M2 => M2 = M' ∧ ((xs.take i).filter p).map g = ((xs.take (i + 1)).filter p).map g) (fun h => ⟨rfl, ?_⟩) (fun h => ⟨rfl, ?_⟩)
      · rw [es, h]
      · rw [es, h]; simp
  · subst eM; subst ea
    rw [List.length_map, List.take_length]
    exact done
mutual
theorem eqv_self : ∀ (n : Nat) (d : D), D.fit n d = true → D.eqv d d = true
  | _, .non, _ => by simp [D.eqv]
  | _, .bl b, _ => by simp [D.eqv]
  | _, .int i, _ => by simp [D.eqv]
  | _, .str x, _ => by simp [D.eqv]
  | n + 1, .tup xs, h => by
    simp only [D.eqv]
    exact eqvAll_self n xs (by simpa [D.fit] using h)
  | n + 1, .lst xs, h => by
    simp only [D.eqv]
    exact eqvAll_self n xs (by simpa [D.fit] using h)
  | 0, .tup xs, h => by simp [D.fit] at h
  | 0, .lst xs, h => by simp [D.fit] at h
  | n, .fro xs, h => by cases n <;> simp [D.fit] at h
  | n, .ref a, h => by cases n <;> simp [D.fit] at h
theorem eqvAll_self : ∀ (n : Nat) (ds : List D), D.fitAll n ds = true → D.eqvAll ds ds = true
  | _, [], _ => by simp [D.eqvAll]
  | n, d :: ds, h => by
    have h : (D.fit n d && D.fitAll n ds) = true := by simpa [D.fitAll] using h
    rw [Bool.and_eq_true] at h
    simp only [D.eqvAll]
    rw [eqv_self n d h.1, eqvAll_self n ds h.2]; rfl
end
theorem eqv_nil (l : List D) : D.eqv (.lst l) (.lst []) = l.isEmpty := by cases l <;> simp [D.eqv, D.eqvAll]
theorem fit_lstMap {α : Type} {n : Nat} {f : α → D} {l : List α} (h : ∀ x ∈ l, D.fit n (f x) = true) : D.fit (n + 1) (.lst (l.map f)) = true := by
  simp only [D.fit]
  exact fitAll_mem.mpr fun d hd => by
    obtain ⟨x, hx, rfl⟩ := List.mem_map.mp hd
    exact h x hx
end Bx

set_option Elab.async false
set_option linter.all false
set_option maxRecDepth 100000
set_option maxHeartbeats 4000000
namespace Bx
open PySem PySem.Spec L2
open PyProof.Rows hiding St
/-! ### texts: slices, one sign in a text, int, str, f-strings, list(text) -/
def wCutS : DSl := fun x lo hi M Q => match x with | .str z => z.length ≤ sizeLine ∧ Q (.str (cutS z lo hi)) M | _ => False
theorem ok_cutS {K : PySem.W.Frag} : OkSl K rSlS wCutS := by
  intro F M H x lo hi d1 Q Q' wd r1 hw lk
  cases d1 with
  | str z => cases r1; exact ⟨z, rfl, hw.1, lk _ H _ M (.str _) wd (.refl _ _ _) hw.2⟩
  | _ => exact (show False from hw).elim
def wInSign (neg : Bool) : DR2 := fun x y M Q => match x, y with | .str a, .str z => ∃ c : Nat, a = ⟨#[c]⟩ ∧ Q (.bl (neg != decide (c ∈ z.cps.toList))) M | _, _ => False
theorem ok_inSign {K : PySem.W.Frag} : OkR K (fun x y H Q => ∃ (c : Nat) (z : Str), x = .str ⟨#[c]⟩ ∧ y = .str z ∧ Q (.bl (decide (c ∈ z.cps.toList))) H) (wInSign false) := by
  intro F M H x y d1 d2 Q Q' wd r1 r2 hw lk
  cases d1 with
  | str a =>
    cases d2 with
    | str z =>
      obtain ⟨c, rfl, q⟩ := hw
      rw [Bool.false_bne] at q
      cases r1; cases r2
      exact ⟨c, z, rfl, rfl, lk _ H _ M (.bl _) wd (.refl _ _ _) q⟩
    | _ => exact (show False from hw).elim
  | _ => exact (show False from hw).elim
def wIntS : DRC := fun ds M Q => match ds with | [.str a] => onO (PySem.intText? a) fun n => a.length ≤ 640 ∧ Q (.int n) M | _ => False
theorem ok_intS {K : PySem.W.Frag} : OkC K (fun xs H Q => ∃ a n, xs = [.str a] ∧ PySem.intText? a = some n ∧ a.length ≤ 640 ∧ Q (.int n) H) wIntS := fun F M H vs ds Q Q' wd ra hw lk => by
  match ds, ra, hw with
  | [.str a], .cons r .nil, hw =>
    cases r
    obtain ⟨n, h1, h2, q⟩ := onO_e (show onO (PySem.intText? a) _ from hw)
    exact ⟨a, n, rfl, h1, h2, lk _ H _ M (.int _) wd (.refl _ _ _) q⟩
def wStrI : DRC := fun ds M Q => match ds with | [.int i] => i.natAbs.log2 < 1920 ∧ Q (.str (toString i)) M | _ => False
theorem ok_strI {K : PySem.W.Frag} : OkC K (fun xs H Q => ∃ i, xs = [.int i] ∧ i.natAbs.log2 < 1920 ∧ Q (.str (toString i)) H) wStrI := fun F M H vs ds Q Q' wd ra hw lk => by
  match ds, ra, hw with
  | [.int i], .cons r .nil, hw => cases r; exact ⟨i, rfl, hw.1, lk _ H _ M (.str _) wd (.refl _ _ _) hw.2⟩
/-- list(text) -/
def signsD (x : Str) : List D := x.cps.toList.map fun c => .str ⟨#[c]⟩
def rListS : List V → Hp → VK → Prop := fun xs H Q => ∃ x : Str, xs = [.str x] ∧ x.cps.size ≤ sizeLine ∧ ∀ p, H p = none → Q (.ref p) (upd H p (.lst (x.cps.toList.map fun c => V.str ⟨#[c]⟩)))
theorem cr_listS {X : Cx} (hc : X.calm = true) : CallR X (.type "list") rListS := by
  intro pins s σ H vs us Q I r h
  obtain ⟨x, rfl, hz, q⟩ := h
  obtain ⟨u, rfl, t, rfl⟩ := Vals.one r
  refine PySem.call_list_str (hn := hz) (I.ok.hd hc) x t fun h' tk acc c' hk e hi => ?_
  have hv : Vals (x.cps.toList.map fun c => V.str ⟨#[c]⟩) acc.toList := by
    refine vals_of_idx _ _ (by rw [List.length_map, Array.length_toList, Array.length_toList]; exact hi.1) fun j u hj => ?_
    obtain ⟨c, t', hs, rfl⟩ := hi.2 j u (by rw [← Array.getElem?_toList]; exact hj)
    exact ⟨.str ⟨#[c]⟩, by rw [List.getElem?_map, Array.getElem?_toList, hs]; rfl, t', rfl⟩
  exact ⟨.ref s.heap.objs.size, upd H s.heap.objs.size (.lst (x.cps.toList.map fun c => V.str ⟨#[c]⟩)), I.laid hk (Nat.le_refl _) ⟨by rw [List.length_map, Array.length_toList]; exact hz, acc.toList, c', hv, by rw [Array.toArray_toList]; exact e⟩, rfl, q _ (I.hok.fresh (Nat.le_refl _))⟩
/-! f-strings -/
def wFmt (wa : DTE) : DTE := fun δ M Q => wa δ M fun d M1 => match d with | .str y => y.length ≤ sizeLine ∧ Q (.str y) M1 | .int i => i.natAbs.log2 < 1920 ∧ Q (.str (toString i)) M1 | _ => False
section
variable {X : Cx} {E : XK} {k : Nat} {a b e : Expr} {wa wb : DTE} {pos : Pos}
theorem de_cutS {lo hi : Option Expr} {wl wh : DTO} {p2 : Pos} (ha : DE X E a wa) (hl : DO X E lo wl) (hh : DO X E hi wh) : DE X E (.Subscript a (.Slice lo hi none p2) pos) (wSl wCutS wa wl wh) := de_sl sl_str ok_cutS ha hl hh
theorem de_inSign (ha : DE X E a wa) (hb : DE X E b wb) (hm : behindInMarks .In b = false := by rfl) : DE X E (.Compare a [.In] [b] pos) (wOp (wInSign false) wa wb) := de_cmp op_in_sign ok_inSign ha hb hm
theorem dt_inSign (ha : DE X E a wa) (hb : DE X E b wb) (hm : behindInMarks .In b = false := by rfl) : DT X E (.Compare a [.In] [b] pos) (wTest (wOp (wInSign false) wa wb)) := dt_cmp op_in_sign ok_inSign ha hb hm
theorem de_intS {wr : DTA} {p : Pos} (hm : X.mg "int" = none) (ha : DA X E [e] wr) (hg : Gl X "int" := by rfl) (he : starEach [e] X.env = (false, eval e X.env) :: starEach [] X.env := by rfl) (hpl : (backTo pos (starEach [] X.env)).any (·.1) = false := by rfl) : DE X E (.Call (.Name "int" p) [e] [] pos) (wCB wIntS wr) :=
  de_cty call_int_str ok_intS hm ha (by decide +kernel) hg (by decide) (by decide) he hpl
theorem de_strI {wr : DTA} {p : Pos} (hm : X.mg "str" = none) (ha : DA X E [e] wr) (hg : Gl X "str" := by rfl) (he : starEach [e] X.env = (false, eval e X.env) :: starEach [] X.env := by rfl) (hpl : (backTo pos (starEach [] X.env)).any (·.1) = false := by rfl) : DE X E (.Call (.Name "str" p) [e] [] pos) (wCB wStrI wr) :=
  de_cty call_str_int ok_strI hm ha (by decide +kernel) hg (by decide) (by decide) he hpl
theorem de_fmt (ha : DE X E e wa) : DE X E (.FormattedValue e (-1) none pos) (wFmt wa) := by
  refine pe_mono (pe_fmt ha) fun σ H Q' ⟨F, δ, M, Q, sm, lx, hw, lk⟩ => ?_
  refine ⟨F, δ, M, _, sm, lx, hw, fun v H1 d M1 r1 w1 e1 q1 => ?_⟩
  cases d with
  | str y => cases r1; exact .inl ⟨y, rfl, q1.1, lk _ H1 _ M1 (.str _) w1 e1 q1.2⟩
  | int i => cases r1; exact .inr ⟨i, rfl, q1.1, lk _ H1 _ M1 (.str _) w1 e1 q1.2⟩
  | _ => exact (show False from q1).elim
end
inductive DJ (X : Cx) (E : XK) : List Expr → List DTE → Prop where
  | nil : DJ X E [] []
  | cons {e : Expr} {t : DTE} {es : List Expr} {ts : List DTE} (h : DE X E e t) (r : DJ X E es ts) : DJ X E (e :: es) (t :: ts)
theorem DJ.pj {X : Cx} {E : XK} {es : List Expr} {ws : List DTE} (h : DJ X E es ws) : PJ X es (ws.map (liftE X.K E)) := by
  induction h with
  | nil => exact .nil
  | cons h _ ih => exact .cons h ih
def wJs : List DTE → Str → DSt → Mem → (Str → Mem → Prop) → Prop
  | [], acc, _, M, Q => Q acc M
  | w :: ws, acc, δ, M, Q => w δ M fun d M1 => match d with | .str y => (acc ++ y).length ≤ sizeLine ∧ wJs ws (acc ++ y) δ M1 Q | _ => False
theorem lift_js {K : PySem.W.Frag} {E : XK} : ∀ (ws : List DTE) (acc : Str) (σ : L2.St) (H : Hp) (Q' : Str → Hp → Prop) (F : Addr → Prop) (δ : DSt) (M : Mem) (Q : Str → Mem → Prop), Sm K F H σ δ.s M → LkX K E F M H δ.x → wJs ws acc δ M Q →
    (∀ out H' M', Wd K F M' H' → Ext F M H M' H' → Q out M' → Q' out H') → tJs (ws.map (liftE K E)) acc σ H Q'
  | [], acc, σ, H, Q', F, δ, M, Q, sm, lx, hw, lk => lk acc H M sm.wd (.refl _ _ _) hw
  | w :: ws, acc, σ, H, Q', F, δ, M, Q, sm, lx, hw, lk => by
    refine ⟨F, δ, M, _, sm, lx, hw, fun v H1 d M1 r1 w1 e1 q1 => ?_⟩
    cases d with
    | str y =>
      cases r1
      exact ⟨y, rfl, q1.1, lift_js ws (acc ++ y) σ H1 Q' F δ M1 Q (sm.ext w1 e1) (lx.ext w1 e1) q1.2 fun out H' M' w' e' q' => lk out H' M' w' (Ext.trans w1 e1 e') q'⟩
    | _ => exact (show False from q1).elim
def wFstr (ws : List DTE) : DTE := fun δ M Q => wJs ws Str.empty δ M fun out M1 => Q (.str out) M1
theorem de_fstr {X : Cx} {E : XK} {v1 v2 : Expr} {rest : List Expr} {ws : List DTE} {pos : Pos} (h : DJ X E (v1 :: v2 :: rest) ws) : DE X E (.JoinedStr (v1 :: v2 :: rest) pos) (wFstr ws) := by
  refine pe_mono (pe_joined h.pj) fun σ H Q' ⟨F, δ, M, Q, sm, lx, hw, lk⟩ => ?_
  exact lift_js ws _ σ H _ F δ M _ sm lx hw fun out H' M' w' e' q' => lk _ H' _ M' (.str _) w' e' q'
/-! ### range with a step -/
def rngC (lo c : Int) (n : Nat) : List D := (List.range n).map fun i => .int (lo + (i : Nat) * c)
theorem rngC_get {lo c : Int} {n i : Nat} {d : D} (h : (rngC lo c n)[i]? = some d) : i < n ∧ d = .int (lo + (i : Nat) * c) := by
  unfold rngC at h
  rw [List.getElem?_map] at h
  by_cases hi : i < n
  · rw [List.getElem?_range hi] at h
    exact ⟨hi, (Option.some.inj h).symm⟩
  · rw [List.getElem?_eq_none (by simpa using hi)] at h; cases h
theorem itOk_rngC {K : PySem.W.Frag} {F : Addr → Prop} {M1 : Mem} {H1 : Hp} {lo c : Int} {n : Nat} : ItOk K F M1 H1 (Itc lo c n) (rngC lo c n) := by
  intro F' M H hF wd e
  refine ⟨fun i d hd => ?_, fun i hi => by rw [show (rngC lo c n).length = n by unfold rngC; simp] at hi; exact hi⟩
  obtain ⟨h1, h2⟩ := rngC_get hd
  refine ⟨h1, fun x H' ⟨eH, hx⟩ => ?_⟩
  subst eH; subst hx; subst h2
  exact ⟨.int _, wd, .refl _ _ _⟩
def wRng3 (wr : DTA) : DTI := fun δ M Q => wr δ M fun ds M1 => match ds with | [.int i, .int j, .int c] => ∃ n, RgC i j c n ∧ Q (rngC i c n) M1 | _ => False
section
variable {X : Cx} {E : XK} {k : Nat} {a b c e f : Expr} {wa wb : DTE} {pos : Pos}
theorem di_rng3 {tg : Expr} {wr : DTA} {p : Pos} (hm : X.mg "range" = none) (ha : DA X E [a, b, c] wr) (hg : Gl X "range" := by rfl) (hs : starEach [a, b, c] X.env = (false, eval a X.env) :: starEach [b, c] X.env := by rfl) (hpl : (backTo pos (starEach [b, c] X.env)).any (·.1) = false := by rfl) : DI X E tg (.Call (.Name "range" p) [a, b, c] [] pos) (wRng3 wr) := by
  refine pi_mono (pi_range3 hg hm ha hs hpl) fun σ H R ⟨F, δ, M, Q, sm, lx, hw, lk⟩ => ?_
  refine ⟨F, δ, M, _, sm, lx, hw, fun vs H1 ds M1 r1 w1 e1 q1 => ?_⟩
  match ds, r1, q1 with
  | [.int i, .int j, .int c], .cons h1 (.cons h2 (.cons h3 .nil)), q1 =>
    cases h1; cases h2; cases h3
    obtain ⟨n, hr, q1⟩ := q1
    exact ⟨i, j, c, n, rfl, hr, lk _ H1 _ M1 w1 itOk_rngC e1 q1⟩
/-- list(text) -/
def wListS : DRC := fun ds M Q => match ds with | [.str x] => x.cps.size ≤ sizeLine ∧ Q (.lst (signsD x)) M | _ => False
theorem repAll_mapS {K : PySem.W.Frag} {B : Addr → Prop} {H : Hp} : ∀ l : List Nat, RepAll K B H (l.map fun c => V.str ⟨#[c]⟩) (l.map fun c => D.str ⟨#[c]⟩)
  | [] => .nil
  | a :: l => .cons (.str _) (repAll_mapS l)
theorem ok_listS {K : PySem.W.Frag} : OkC K rListS wListS := fun F M H vs ds Q Q' wd ra hw lk => by
  match ds, ra, hw with
  | [.str x], .cons r .nil, hw =>
    cases r
    exact ⟨x, rfl, hw.1, fun p hp => lk _ _ _ M (.newLst wd hp (repAll_mapS _)) (wd.laid hp) (ext_laid hp) hw.2⟩
theorem de_listS {wr : DTA} {p : Pos} (hX : DX X E k) (hm : X.mg "list" = none) (ha : DA X E [e] wr) (hg : Gl X "list" := by rfl) (he : starEach [e] X.env = (false, eval e X.env) :: starEach [] X.env := by rfl) (hpl : (backTo pos (starEach [] X.env)).any (·.1) = false := by rfl) : DE X E (.Call (.Name "list" p) [e] [] pos) (wCB wListS wr) :=
  de_cty (cr_listS hX.calm) ok_listS hm ha (by decide +kernel) hg (by decide) (by decide) he hpl
/-! ### a dict of the module's own, read by get -/
structure DicAt (K : PySem.W.Frag) (w : World) (mg : Str → Option Value) (x : Str) (kvs : List (Str × D)) : Prop where
  ex : ∃ d es n, mg x = some (.ref d) ∧ KDict K w d es n ∧ ∀ z : Str, ∃ r, PySem.W.nsIn K d z = some r ∧ match kvs.lookup z with | none => r = none | some dd => ∃ u, r = some u ∧ KRep K dd u
def tKGet (K : PySem.W.Frag) (d : Addr) (te tf : TE) : TE := fun σ H Q => te σ H fun y H1 => tf σ H1 fun z H2 => ∃ (s : Str) (r : Option Value), y = .str s ∧ PySem.W.nsIn K d s = some r ∧ match r with | none => Q z H2 | some u => ∃ v0, RelV v0 u ∧ Q v0 H2
theorem pe_kget {d : Addr} {es : Array DictEntry} {n : Nat} {o : Expr} {te tf : TE} {apos : Pos} (Dk : KDict X.K X.w d es n) (ho : PE X o (tC (.ref d))) (he : PE X e te) (hf : PE X f tf) (m : M2 X o "get" apos e f pos) : PE X (.Call (.Attribute o "get" apos) [e, f] [] pos) (tKGet X.K d te tf) := by
  refine ⟨fun pins s σ H Q I h => ?_⟩
  refine wpAny_Call_method m.base m.few m.line PySem.F.plainAttrs_dict PySem.F.slot_dict_get PySem.F.type_dict_get (thn (ho.run pins s σ H (fun v H1 => v = .ref d ∧ H1 = H) I ⟨rfl, rfl⟩) fun u s1 ⟨x, H1, I1, rx, ex, eH⟩ => ?_)
  subst ex; subst eH
  obtain rfl : u = Value.ref d := rx
  refine ⟨kd_type Dk I1, fun b q => ?_, ?_⟩
  · cases q
    exact ⟨_, I1.kIn _ _ Dk.at_, rfl⟩
  rw [m.trees]
  refine Calls.callWith_builtin rfl (Calls.evalArgs_plain (Calls.spliced_cons (thn (he.run pins s1 σ H1 _ I1 h) fun iv s2 ⟨y, H2, I2, ry, q2⟩ =>
    Calls.spliced_cons (thn (hf.run pins s2 σ H2 _ I2 q2) fun fv s3 ⟨z, H3, I3, rz, g⟩ => Calls.spliced_nil ?_))))
  obtain ⟨sx, r, ey, en, q⟩ := g
  subst ey
  obtain ⟨t, rfl⟩ := ry
  have mo := PySem.W.mapOf_K (prog := X.prog) (w := X.w) I3.kIn Dk.at_ Dk.lit
  refine call_meetsIn PySem.F.slot_dict_get (kd_type Dk I3) PySem.F.entry_dict_get (PySem.F.args_dict_get_3 _ _ _) (meets_dict_get_default (PySem.strKind X.prog X.w) d (PySem.strKind_is X.prog X.w sx t) Dk.low fv) ⟨_, mo, ?_⟩
  rw [PySem.W.find_K Dk.at_ en]
  cases r with
  | none => exact ⟨z, H3, I3.tok _, rz, q⟩
  | some u0 =>
    obtain ⟨v0, rv, q⟩ := q
    exact ⟨v0, H3, I3.tok _, rv, q⟩
def wKGet (kvs : List (Str × D)) (we wf : DTE) : DTE := fun δ M Q => we δ M fun a M1 => wf δ M1 fun b M2 => match a with | .str z => Q ((kvs.lookup z).getD b) M2 | _ => False
theorem de_kget {x : Str} {kvs : List (Str × D)} {p apos : Pos} {we wf : DTE} (h : DicAt X.K X.w X.mg x kvs) (he : DE X E e we) (hf : DE X E f wf) (m : M2 X (.Name x p) "get" apos e f pos) (hg : Gl X x := by rfl) (hdb : (x == ("__debug__" : Str)) = false := by decide) : DE X E (.Call (.Attribute (.Name x p) "get" apos) [e, f] [] pos) (wKGet kvs we wf) := by
  obtain ⟨d, es, n, hm, Dk, hl⟩ := h.ex
  refine pe_mono (pe_kget Dk (pe_glob hg hm (v := .ref d) rfl hdb) he hf m) fun σ H Q' ⟨F, δ, M, Q, sm, lx, hw, lk⟩ => ?_
  refine ⟨F, δ, M, _, sm, lx, hw, fun v H1 d1 M1 r1 w1 e1 q1 => ?_⟩
  refine ⟨F, δ, M1, _, sm.ext w1 e1, lx.ext w1 e1, q1, fun u H2 d2 M2 r2 w2 e2 q2 => ?_⟩
  cases d1 with
  | str z =>
    cases r1
    obtain ⟨r, hr, hk⟩ := hl z
    refine ⟨z, r, rfl, hr, ?_⟩
    have q2 : Q ((kvs.lookup z).getD d2) M2 := q2
    cases hz : kvs.lookup z with
    | none =>
      rw [hz] at hk q2
      have hk : r = none := hk
      subst hk
      exact lk u H2 d2 M2 r2 w2 (Ext.trans w1 e1 e2) q2
    | some dd =>
      rw [hz] at hk q2
      obtain ⟨u0, er, rep⟩ : ∃ u, r = some u ∧ KRep X.K dd u := hk
      subst er
      obtain ⟨v0, rv, rp⟩ := KRep.rep (B := Bar F M2) (H := H2) dd u0 rep
      exact ⟨v0, rv, lk v0 H2 dd M2 rp w2 (Ext.trans w1 e1 e2) q2⟩
  | _ => exact (show False from q2).elim
end
/-! ### a, b = a list -/
section
variable {X : Cx} {E : XK} {k : Nat} {e : Expr} {wa : DTE} {pos : Pos}
def wAsgL (wa : DTE) (ts : List Tg) : DTS := fun D ⟨s0, x0⟩ M => wa ⟨s0, x0⟩ M fun d M1 => match d with | .lst ds => Tg.setsK ts ds s0 fun s => D.nx ⟨s, x0⟩ M1 | _ => False
theorem ds_asgL {es : List Expr} {n : Nat} {tp : Pos} {ts : List Tg} (hX : DX X E k) (he : DE X E e wa) (h : DGs X es ts) (hn : (assignEach es X.env).length = ts.length := by rfl) (hst : (assignEach es X.env).findIdx? (·.1) = none := by rfl)
    (hs : swapsWithSole [.Tuple es n tp] e pos.line X.env = pure false := by rfl) (hw : swappedStores [.Tuple es n tp] e X.env = pure none := by rfl) (h1 : (assignEach [.Tuple es n tp] X.env).map (·.2) = [assign (.Tuple es n tp) X.env] := by rfl) : DS X E (.Assign [.Tuple es n tp] e pos) (wAsgL wa ts) := by
  refine ps_mono (ps_asg he (pg_unl hX.calm h hn hst) hs hw h1) fun Dh σ H ⟨F, δ, M, Dd, sm, lx, ld, hw⟩ => ?_
  refine ⟨F, δ, M, _, sm, lx, hw, fun v H1 d M1 r1 w1 e1 q1 => ?_⟩
  cases d with
  | lst ds =>
    cases r1 with
    | @lst a xs _ hs n ra =>
      have q1 : Tg.setsK ts ds δ.s fun s => Dd.nx ⟨s, δ.x⟩ M1 := q1
      obtain ⟨s, hs', q1⟩ := Tg.setsK_e ts ds δ.s _ q1
      exact ⟨a, xs, rfl, .of hs, by rw [ra.length]; exact Tg.sets_len ts ds _ _ hs', Tg.oks ts ds xs σ δ.s s _ (sm.ext w1 e1) ra hs' fun σ' sm' _ => ld.nx σ' H1 ⟨s, δ.x⟩ M1 sm' e1 rfl q1⟩
  | _ => exact (show False from q1).elim
end
end Bx

set_option Elab.async false
set_option linter.all false
set_option maxRecDepth 100000
set_option maxHeartbeats 4000000
namespace Bx
open PySem PySem.Spec L2 TL
open PyProof.Rows hiding St
/-! ### a clause's words, plainly -/
theorem isStart_inv {d : D} (h : isStart d = true) : ∃ b : Bool, d = .str (if b then "landing" else "release") := by
  cases d with
  | str x =>
    have h : (x == "landing" || x == "release") = true := h
    rw [Bool.or_eq_true] at h
    rcases h with h | h
    · exact ⟨true, by rw [eq_of_beq h]; rfl⟩
    · exact ⟨false, by rw [eq_of_beq h]; rfl⟩
  | _ => cases h
theorem isTruths_inv {d : D} (h : isTruths d = true) : ∃ a b : Bool, d = .tup [.bl a, .bl b] := by
  cases d with
  | tup ds =>
    match ds, h with
    | [], h => cases h
    | [_], h => revert h; simp [isTruths]
    | [a, b], h => cases a <;> cases b <;> first | exact ⟨_, _, rfl⟩ | (revert h; simp [isTruths, isBl])
    | _ :: _ :: _ :: _, h => revert h; simp [isTruths]
  | _ => revert h; simp [isTruths]
theorem isStepD_inv {d : D} (h : isStepD d = true) : ∃ p : Int × Int, d = stepD p ∧ (1 ≤ p.1 ∧ p.1 ≤ 6) ∧ 0 ≤ p.2 ∧ p.2 ≤ 5 := by
  cases d with
  | tup ds =>
    match ds, h with
    | [], h => cases h
    | [_], h => revert h; simp [isStepD]
    | [a, b], h =>
      have h : (isWholeD a 1 6 && isWholeD b 0 5) = true := h
      rw [Bool.and_eq_true] at h
      obtain ⟨i, rfl, i1⟩ := isWholeD_int h.1
      obtain ⟨j, rfl, j1⟩ := isWholeD_int h.2
      exact ⟨(i, j), rfl, i1, j1⟩
    | _ :: _ :: _ :: _, h => revert h; simp [isStepD]
  | _ => revert h; simp [isStepD]
theorem steps_inv : ∀ {ds : List D}, ds.all isStepD = true → ∃ st : List (Int × Int), ds = st.map stepD ∧ ∀ p ∈ st, (1 ≤ p.1 ∧ p.1 ≤ 6) ∧ 0 ≤ p.2 ∧ p.2 ≤ 5
  | [], _ => ⟨[], rfl, fun _ h => by cases h⟩
  | d :: ds, h => by
    rw [List.all_cons, Bool.and_eq_true] at h
    obtain ⟨p, rfl, hp⟩ := isStepD_inv h.1
    obtain ⟨st, rfl, hs⟩ := steps_inv h.2
    exact ⟨p :: st, rfl, fun q hq => by
      rcases List.mem_cons.mp hq with rfl | hq
      · exact hp
      · exact hs q hq⟩
theorem isClauseD_cl {d : D} (h : isClauseD d = true) : ∃ c : Cl, c.Ok ∧ d = c.d := by
  cases d with
  | tup ds =>
    match ds, h with
    | [b, f, e, t, s, w], h =>
      have h : (isStart b && isWholeD f 0 6 && isTruths e && isTruths t && isStepsD s && isBl w) = true := h
      rw [Bool.and_eq_true, Bool.and_eq_true, Bool.and_eq_true, Bool.and_eq_true, Bool.and_eq_true] at h
      obtain ⟨⟨⟨⟨⟨h1, h2⟩, h3⟩, h4⟩, h5⟩, h6⟩ := h
      obtain ⟨ld, rfl⟩ := isStart_inv h1
      obtain ⟨n, rfl, hn⟩ := isWholeD_int h2
      obtain ⟨e0, e1, rfl⟩ := isTruths_inv h3
      obtain ⟨s0, s1, rfl⟩ := isTruths_inv h4
      cases s with
      | tup ss =>
        have h5 : (decide (1 ≤ ss.length) && decide (ss.length ≤ 3) && ss.all isStepD && D.eqv ((ss.map fstD).getD 0 .non) (.int 1) && risesD (ss.map fstD)) = true := h5
        rw [Bool.and_eq_true, Bool.and_eq_true, Bool.and_eq_true, Bool.and_eq_true] at h5
        obtain ⟨⟨⟨⟨k1, k2⟩, k3⟩, k4⟩, k5⟩ := h5
        obtain ⟨st, rfl, hst⟩ := steps_inv k3
        have ef : (st.map stepD).map fstD = (st.map (·.1)).map D.int := by rw [List.map_map, List.map_map]; rfl
        rw [ef] at k4 k5
        rw [List.length_map] at k1 k2
        cases w with
        | bl wb =>
          refine ⟨⟨ld, n, e0, e1, s0, s1, st, wb⟩, ⟨hn, ⟨of_decide_eq_true k1, of_decide_eq_true k2⟩, hst, ?_, by rw [← rises_ints]; exact k5⟩, rfl⟩
          cases st with
          | nil => cases k1
          | cons p r =>
            have k4 : D.eqv (.int p.1) (.int 1) = true := k4
            rw [eqv_int] at k4
            show some p.1 = some 1
            rw [eq_of_beq k4]
        | _ => cases h6
      | _ => cases h5
  | _ => cases h
def yn : Bool → Str | true => "yes" | false => "no"
def numS (i : Int) : Str := toString i
def startS : Bool → Str | true => "landing" | false => "release"
def stepsW : List (Int × Int) → List Str
  | [] => []
  | p :: r => numS p.1 :: numS p.2 :: stepsW r
def bodyW (c : Cl) : List Str := "from" :: startS c.land :: "free" :: numS c.free :: "ends" :: yn c.e0 :: yn c.e1 :: "stops" :: yn c.s0 :: yn c.s1 :: "steps" :: stepsW c.steps
def wordsC (c : Cl) : List Str := bodyW c ++ (match c.whole with | true => ["whole"] | false => [])
def textC (c : Cl) : Str := Txt.join " " (wordsC c)
def fig (w : Str) : D := match tl w with
  | [n] => (match decide (48 ≤ n ∧ n ≤ 57) with | true => .int ((n : Int) - 48) | false => .non)
  | _ => .non
def look (w : Str) : D := match w == "yes" with | true => .bl true | false => (match w == "no" with | true => .bl false | false => .non)
def pairsF : List D → List D
  | a :: b :: r => .tup [a, b] :: pairsF r
  | [a] => [.tup [a]]
  | [] => []
def wholeOf (W : List Str) : Bool := W.getLast? == some ("whole" : Str)
def restOf (W : List Str) : List Str := match wholeOf W with | true => W.dropLast | false => W
def clauseIn (W : List Str) : D := match decide ((restOf W).length < 4) with
  | true => .non
  | false => .tup [.str ((restOf W).getD 1 Str.empty), fig ((restOf W).getD 3 Str.empty), .tup ((((restOf W).drop 5).take 2).map look), .tup ((((restOf W).drop 8).take 2).map look), .tup (pairsF (((restOf W).drop 11).map fig)), .bl (wholeOf W)]
theorem fig_num : ∀ i : Int, 0 ≤ i → i ≤ 9 → fig (numS i) = .int i ∧ (numS i == ("whole" : Str)) = false ∧ 32 ∉ tl (numS i) := by
  have h : ∀ n : Nat, n ≤ 9 → fig (numS (n : Int)) = .int (n : Int) ∧ (numS (n : Int) == ("whole" : Str)) = false ∧ 32 ∉ tl (numS (n : Int)) := fun n hn => by
    match n, hn with
    | 0, _ | 1, _ | 2, _ | 3, _ | 4, _ | 5, _ | 6, _ | 7, _ | 8, _ | 9, _ => exact ⟨rfl, by decide +kernel, by decide +kernel⟩
    | n + 10, h => exact absurd h (by omega)
  intro i h1 h2
  have := h i.toNat (by omega)
  rwa [show ((i.toNat : Nat) : Int) = i by omega] at this
theorem num_fig {w : Str} {i : Int} (h : fig w = .int i) : w = numS i := by
  unfold fig at h
  match e : tl w with
  | [] => rw [e] at h; cases h
  | _ :: _ :: _ => rw [e] at h; cases h
  | [n] =>
    rw [e] at h
    by_cases hn : 48 ≤ n ∧ n ≤ 57
    · have h : (match decide (48 ≤ n ∧ n ≤ 57) with | true => D.int ((n : Int) - 48) | false => .non) = .int i := h
      rw [decide_eq_true hn] at h
      have hi : (n : Int) - 48 = i := by cases h; rfl
      subst hi
      have key : ∀ m : Nat, m ≤ 9 → tl (numS (((48 + m : Nat) : Int) - 48)) = [48 + m] := fun m hm => by
        match m, hm with
        | 0, _ | 1, _ | 2, _ | 3, _ | 4, _ | 5, _ | 6, _ | 7, _ | 8, _ | 9, _ => decide +kernel
        | m + 10, h => exact absurd h (by omega)
      have k := key (n - 48) (by omega)
      rw [show 48 + (n - 48) = n by omega] at k
      exact ext_tl (e.trans k.symm)
    · have h : (match decide (48 ≤ n ∧ n ≤ 57) with | true => D.int ((n : Int) - 48) | false => .non) = .int i := h
      rw [decide_eq_false hn] at h
      cases h
theorem look_yn {w : Str} {b : Bool} (h : look w = .bl b) : w = yn b := by
  unfold look at h
  cases h1 : (w == "yes") with
  | true => rw [h1] at h; cases h; exact eq_of_beq h1
  | false =>
    rw [h1] at h
    cases h2 : (w == "no") with
    | true =>
      have h : (match w == "no" with | true => D.bl false | false => .non) = .bl b := h
      rw [h2] at h; cases h; exact eq_of_beq h2
    | false =>
      have h : (match w == "no" with | true => D.bl false | false => .non) = .bl b := h
      rw [h2] at h; cases h
theorem yn_look (b : Bool) : look (yn b) = .bl b := by cases b <;> rfl
theorem pairs_inv : ∀ (st : List (Int × Int)) (L : List Str), pairsF (L.map fig) = st.map stepD → L = stepsW st
  | [], [], _ => rfl
  | [], [_], h => by cases h
  | [], _ :: _ :: _, h => by cases h
  | _ :: _, [], h => by cases h
  | p :: r, [_], h => by
    have h : [D.tup [_]] = stepD p :: r.map stepD := h
    have h1 := congrArg List.length (D.tup.inj (List.cons.inj h).1)
    cases h1
  | p :: r, a :: b :: L, h => by
    have h : D.tup [fig a, fig b] :: pairsF (L.map fig) = stepD p :: r.map stepD := h
    obtain ⟨h1, h2⟩ := List.cons.inj h
    have h3 : [fig a, fig b] = [.int p.1, .int p.2] := D.tup.inj h1
    obtain ⟨h4, h5⟩ := List.cons.inj h3
    rw [num_fig h4, num_fig (List.cons.inj h5).1, pairs_inv r L h2]
    rfl
theorem pairs_of : ∀ (st : List (Int × Int)), (∀ p ∈ st, (1 ≤ p.1 ∧ p.1 ≤ 6) ∧ 0 ≤ p.2 ∧ p.2 ≤ 5) → pairsF ((stepsW st).map fig) = st.map stepD
  | [], _ => rfl
  | p :: r, h => by
    have hp := h p (by simp)
    show D.tup [fig (numS p.1), fig (numS p.2)] :: pairsF ((stepsW r).map fig) = _
    rw [(fig_num p.1 (by omega) (by omega)).1, (fig_num p.2 (by omega) (by omega)).1, pairs_of r fun q hq => h q (by simp [hq])]
    rfl
/-- the law's look at the words -/
def condR (R : List Str) : Bool := decide (13 ≤ R.length) && (R.length % 2 == 1) && ([R.getD 0 Str.empty, R.getD 2 Str.empty, R.getD 4 Str.empty, R.getD 7 Str.empty, R.getD 10 Str.empty] == (["from", "free", "ends", "stops", "steps"] : List Str))
def readL (t : Str) : D := match condR (restOf (Txt.split t " ")) && isClauseD (clauseIn (Txt.split t " ")) with | true => clauseIn (Txt.split t " ") | false => .non
theorem bodyW_len (c : Cl) : (bodyW c).length = 11 + 2 * c.steps.length := by
  have : ∀ st : List (Int × Int), (stepsW st).length = 2 * st.length := fun st => by
    induction st with
    | nil => rfl
    | cons p r ih =>
      show (stepsW r).length + 1 + 1 = 2 * (r.length + 1)
      omega
  show (stepsW c.steps).length + 1 + 1 + 1 + 1 + 1 + 1 + 1 + 1 + 1 + 1 + 1 = _
  rw [this]
  omega
theorem steps_last : ∀ (st : List (Int × Int)) (p : Int × Int), (stepsW (st ++ [p])).getLast? = some (numS p.2)
  | [], p => rfl
  | q :: r, p => by
    have ih := steps_last r p
    have e : stepsW (q :: r ++ [p]) = numS q.1 :: numS q.2 :: stepsW (r ++ [p]) := rfl
    rw [e]
    cases h : stepsW (r ++ [p]) with
    | nil => rw [h] at ih; cases ih
    | cons a b =>
      rw [h] at ih
      rw [List.getLast?_cons_cons, List.getLast?_cons_cons]
      exact ih
theorem restOf_words {c : Cl} (hc : c.Ok) : restOf (wordsC c) = bodyW c ∧ wholeOf (wordsC c) = c.whole := by
  have hw : wholeOf (wordsC c) = c.whole := by
    unfold wholeOf wordsC
    cases hwh : c.whole with
    | true =>
      show ((bodyW c ++ [("whole" : Str)]).getLast? == some ("whole" : Str)) = true
      rw [List.getLast?_append]
      rfl
    | false =>
      show ((bodyW c ++ []).getLast? == some ("whole" : Str)) = false
      rw [List.append_nil]
      obtain ⟨xs, z, e⟩ : ∃ xs z, c.steps = xs ++ [z] := by
        have := hc.len.1
        exact ⟨_, _, (List.dropLast_concat_getLast (fun e => by rw [e] at this; simp at this)).symm⟩
      have hz := (hc.step z (by rw [e]; simp)).2
      have eb : bodyW c = [("from" : Str), startS c.land, "free", numS c.free, "ends", yn c.e0, yn c.e1, "stops", yn c.s0, yn c.s1, "steps"] ++ stepsW (xs ++ [z]) := by unfold bodyW; rw [e]; rfl
      rw [eb, List.getLast?_append, steps_last]
      show (some (numS z.2) == some ("whole" : Str)) = false
      have := (fig_num z.2 hz.1 (by omega)).2.1
      show (numS z.2 == ("whole" : Str)) = false
      exact this
  refine ⟨?_, hw⟩
  unfold restOf
  rw [hw]
  unfold wordsC
  cases c.whole with
  | true => show (bodyW c ++ [("whole" : Str)]).dropLast = bodyW c; rw [List.dropLast_concat]
  | false => show bodyW c ++ [] = bodyW c; rw [List.append_nil]
theorem clauseIn_words {c : Cl} (hc : c.Ok) : clauseIn (wordsC c) = c.d := by
  obtain ⟨h1, h2⟩ := restOf_words hc
  unfold clauseIn
  rw [h1, h2]
  have hl : decide ((bodyW c).length < 4) = false := decide_eq_false (by rw [bodyW_len]; omega)
  rw [hl]
  show D.tup [.str (startS c.land), fig (numS c.free), .tup [look (yn c.e0), look (yn c.e1)], .tup [look (yn c.s0), look (yn c.s1)], .tup (pairsF ((stepsW c.steps).map fig)), .bl c.whole] = c.d
  rw [yn_look, yn_look, yn_look, yn_look, (fig_num c.free hc.free.1 (by have := hc.free.2; omega)).1, pairs_of c.steps hc.step]
  unfold Cl.d
  cases c.land <;> rfl
theorem cond_words {c : Cl} (hc : c.Ok) : condR (bodyW c) = true := by
  unfold condR
  have := hc.len.1
  rw [bodyW_len, decide_eq_true (show 13 ≤ 11 + 2 * c.steps.length by omega), show (11 + 2 * c.steps.length) % 2 = 1 by omega]
  rfl
/-- the words of a clause that is read -/
theorem words_of {W : List Str} {c : Cl} (hW : clauseIn W = c.d) (hR : condR (restOf W) = true) : W = wordsC c := by
  unfold condR at hR
  rw [Bool.and_eq_true, Bool.and_eq_true] at hR
  obtain ⟨⟨h1, _⟩, h3⟩ := hR
  have h1 := of_decide_eq_true h1
  have h3 := eq_of_beq h3
  unfold clauseIn at hW
  rw [decide_eq_false (show ¬ (restOf W).length < 4 by omega)] at hW
  obtain ⟨R, eR⟩ : ∃ R, R = restOf W := ⟨_, rfl⟩
  rw [← eR] at hW h1 h3
  match R, h1, h3, hW, eR with
  | r0 :: r1 :: r2 :: r3 :: r4 :: r5 :: r6 :: r7 :: r8 :: r9 :: r10 :: T, _, h3, hW, eR =>
    have h3 : [r0, r2, r4, r7, r10] = ([("from" : Str), "free", "ends", "stops", "steps"] : List Str) := h3
    have hW : D.tup [.str r1, fig r3, .tup [look r5, look r6], .tup [look r8, look r9], .tup (pairsF (T.map fig)), .bl (wholeOf W)] = .tup [.str (if c.land then "landing" else "release"), .int c.free, .tup [.bl c.e0, .bl c.e1], .tup [.bl c.s0, .bl c.s1], .tup (c.steps.map stepD), .bl c.whole] := hW
    simp only [List.cons.injEq, and_true] at h3
    obtain ⟨e0, e2, e4, e7, e10⟩ := h3
    simp only [D.tup.injEq, List.cons.injEq, D.str.injEq, D.bl.injEq, and_true] at hW
    obtain ⟨k1, k3, ⟨k5, k6⟩, ⟨k8, k9⟩, kT, kw⟩ := hW
    have hR : restOf W = bodyW c := by
      rw [← eR, e0, e2, e4, e7, e10, num_fig k3, look_yn k5, look_yn k6, look_yn k8, look_yn k9, pairs_inv _ _ kT, k1]
      unfold bodyW startS
      cases c.land <;> rfl
    unfold restOf at hR
    unfold wordsC
    rw [kw] at hR
    unfold wholeOf at kw
    cases hc : c.whole with
    | false => rw [hc] at hR; show W = bodyW c ++ []; rw [List.append_nil]; exact hR
    | true =>
      rw [hc] at hR kw
      have kw := eq_of_beq kw
      show W = bodyW c ++ [("whole" : Str)]
      rw [← hR]
      have ne : W ≠ [] := fun e => by rw [e] at kw; cases kw
      obtain ⟨ys, hy⟩ := List.getLast?_eq_some_iff.mp kw
      rw [hy, List.dropLast_concat]
/-! ### the text, as the program puts it together -/
theorem numS_len : ∀ i : Int, 0 ≤ i → i ≤ 9 → (numS i).length = 1 := by
  have h : ∀ n : Nat, n ≤ 9 → (numS (n : Int)).length = 1 := fun n hn => by
    match n, hn with
    | 0, _ | 1, _ | 2, _ | 3, _ | 4, _ | 5, _ | 6, _ | 7, _ | 8, _ | 9, _ => decide +kernel
    | n + 10, h => exact absurd h (by omega)
  intro i h1 h2
  have := h i.toNat (by omega)
  rwa [show ((i.toNat : Nat) : Int) = i by omega] at this
theorem len_app (x y : Str) : (x ++ y).length = x.length + y.length := by rw [len_tl, len_tl, len_tl, tl_append, List.length_append]
def ttS (a b : Bool) : Str := Txt.join " " [yn a, yn b]
def headS (c : Cl) : Str := Str.empty ++ "from " ++ startS c.land ++ " free " ++ numS c.free ++ " ends " ++ ttS c.e0 c.e1 ++ " stops " ++ ttS c.s0 c.s1 ++ " steps"
def addS (acc : Str) (p : Int × Int) : Str := Str.empty ++ acc ++ " " ++ numS p.1 ++ " " ++ numS p.2
def endS (x : Str) : Bool → Str | true => x ++ " whole" | false => x
theorem ttS_len (a b : Bool) : (ttS a b).length ≤ 7 := by cases a <;> cases b <;> decide +kernel
theorem startS_len (b : Bool) : (startS b).length = 7 := by cases b <;> decide +kernel
def tailL : List (Int × Int) → List Nat
  | [] => []
  | p :: r => 32 :: (tl (numS p.1) ++ 32 :: (tl (numS p.2) ++ tailL r))
theorem join_tail : ∀ (st : List (Int × Int)) (x : List Nat), joinL [32] (x :: (stepsW st).map tl) = x ++ tailL st
  | [], x => by show x = x ++ []; rw [List.append_nil]
  | p :: r, x => by
    show x ++ ([32] ++ (tl (numS p.1) ++ ([32] ++ joinL [32] (tl (numS p.2) :: (stepsW r).map tl)))) = _
    rw [join_tail r]; rfl
theorem join_end : ∀ (L : List (List Nat)) (w : List Nat), L ≠ [] → joinL [32] (L ++ [w]) = joinL [32] L ++ 32 :: w
  | [], _, h => absurd rfl h
  | [x], w, _ => rfl
  | x :: y :: r, w, _ => by
    show x ++ ([32] ++ joinL [32] (y :: r ++ [w])) = (x ++ ([32] ++ joinL [32] (y :: r))) ++ 32 :: w
    rw [join_end (y :: r) w (by simp)]
    simp
theorem fold_tail : ∀ (st : List (Int × Int)) (acc : Str), tl (st.foldl addS acc) = tl acc ++ tailL st
  | [], acc => by show tl acc = tl acc ++ []; rw [List.append_nil]
  | p :: r, acc => by
    show tl (r.foldl addS (addS acc p)) = _
    rw [fold_tail r]
    unfold addS
    rw [tl_append, tl_append, tl_append, tl_append, tl_append]
    show ([] ++ tl acc ++ [32] ++ tl (numS p.1) ++ [32] ++ tl (numS p.2)) ++ tailL r = tl acc ++ 32 :: (tl (numS p.1) ++ 32 :: (tl (numS p.2) ++ tailL r))
    simp
theorem text_eq (c : Cl) : endS (c.steps.foldl addS (headS c)) c.whole = textC c := by
  refine ext_tl ?_
  unfold textC
  rw [join_eq, tl_join]
  have e32 : tl (" " : Str) = [32] := by decide +kernel
  rw [e32]
  have body : joinL [32] ((bodyW c).map tl) = tl (c.steps.foldl addS (headS c)) := by
    rw [fold_tail]
    have eh : (bodyW c).map tl = tl "from" :: tl (startS c.land) :: tl "free" :: tl (numS c.free) :: tl "ends" :: tl (yn c.e0) :: tl (yn c.e1) :: tl "stops" :: tl (yn c.s0) :: tl (yn c.s1) :: tl "steps" :: (stepsW c.steps).map tl := rfl
    rw [eh]
    show tl "from" ++ ([32] ++ (tl (startS c.land) ++ ([32] ++ (tl "free" ++ ([32] ++ (tl (numS c.free) ++ ([32] ++ (tl "ends" ++ ([32] ++ (tl (yn c.e0) ++ ([32] ++ (tl (yn c.e1) ++ ([32] ++ (tl "stops" ++ ([32] ++ (tl (yn c.s0) ++ ([32] ++ (tl (yn c.s1) ++ ([32] ++ joinL [32] (tl "steps" :: (stepsW c.steps).map tl)))))))))))))))))))) = _
    rw [join_tail]
    have et : ∀ a b : Bool, tl (ttS a b) = tl (yn a) ++ 32 :: tl (yn b) := fun a b => by cases a <;> cases b <;> decide +kernel
    have e1 : tl ("from " : Str) = tl ("from" : Str) ++ [32] := by decide +kernel
    have e2 : tl (" free " : Str) = 32 :: (tl ("free" : Str) ++ [32]) := by decide +kernel
    have e3 : tl (" ends " : Str) = 32 :: (tl ("ends" : Str) ++ [32]) := by decide +kernel
    have e4 : tl (" stops " : Str) = 32 :: (tl ("stops" : Str) ++ [32]) := by decide +kernel
    have e5 : tl (" steps" : Str) = 32 :: tl ("steps" : Str) := by decide +kernel
    have e0 : tl Str.empty = [] := rfl
    unfold headS
    rw [tl_append, tl_append, tl_append, tl_append, tl_append, tl_append, tl_append, tl_append, tl_append, et, et, e1, e2, e3, e4, e5, e0]
    simp
  unfold wordsC
  cases c.whole with
  | false =>
    show tl (c.steps.foldl addS (headS c)) = joinL [32] ((bodyW c ++ []).map tl)
    rw [List.append_nil, body]
  | true =>
    show tl (c.steps.foldl addS (headS c) ++ " whole") = joinL [32] ((bodyW c ++ [("whole" : Str)]).map tl)
    have e6 : tl (" whole" : Str) = 32 :: tl ("whole" : Str) := by decide +kernel
    rw [List.map_append, tl_append, e6, ← body]
    exact (join_end _ _ (by simp [bodyW])).symm
theorem split_text {c : Cl} (hc : c.Ok) : Txt.split (textC c) " " = wordsC c := by
  have lit : ∀ x ∈ ([("from" : Str), "free", "ends", "stops", "steps", "landing", "release", "yes", "no", "whole"] : List Str), 32 ∉ tl x := by decide +kernel
  have hs : ∀ b, 32 ∉ tl (startS b) := fun b => by cases b <;> decide +kernel
  have hy : ∀ b, 32 ∉ tl (yn b) := fun b => by cases b <;> decide +kernel
  have hst : ∀ st : List (Int × Int), (∀ p ∈ st, (1 ≤ p.1 ∧ p.1 ≤ 6) ∧ 0 ≤ p.2 ∧ p.2 ≤ 5) → ∀ x ∈ stepsW st, 32 ∉ tl x := fun st => by
    induction st with
    | nil => exact fun _ x hx => by cases hx
    | cons p r ih =>
      intro hp x hx
      have h1 := hp p (by simp)
      have hx : x ∈ numS p.1 :: numS p.2 :: stepsW r := hx
      rcases List.mem_cons.mp hx with rfl | hx
      · exact (fig_num p.1 (by omega) (by omega)).2.2
      · rcases List.mem_cons.mp hx with rfl | hx
        · exact (fig_num p.2 (by omega) (by omega)).2.2
        · exact ih (fun q hq => hp q (by simp [hq])) x hx
  refine split_join (s := 32) (S := []) (by decide +kernel) (by decide +kernel) (by simp [wordsC, bodyW]) fun x hx => ?_
  unfold wordsC at hx
  rcases List.mem_append.mp hx with hx | hx
  · unfold bodyW at hx
    simp only [List.mem_cons] at hx
    rcases hx with rfl | rfl | rfl | rfl | rfl | rfl | rfl | rfl | rfl | rfl | rfl | hx
    · exact lit _ (by simp)
    · exact hs _
    · exact lit _ (by simp)
    · exact (fig_num c.free hc.free.1 (by have := hc.free.2; omega)).2.2
    · exact lit _ (by simp)
    · exact hy _
    · exact hy _
    · exact lit _ (by simp)
    · exact hy _
    · exact hy _
    · exact lit _ (by simp)
    · exact hst _ hc.step x hx
  · cases hw : c.whole with
    | false => rw [hw] at hx; cases hx
    | true => rw [hw] at hx; rw [List.mem_singleton.mp hx]; exact lit _ (by simp)
/-! ### short ways -/
theorem lc_onE {α : Type} {ds : List D} {xs : List α} {f : α → D} (e : ds = xs.map f) {δ : DSt} {t : Tg} {te : DTE} {vs : List Nat} {Q : DK} {M : Mem} (g : α → D) (hlen : xs.length ≤ sizeLine)
    (turn : ∀ x ∈ xs, ∀ (Y : DK), Y (g x) M → t.setK (f x) (wipeD δ.s vs) fun s => te ⟨s, noX⟩ M fun y M3 => Y y M3) (done : Q (.lst (xs.map g)) M) : LcGoal ds δ t wYes te vs Q M := by
  subst e
  exact lc_on g hlen turn done
theorem cut_to {L L' : List D} {lo hi : Option Int} {M : Mem} {Q : DK} (e : cutD L lo hi = L') (q : Q (.lst L') M) : wCutV (.lst L) lo hi M Q := by
  subst e
  exact q
theorem eqv_str (x y : Str) : D.eqv (.str x) (.str y) = (x == y) := by simp [D.eqv]
theorem look_lookup (w : Str) : (List.lookup w [(("yes" : Str), D.bl true), ("no", .bl false)]).getD .non = look w := by
  unfold look
  rw [List.lookup_cons]
  cases w == ("yes" : Str) with
  | true => rfl
  | false =>
    rw [List.lookup_cons]
    cases w == ("no" : Str) <;> rfl
theorem cut_nat {L : List D} (a b : Nat) (h : a ≤ b) : cutD L (some (a : Int)) (some (b : Int)) = (L.drop a).take (b - a) := by
  unfold cutD
  rw [HT.sIx_nat, HT.sIx_nat]
  by_cases ha : a ≤ L.length
  · rw [Nat.min_eq_left ha]
    by_cases hb : b ≤ L.length
    · rw [Nat.min_eq_left hb]
    · rw [Nat.min_eq_right (by omega), List.take_of_length_le (by rw [List.length_drop]; exact Nat.le_refl _), List.take_of_length_le (by rw [List.length_drop]; omega)]
  · rw [Nat.min_eq_right (by omega), Nat.min_eq_right (by omega), List.drop_of_length_le (Nat.le_refl _), List.drop_of_length_le (by omega)]
    simp
theorem cut_from {L : List D} (a : Nat) : cutD L (some (a : Int)) none = L.drop a := by
  unfold cutD
  rw [HT.sIx_nat, HT.sIx_none]
  by_cases ha : a ≤ L.length
  · rw [Nat.min_eq_left ha, List.take_of_length_le (by rw [List.length_drop]; exact Nat.le_refl _)]
  · rw [Nat.min_eq_right (by omega), List.drop_of_length_le (Nat.le_refl _), List.drop_of_length_le (by omega)]
    simp
theorem cut_lastD {L : List D} (x : D) : cutD (L ++ [x]) none (some (-1)) = L := by
  unfold cutD
  rw [HT.sIx_none]
  have e : HT.sIx (L ++ [x]).length (L ++ [x]).length (some (-1)) = L.length := by
    show (if (-1 : Int) < 0 then (-1 + ((L ++ [x]).length : Int)).toNat else min (-1 : Int).toNat (L ++ [x]).length) = _
    rw [if_pos (by decide), List.length_append]
    show (-1 + ((L.length + 1 : Nat) : Int)).toNat = L.length
    omega
  rw [e, Nat.sub_zero, List.drop_zero, List.take_left]
theorem pairsF_eq : ∀ (n : Nat) (L : List D), n = (L.length + 1) / 2 → pairsF L = (List.range n).map fun i => .tup ((L.drop (2 * i)).take 2)
  | n, [], h => by
    have : n = 0 := by rw [h]; rfl
    subst this; rfl
  | n, [a], h => by
    have : n = 1 := by
      have h : n = (1 + 1) / 2 := h
      omega
    subst this; rfl
  | n, a :: b :: r, h => by
    have : n = (r.length + 1) / 2 + 1 := by
      rw [h]
      show (r.length + 1 + 1 + 1) / 2 = _
      omega
    subst this
    rw [List.range_succ_eq_map, List.map_cons, List.map_map]
    show D.tup [a, b] :: pairsF r = D.tup [a, b] :: _
    rw [pairsF_eq _ r rfl]
    congr 1
theorem sl_cut {wa : DTE} {wl wh : DTO} {δ : DSt} {M : Mem} {Q : DK} {L L' : List D} {lo hi : Option Int} (ha : ∀ R : DK, wa δ M R = R (.lst L) M) (hl : ∀ R : Option Int → Mem → Prop, wl δ M R = R lo M) (hh : ∀ R : Option Int → Mem → Prop, wh δ M R = R hi M) (e : cutD L lo hi = L') (q : Q (.lst L') M) : wSl wCutV wa wl wh δ M Q := by
  unfold wSl
  rw [ha, hl, hh]
  exact cut_to e q
theorem tup_cut {wa : DTE} {wl wh : DTO} {δ : DSt} {M : Mem} {Q : DK} {L L' : List D} {lo hi : Option Int} (ha : ∀ R : DK, wa δ M R = R (.lst L) M) (hl : ∀ R : Option Int → Mem → Prop, wl δ M R = R lo M) (hh : ∀ R : Option Int → Mem → Prop, wh δ M R = R hi M) (e : cutD L lo hi = L') (q : Q (.tup L') M) : wCB wTupOf (wCons (wSl wCutV wa wl wh) wNil) δ M Q := by
  show wSl wCutV wa wl wh δ M _
  exact sl_cut ha hl hh e q
/-! ### the words of any text -/
theorem spl_ne (S : List Nat) : ∀ (l : List Nat) (k : Nat) (acc : List Nat), spl S k acc l ≠ []
  | [], k, acc => by rw [spl_nil]; simp
  | c :: r, 0, acc => by
    cases h : pre S (c :: r) with
    | true => rw [spl_hit h]; simp
    | false => rw [spl_miss h]; exact spl_ne S r 0 _
  | c :: r, k + 1, acc => spl_ne S r k acc
theorem split_ne (t : Str) : Txt.split t " " ≠ [] := fun e => by
  have h := split_spl t " " (by decide +kernel) (kind_ok (by decide +kernel))
  rw [e] at h
  exact spl_ne _ _ _ _ h.symm
theorem joinL_facts : ∀ parts : List (List Nat), parts.length ≤ (joinL [32] parts).length + 1 ∧ ∀ p ∈ parts, p.length ≤ (joinL [32] parts).length ∧ ∀ c ∈ p, c ∈ joinL [32] parts
  | [] => ⟨Nat.zero_le _, fun _ h => by cases h⟩
  | [p] => ⟨Nat.le_add_left _ _, fun q h => by rw [List.mem_singleton.mp h]; exact ⟨Nat.le_refl _, fun _ h => h⟩⟩
  | p :: q :: r => by
    obtain ⟨h1, h2⟩ := joinL_facts (q :: r)
    have e : joinL [32] (p :: q :: r) = p ++ ([32] ++ joinL [32] (q :: r)) := rfl
    rw [e]
    refine ⟨?_, fun x hx => ?_⟩
    · rw [List.length_append, List.length_append, List.length_cons, List.length_singleton]
      omega
    · rcases List.mem_cons.mp hx with rfl | hx
      · exact ⟨by rw [List.length_append]; omega, fun c hc => List.mem_append_left _ hc⟩
      · obtain ⟨k1, k2⟩ := h2 x hx
        exact ⟨by rw [List.length_append, List.length_append]; omega, fun c hc => List.mem_append_right _ (List.mem_append_right _ (k2 c hc))⟩
theorem strOk_iff (x : Str) : PyData.strOk x = true ↔ ∀ c ∈ tl x, c < 0x110000 := by
  unfold PyData.strOk
  rw [← Array.all_toList, List.all_eq_true]
  constructor
  · exact fun h c hc => of_decide_eq_true (h c hc)
  · exact fun h c hc => decide_eq_true (h c hc)
theorem split_facts (t : Str) (ht : PyData.strOk t = true) : (Txt.split t " ").length ≤ t.length + 1 ∧ ∀ w ∈ Txt.split t " ", w.length ≤ t.length ∧ PyData.strOk w = true := by
  have e := StrLaws.join_split t " "
  have e2 : joinL [32] ((Txt.split t " ").map tl) = tl t := by
    have h := tl_join " " (Txt.split t " ")
    rw [e] at h
    rw [h]
    have e32 : tl (" " : Str) = [32] := by decide +kernel
    rw [e32]
  obtain ⟨h1, h2⟩ := joinL_facts ((Txt.split t " ").map tl)
  rw [e2] at h1 h2
  rw [List.length_map] at h1
  rw [len_tl]
  refine ⟨h1, fun w hw => ?_⟩
  obtain ⟨k1, k2⟩ := h2 (tl w) (List.mem_map_of_mem hw)
  exact ⟨by rw [len_tl]; exact k1, (strOk_iff w).mpr fun c hc => (strOk_iff t).mp ht c (k2 c hc)⟩
/-- the text that a clause's words make, read again -/
theorem read_text {c : Cl} (hc : c.Ok) : clauseIn (Txt.split (textC c) " ") = c.d := by rw [split_text hc, clauseIn_words hc]
theorem text_inj {c c' : Cl} (hc : c.Ok) (hc' : c'.Ok) (h : textC c = textC c') : c.d = c'.d := by rw [← read_text hc, h, read_text hc']
/-- both readers -/
theorem readL_yes {c : Cl} (hc : c.Ok) : readL (textC c) = c.d := by
  unfold readL
  rw [read_text hc, split_text hc, (restOf_words hc).1, cond_words hc, isClauseD_ok hc]; rfl
theorem readL_no {t : Str} (h : ∀ c : Cl, c.Ok → t ≠ textC c) : readL t = .non := by
  unfold readL
  cases h1 : condR (restOf (Txt.split t " ")) with
  | false => rfl
  | true =>
    cases h2 : isClauseD (clauseIn (Txt.split t " ")) with
    | false => rfl
    | true =>
      obtain ⟨c, hc, e⟩ := isClauseD_cl h2
      have hw := words_of e h1
      refine absurd ?_ (h c hc)
      unfold textC
      rw [← hw, join_eq, StrLaws.join_split]
/-- what stands in the words of a clause -/
theorem clause_words {W : List Str} (h4 : ¬ (restOf W).length < 4) (h : isClauseD (clauseIn W) = true) :
    (∀ w ∈ ((restOf W).drop 5).take 2 ++ ((restOf W).drop 8).take 2, w = "yes" ∨ w = "no") ∧ (∀ w ∈ (restOf W).getD 3 Str.empty :: (restOf W).drop 11, ∃ i : Int, 0 ≤ i ∧ i ≤ 9 ∧ w = numS i) := by
  obtain ⟨c, hc, e⟩ := isClauseD_cl h
  unfold clauseIn at e
  rw [decide_eq_false h4] at e
  have e : D.tup [.str ((restOf W).getD 1 Str.empty), fig ((restOf W).getD 3 Str.empty), .tup ((((restOf W).drop 5).take 2).map look), .tup ((((restOf W).drop 8).take 2).map look), .tup (pairsF (((restOf W).drop 11).map fig)), .bl (wholeOf W)] = .tup [.str (if c.land then "landing" else "release"), .int c.free, .tup [.bl c.e0, .bl c.e1], .tup [.bl c.s0, .bl c.s1], .tup (c.steps.map stepD), .bl c.whole] := e
  simp only [D.tup.injEq, List.cons.injEq, D.str.injEq, D.bl.injEq, and_true] at e
  obtain ⟨k1, k3, k5, k8, kT, kw⟩ := e
  have yes : ∀ (l : List Str) (a b : Bool), l.map look = [.bl a, .bl b] → ∀ w ∈ l, w = "yes" ∨ w = "no" := fun l a b hl w hw => by
    have hm := List.mem_map_of_mem (f := look) hw
    rw [hl] at hm
    have key : ∀ x : Bool, look w = .bl x → w = "yes" ∨ w = "no" := fun x hx => by
      rw [look_yn hx]
      cases x
      · exact .inr rfl
      · exact .inl rfl
    rcases List.mem_cons.mp hm with hm | hm
    · exact key _ hm
    · exact key _ (List.mem_singleton.mp hm)
  have hst : ∀ st : List (Int × Int), (∀ p ∈ st, (1 ≤ p.1 ∧ p.1 ≤ 6) ∧ 0 ≤ p.2 ∧ p.2 ≤ 5) → ∀ x ∈ stepsW st, ∃ i : Int, 0 ≤ i ∧ i ≤ 9 ∧ x = numS i := fun st => by
    induction st with
    | nil => exact fun _ x hx => by cases hx
    | cons p r ih =>
      intro hp x hx
      have h1 := hp p (by simp)
      have hx : x ∈ numS p.1 :: numS p.2 :: stepsW r := hx
      rcases List.mem_cons.mp hx with rfl | hx
      · exact ⟨p.1, by omega, by omega, rfl⟩
      · rcases List.mem_cons.mp hx with rfl | hx
        · exact ⟨p.2, by omega, by omega, rfl⟩
        · exact ih (fun q hq => hp q (by simp [hq])) x hx
  refine ⟨fun w hw => ?_, fun w hw => ?_⟩
  · rcases List.mem_append.mp hw with hw | hw
    · exact yes _ _ _ k5 w hw
    · exact yes _ _ _ k8 w hw
  · rcases List.mem_cons.mp hw with rfl | hw
    · exact ⟨c.free, hc.free.1, by have := hc.free.2; omega, num_fig k3⟩
    · rw [pairs_inv _ _ kT] at hw
      exact hst _ hc.step w hw
theorem lc_filE {α : Type} {ds : List D} {xs : List α} {f : α → D} (e : ds = xs.map f) {δ : DSt} {t : Tg} {tt : DTT} {te : DTE} {vs : List Nat} {Q : DK} {M : Mem} (p : α → Bool) (g : α → D) (hlen : xs.length ≤ sizeLine)
    (turn : ∀ x ∈ xs, ∀ (Y : DK) (N : Mem → Prop), (p x = true → Y (g x) M) → (p x = false → N M) → t.setK (f x) (wipeD δ.s vs) fun s => tt ⟨s, noX⟩ M fun b M2 => onT b (te ⟨s, noX⟩ M2 fun y M3 => Y y M3) (N M2)) (done : Q (.lst ((xs.filter p).map g)) M) : LcGoal ds δ t tt te vs Q M := by
  subst e
  exact lc_fil p g hlen turn done
def notYn (w : Str) : Bool := !(w == "yes" || w == "no")
theorem yn_any (w : Str) : ([D.str "yes", D.str "no"].any fun z => D.eqv z (.str w)) = (w == "yes" || w == "no") := by
  simp only [List.any_cons, List.any_nil, eqv_str, Bool.or_false]
  rw [Bool.beq_comm, Bool.beq_comm (a := ("no" : Str))]
end Bx

set_option Elab.async false
set_option linter.all false
set_option maxRecDepth 100000
set_option maxHeartbeats 4000000
namespace Bx
open PySem PySem.Spec L2
open PyProof.Rows hiding St
/-! ### one token is out: str.replace with written texts -/
abbrev DEk (X : Cx) (E : XK) (e : Expr) (w : DTE) : Prop := PET X e (liftE X.K E w)
abbrev DAk (X : Cx) (E : XK) (es : List Expr) (w : DTA) : Prop := PAT X es (liftA X.K E w)
abbrev DSk (X : Cx) (E : XK) (st : Stmt) (w : DTS) : Prop := PST X st (liftS X.K E w)
abbrev DSsk (X : Cx) (E : XK) (st : List Stmt) (w : DTS) : Prop := PSsT X st (liftS X.K E w)
theorem pet_mono {X : Cx} {e : Expr} {t t' : TE} (h : PET X e t) (m : ∀ σ H Q, t' σ H Q → t σ H Q) : PET X e t' := fun pins s σ H Q h0 I q => h pins s σ H Q h0 I (m σ H Q q)
theorem pat_mono {X : Cx} {e : List Expr} {t t' : TA} (h : PAT X e t) (m : ∀ σ H Q, t' σ H Q → t σ H Q) : PAT X e t' := fun pos pins s σ H Q h0 I q => h pos pins s σ H Q h0 I (m σ H Q q)
theorem pst_mono {X : Cx} {e : Stmt} {t t' : TS} (h : PST X e t) (m : ∀ D σ H, t' D σ H → t D σ H) : PST X e t' := fun pins s σ H D h0 I q => h pins s σ H D h0 I (m D σ H q)
theorem psst_mono {X : Cx} {e : List Stmt} {t t' : TS} (h : PSsT X e t) (m : ∀ D σ H, t' D σ H → t D σ H) : PSsT X e t' := fun pins s σ H D h0 I q => h pins s σ H D h0 I (m D σ H q)
section
variable {X : Cx} {E : XK} {k : Nat} {a b e o : Expr} {wa wb wo : DTE} {pos apos : Pos}
theorem dek_of (h : DE X E e wa) : DEk X E e wa := CwR.PET.of h
theorem dsk_of {st : Stmt} {t : DTS} (h : DS X E st t) : DSk X E st t := PST.of h
theorem dssk_of {st : List Stmt} {t : DTS} (h : DSs X E st t) : DSsk X E st t := PSsT.of h
theorem dak_nil : DAk X E [] wNil := pat_mono pat_nil fun σ H Q' ⟨F, δ, M, Q, sm, lx, hw, lk⟩ => lk [] H [] M .nil sm.wd (.refl _ _ _) hw
theorem dak_cons {es : List Expr} {wr : DTA} (ha : DEk X E e wa) (hr : DAk X E es wr) (hs : starEach (e :: es) X.env = (false, eval e X.env) :: starEach es X.env := by rfl) : DAk X E (e :: es) (wCons wa wr) := by
  refine pat_mono (pat_cons ha hr hs) fun σ H Q' ⟨F, δ, M, Q, sm, lx, hw, lk⟩ => ?_
  refine ⟨F, δ, M, _, sm, lx, hw, fun v H1 d M1 r1 w1 e1 q1 => ?_⟩
  refine ⟨F, δ, M1, _, sm.ext w1 e1, lx.ext w1 e1, q1, fun vs H2 ds M2 r2 w2 e2 q2 => ?_⟩
  exact lk (v :: vs) H2 (d :: ds) M2 (.cons (Rep.ext w1 e2 d v r1) r2) w2 (Ext.trans w1 e1 e2) q2
theorem dek_lst {es : List Expr} {wr : DTA} (h : DAk X E es wr) : DEk X E (.List es pos) (wLst wr) := by
  refine pet_mono (pet_lst h) fun σ H Q' ⟨F, δ, M, Q, sm, lx, hw, lk⟩ => ?_
  refine ⟨F, δ, M, _, sm, lx, hw, fun vs H1 ds M1 r1 w1 e1 q1 => ⟨by rw [r1.length]; exact q1.1, fun p hp => ?_⟩⟩
  exact lk _ _ _ M1 (.newLst w1 hp r1) (w1.laid hp) (Ext.trans w1 e1 (ext_laid hp)) q1.2
theorem dek_add (ha : DEk X E a wa) (hb : DEk X E b wb) : DEk X E (.BinOp a .Add b pos) (wOp wAddV wa wb) :=
  pet_mono (CwR.pet_op op_addV ha hb) fun _ _ _ h => lift_op ok_addV h
def wRepl (y z : Str) (wo : DTE) : DTE := fun δ M Q => wo δ M fun d M1 => match d with | .str x => x.length + (x.length + 1) * z.length ≤ 16777216 ∧ Q (.str (Txt.replace x y z)) M1 | _ => False
theorem dek_repl {y z : Str} {j k : Nat} {c0 c1 : Pos} (ho : DE X E o wo) (hyz : (y == z) = false := by decide +kernel)
    (hst : starEach [.Constant (.str y) j c0, .Constant (.str z) k c1] X.env = [(false, eval (.Constant (.str y) j c0) X.env), (false, eval (.Constant (.str z) k c1) X.env)] := by rfl)
    (hbase : attributeBase o "replace" X.env (eval o X.env) = eval o X.env := by rfl) (hline : (apos.endLine == pos.line) = true := by rfl) :
    DEk X E (.Call (.Attribute o "replace" apos) [.Constant (.str y) j c0, .Constant (.str z) k c1] [] pos) (wRepl y z wo) := by
  refine pet_mono (CwR.pet_replC ho hyz hst hbase hline) fun σ H Q' ⟨F, δ, M, Q, sm, lx, hw, lk⟩ => ?_
  refine ⟨F, δ, M, _, sm, lx, hw, fun v H1 d M1 r1 w1 e1 q1 => ?_⟩
  cases d with
  | str x =>
    cases r1
    exact ⟨x, rfl, q1.1, lk _ H1 _ M1 (.str _) w1 e1 q1.2⟩
  | _ => exact (show False from q1).elim
theorem pst_set {i : Nat} {x : Str} {te : TE} {pos' : Pos} (hN : X.N.Nodup) (hi : X.N[i]? = some x) (hx : Loc X.env.scope x) (he : PET X e te) (hs : swapsWith e (some (.Name x pos')) pos.line X.env = pure false) (hf : X.fn x = true ∨ X.env.scope.names.lookup x = some .local) :
    PST X (.Assign [.Name x pos'] e pos) (tAsg te (gName i)) := by
  intro pins s σ H D h0 I h
  refine wpAny_Assign_Name (thn (he pins s σ H _ h0 I h) fun v s1 ⟨y, H1, I1, r1, q1⟩ => ?_) hs
  exact store_ok I1 hN hi hx r1 (fun s2 I2 => ⟨_, H1, I2, q1⟩) hf
theorem dsk_set (hX : DX X E k) (i : Nat) {x : Str} {pos' : Pos} (he : DEk X E e wa) (hi : X.N[i]? = some x := by rfl) (hx : Loc X.env.scope x := by first | exact .inl rfl | exact .inr rfl) (hs : swapsWith e (some (.Name x pos')) pos.line X.env = pure false := by rfl) (hf : X.fn x = true ∨ X.env.scope.names.lookup x = some .local := by first | exact .inl rfl | exact .inr rfl) :
    DSk X E (.Assign [.Name x pos'] e pos) (wAsg wa (.nm i)) := by
  refine pst_mono (pst_set hX.nd hi hx he hs hf) fun Dh σ H ⟨F, δ, M, Dd, sm, lx, ld, hw⟩ => ?_
  refine ⟨F, δ, M, _, sm, lx, hw, fun v H1 d M1 r1 w1 e1 q1 => ?_⟩
  have q1 : setK δ.s i (some d) fun s => Dd.nx ⟨s, δ.x⟩ M1 := q1
  rw [setK_eq] at q1
  exact ld.nx _ H1 ⟨δ.s.set i (some d), δ.x⟩ M1 ⟨(sm.ext w1 e1).sl.set r1 i, w1⟩ e1 rfl q1
theorem dssk_cons {st : Stmt} {rest : List Stmt} {t u : DTS} (h1 : DSk X E st t) (h2 : DSsk X E rest u) : DSsk X E (st :: rest) (wSeq t u) := by
  refine psst_mono (psst_cons h1 h2) fun Dh σ H ⟨F, δ, M, Dd, sm, lx, ld, hw⟩ => ?_
  refine ⟨F, δ, M, { Dd with nx := u Dd }, sm, lx, ⟨fun σ' H' δ' M' s' e' ex q => ?_, ld.rt, ld.bk, ld.ct⟩, hw⟩
  exact ⟨F, δ', M', Dd, s', by rw [ex]; exact lx.ext s'.wd e', by rw [ex]; exact ld.ext s'.wd e', q⟩
theorem dssk_one {st : Stmt} {t : DTS} (h1 : DSk X E st t) : DSsk X E [st] t := CwR.psst_one h1
/-- a written text is stored under a name -/
theorem dss_strk {x c : Str} {j : Nat} {cpos pos' : Pos} {rest : List Stmt} {u : DTS} (hX : DX X E k) (i : Nat) (h2 : DSsk X E rest u) (hi : X.N[i]? = some x := by rfl) (hx : Loc X.env.scope x := by first | exact .inl rfl | exact .inr rfl)
    (hs : swapsWith (.Constant (.str c) j cpos) (some (.Name x pos')) pos.line X.env = pure false := by rfl) (hf : X.fn x = true ∨ X.env.scope.names.lookup x = some .local := by first | exact .inl rfl | exact .inr rfl) :
    DSs X E (.Assign [.Name x pos'] (.Constant (.str c) j cpos) pos :: rest) (wSeq (wAsg (wC (.str c)) (.nm i)) u) := by
  refine pss_mono (pss_str hX.nd hi hx h2 hs hf) fun Dh σ H ⟨F, δ, M, Dd, sm, lx, ld, hw⟩ => ?_
  have hw : setK δ.s i (some (.str c)) fun s => u Dd ⟨s, δ.x⟩ M := hw
  rw [setK_eq] at hw
  exact ⟨F, ⟨δ.s.set i (some (.str c)), δ.x⟩, M, Dd, ⟨sm.sl.set (.str c) i, sm.wd⟩, lx, ld, hw⟩
end
end Bx

set_option Elab.async false
set_option linter.all false
set_option maxRecDepth 100000
set_option maxHeartbeats 4000000
namespace Bx
open PySem PySem.Spec L2
open PyProof.Rows hiding St
/-! ### a dict of the module, from its object -/
def DicRows (K : PySem.W.Frag) : List DictEntry → List (Str × D) → Prop
  | [], kvs => kvs = []
  | _ :: _, [] => False
  | e :: r, p :: kvs => (∃ t, e.key = .str p.1 t) ∧ KRep K p.2 e.val ∧ DicRows K r kvs
theorem dic_rows {K : PySem.W.Frag} (z : Str) : ∀ {l : List DictEntry} {kvs : List (Str × D)}, DicRows K l kvs →
    l.any (·.refKey) = false ∧ match kvs.lookup z with | none => l.find? (·.key.isStr z) = none | some dd => ∃ e, l.find? (·.key.isStr z) = some e ∧ KRep K dd e.val
  | [], kvs, h => by
    have h : kvs = [] := h
    subst h
    exact ⟨rfl, rfl⟩
  | _ :: _, [], h => h.elim
  | e :: r, (x, dd) :: kvs, ⟨⟨t, ek⟩, hv, hr⟩ => by
    obtain ⟨h1, h2⟩ := dic_rows z hr
    have rk : e.refKey = false := by unfold DictEntry.refKey; rw [ek]
    refine ⟨by rw [List.any_cons, rk, h1]; rfl, ?_⟩
    have ei : e.key.isStr z = (x == z) := by rw [ek, PySem.W.isStr_of]; rfl
    rw [List.lookup_cons, List.find?_cons, ei, beqStr_comm z x]
    cases q : x == z with
    | true => exact ⟨e, rfl, hv⟩
    | false => exact h2
theorem dic_mk {K : PySem.W.Frag} {w : World} {h : Heap} {mg : Str → Option Value} {x : Str} {d : Addr} {es : Array DictEntry} {n : Nat} {kvs : List (Str × D)} (X : K.In h) (G : h.Ns mainGlobals mg) (a : PySem.W.nsIn K mainGlobals x = some (some (.ref d)))
    (l : K.lookup d = some ⟨.type "dict", none, .dict es n, #[]⟩) (lit : PySem.W.KeysLit w.params es.toList) (low : (d == sysModules) = false) (r : DicRows K es.toList kvs) : DicAt K w mg x kvs where
  ex := by
    refine ⟨d, es, n, PySem.W.mg_of X G a, ⟨l, lit, low⟩, fun z => ?_⟩
    obtain ⟨h1, h2⟩ := dic_rows z r
    unfold PySem.W.nsIn
    rw [l]
    show ∃ r, (match es.toList.find? (·.key.isStr z) with | some e => some (some e.val) | none => if es.toList.any (·.refKey) then none else some none) = some r ∧ _
    cases q : kvs.lookup z with
    | none =>
      rw [q] at h2
      have h2 : es.toList.find? (·.key.isStr z) = none := h2
      rw [h2, h1]
      exact ⟨none, rfl, rfl⟩
    | some dd =>
      rw [q] at h2
      obtain ⟨e, h3, h4⟩ := h2
      rw [h3]
      exact ⟨some e.val, rfl, e.val, rfl, h4⟩
end Bx

set_option Elab.async false
set_option linter.all false
set_option maxRecDepth 100000
set_option maxHeartbeats 4000000
namespace Bx
open PySem PySem.Spec L2 L2H LamX NdefX
open PyProof.Rows hiding St
def topS (i : Nat) : Stmt := PySem.Challenge.pw_boxdays_k10_texts.main.body.getD i (.Pass ⟨0, 0, 0, 0⟩)
section
variable {P : Program} {w : World} {K : PySem.W.Frag} {mg : Str → Option Value} {base : Heap} {ex : Str → Value} {as Ps : List Addr} {B : Addr}
def nmL : Nat → Nat → Str := fun l _ => if l ≤ 156 then (("_law_all_refused" : Str) ++ ".<locals>.") ++ "<lambda>" else if l ≤ 200 then (("_law_written" : Str) ++ ".<locals>.") ++ "<lambda>" else (("law" : Str) ++ ".<locals>.") ++ "<lambda>"

abbrev s_is_whole : Stmt := topS 20
theorem sc_is_whole : FnScope ["value", "low", "high"] ["value", "low", "high"] (defScope s_is_whole) := ⟨rfl, rfl, rfl, by decide +kernel, rfl, by decide +kernel, by decide +kernel⟩
def sp_is_whole : DSpec := fun ds M Q _ => ∃ v lo hi, ds = [v, .int lo, .int hi] ∧ D.fit 64 v = true ∧ Q (.bl (isWholeD v lo hi)) M
theorem ok_is_whole (T : Here K mg "is_whole" ["value", "low", "high"] s_is_whole) (b_bool : mg "bool" = none) (b_int : mg "int" = none) (b_isinstance : mg "isinstance" = none) : DFn P w K mg base 2 "is_whole" 3 sp_is_whole := by
  refine DFn.here (k := 1) T sc_is_whole (fun f cdv A outer s H E hX => (dss_one (ds_ret (de_and (de_isT (T := "int") b_isinstance b_int (dv 0)) (de_and (de_not (de_isT (T := "bool") b_isinstance b_bool (dv 0))) (de_one (de_lele (dv 1) (dv 0) (dv 2)))))))) (fun ds M Q Ed hl hs => ?_)
  obtain ⟨v, lo, hi, rfl, hf, q⟩ := hs
  cases v with
  | int i =>
    have q : Q (.bl (decide (lo ≤ i) && decide (i ≤ hi))) M := q
    refine onD_i (b := decide (lo ≤ i)) (fun h => ?_) (fun h => ?_)
    · rw [h] at q; exact q
    · rw [h] at q; exact q
  | ref a => simp [D.fit] at hf
  | fro a => simp [D.fit] at hf
  | _ => exact q

abbrev s_are_truths : Stmt := topS 21
theorem sc_are_truths : FnScope ["value", "truth"] ["value"] (defScope s_are_truths) := ⟨rfl, rfl, rfl, by decide +kernel, rfl, by decide +kernel, by decide +kernel⟩
def sp_are_truths : DSpec := fun ds M Q _ => ∃ v, ds = [v] ∧ D.fit 64 v = true ∧ Q (.bl (isTruths v)) M
theorem ok_are_truths (T : Here K mg "are_truths" ["value"] s_are_truths) (b_all : mg "all" = none) (b_bool : mg "bool" = none) (b_isinstance : mg "isinstance" = none) (b_len : mg "len" = none) (b_tuple : mg "tuple" = none) : DFn P w K mg base 2 "are_truths" 1 sp_are_truths := by
  refine DFn.here (k := 1) T sc_are_truths (fun f cdv A outer s H E hX => (dss_one (ds_ret (de_and (de_isT (T := "tuple") b_isinstance b_tuple (dv 0)) (de_and (de_eq hX (de_len b_len (da_cons (dv 0) da_nil)) dint) (de_one (de_all hX b_all (da_cons (de_lc hX (own := [("truth", 1)]) (blkOk_by (N := ["value", "truth"]) (sc := defScope s_are_truths) (by decide +kernel)) (di_seq (dv 0)) (fun _ _ _ _ _ hX => ⟨(dg_nm hX 1), dts_nil, (de_isT (T := "bool") b_isinstance b_bool (dv 1))⟩)) da_nil)))))))) (fun ds M Q Ed hl hs => ?_)
  obtain ⟨v, rfl, hf, q⟩ := hs
  cases v with
  | tup es =>
    refine ⟨⟨fit_int _ _, fit_int _ _⟩, ?_⟩
    match es, hf, q with
    | [a, b], hf, q =>
      obtain ⟨ha, hb⟩ := fit_tup2 hf
      refine lc_map (fun d => D.bl (isBl d)) ?_ (fun i d hd Y hY => ?_) ?_
      · show 2 ≤ sizeLine
        decide
      · have : D.fit 63 d = true := by
          match i, hd with
          | 0, hd => cases hd; exact ha
          | 1, hd => cases hd; exact hb
        cases d with
        | ref a => simp [D.fit] at this
        | fro a => simp [D.fit] at this
        | _ => exact hY
      · have q : Q (.bl (isBl a && isBl b)) M := q
        show Q (.bl (isBl a && (isBl b && true))) M
        rw [Bool.and_true]
        exact q
    | [], hf, q => exact q
    | [a], hf, q => exact q
    | a :: b :: c :: r, hf, q =>
      refine onD_i (fun h => ?_) fun h => q
      have : ((a :: b :: c :: r).length : Int) = 2 := by simpa [D.eqv] using h
      simp at this
      omega
  | ref a => simp [D.fit] at hf
  | fro a => simp [D.fit] at hf
  | _ => exact q

abbrev s_rises : Stmt := topS 22
theorem sc_rises : FnScope ["numbers", "one", "other"] ["numbers"] (defScope s_rises) := ⟨rfl, rfl, rfl, by decide +kernel, rfl, by decide +kernel, by decide +kernel⟩
def sp_rises : DSpec := fun ds M Q _ => ∃ is : List Int, (ds = [.lst (is.map D.int)] ∨ ds = [.tup (is.map D.int)]) ∧ is.length ≤ sizeLine ∧ Q (.bl (rising is)) M
theorem ok_rises (T : Here K mg "rises" ["numbers"] s_rises) (b_all : mg "all" = none) (b_zip : mg "zip" = none) : DFn P w K mg base 2 "rises" 1 sp_rises := by
  refine DFn.here (k := 1) T sc_rises (fun f cdv A outer s H E hX => (dss_one (ds_ret (de_all hX b_all (da_cons (de_lc hX (own := [("one", 1), ("other", 2)]) (blkOk_by (N := ["numbers", "one", "other"]) (sc := defScope s_rises) (by decide +kernel)) (di_zip b_zip (da_cons (dv 0) (da_cons (de_cut (dv 0) (do_some dint) do_none) da_nil))) (fun _ _ _ _ _ hX => ⟨(dg_tup hX (dgs_cons (dg_nm hX 1) (dgs_cons (dg_nm hX 2) dgs_nil))), dts_nil, (de_lt (dv 1) (dv 2))⟩)) da_nil))))) (fun ds M Q Ed hl hs => ?_)
  obtain ⟨is, hd, hl2, q⟩ := hs
  have len : (zipD (is.map D.int) (is.map D.int).tail).length ≤ sizeLine := by
    rw [zipD_len, List.length_map]
    exact Nat.le_trans (Nat.min_le_left _ _) hl2
  have turn : ∀ (i : Nat) d, (zipD (is.map D.int) (is.map D.int).tail)[i]? = some d → ∃ a b, d = .tup [.int a, .int b] := fun i d h => by
    rw [zipD_ints, List.getElem?_map] at h
    cases e : (is.zip is.tail)[i]? with
    | none => rw [e] at h; cases h
    | some p => rw [e] at h; exact ⟨p.1, p.2, (Option.some.inj h).symm⟩
  have fin : (match bools ((zipD (is.map D.int) (is.map D.int).tail).map fun d => D.bl (ltPair d)) with | some bs => Q (.bl (bs.all id)) M | none => False) := by
    rw [bools_mapF]
    show Q (.bl (((zipD (is.map D.int) (is.map D.int).tail).map ltPair).all id)) M
    rw [all_mapid, all_ltPair]
    exact q
  have ct := cut_tail (is.map D.int)
  rcases hd with rfl | rfl
  all_goals
    refine lc_map (fun d => D.bl (ltPair d)) (by rw [ct]; exact len) (fun i d hd Y hY => ?_) ?_
    · rw [ct] at hd
      obtain ⟨a, b, rfl⟩ := turn i d hd
      exact hY
    · show (match bools ((zipD (is.map D.int) (cutD (is.map D.int) (some 1) none)).map fun d => D.bl (ltPair d)) with | some bs => Q (.bl (bs.all id)) M | none => False)
      rw [ct]
      exact fin

abbrev s_is_step : Stmt := topS 23
theorem sc_is_step : FnScope ["value"] ["value"] (defScope s_is_step) := ⟨rfl, rfl, rfl, by decide +kernel, rfl, by decide +kernel, by decide +kernel⟩
def sp_is_step : DSpec := fun ds M Q _ => ∃ v, ds = [v] ∧ D.fit 64 v = true ∧ Q (.bl (isStepD v)) M
theorem ok_is_step (T : Here K mg "is_step" ["value"] s_is_step) (b_isinstance : mg "isinstance" = none) (b_len : mg "len" = none) (b_tuple : mg "tuple" = none) (g_MOST_FIRST : IntAt mg "MOST_FIRST" 6) (g_MOST_PRICE : IntAt mg "MOST_PRICE" 5) (c_is_whole : DFn P w K mg base 2 "is_whole" 3 sp_is_whole) : DFn P w K mg base 3 "is_step" 1 sp_is_step := by
  refine DFn.here (k := 2) T sc_is_step (fun f cdv A outer s H E hX => (dss_cons (ds_if (DW.dt (dw_or (dt_not (dt_val (de_isT (T := "tuple") b_isinstance b_tuple (dv 0)))) (dw_or1 (dt_ne hX (de_len b_len (da_cons (dv 0) da_nil)) dint)))) (dss_one (ds_ret dbl)) dss_nil)
      (dss_one (ds_ret (de_and (de_call hX c_is_whole (da_cons (de_ix (dv 0) dint) (da_cons dint (da_cons (dgi g_MOST_FIRST) da_nil)))) (de_one (de_call hX c_is_whole (da_cons (de_ix (dv 0) dint) (da_cons dint (da_cons (dgi g_MOST_PRICE) da_nil)))))))))) (fun ds M Q Ed hl hs => ?_)
  obtain ⟨v, rfl, hf, q⟩ := hs
  cases v with
  | tup es =>
    refine ⟨⟨fit_int _ _, fit_int _ _⟩, ?_⟩
    match es, hf, q with
    | [a, b], hf, q =>
      obtain ⟨ha, hb⟩ := fit_tup2 hf
      refine ⟨rfl, a, 1, 6, rfl, fit_up ha (by decide), onD_i (fun h => ⟨rfl, b, 0, 5, rfl, fit_up hb (by decide), ?_⟩) fun h => ?_⟩
      all_goals
        have q : Q (.bl (isWholeD a 1 6 && isWholeD b 0 5)) M := q
        rw [h] at q
        exact q
    | [], hf, q => exact q
    | [a], hf, q => exact q
    | a :: b :: c :: r, hf, q =>
      refine onT_i (fun h => q) fun h => ?_
      have : ((a :: b :: c :: r).length : Int) = 2 := by simpa [D.eqv] using h
      simp at this
      omega
  | ref a => simp [D.fit] at hf
  | fro a => simp [D.fit] at hf
  | _ => exact q

abbrev s_are_steps : Stmt := topS 24
theorem sc_are_steps : FnScope ["value", "first", "price", "step"] ["value"] (defScope s_are_steps) := ⟨rfl, rfl, rfl, by decide +kernel, rfl, by decide +kernel, by decide +kernel⟩
def sp_are_steps : DSpec := fun ds M Q _ => ∃ v, ds = [v] ∧ D.fit 64 v = true ∧ Q (.bl (isStepsD v)) M
theorem ok_are_steps (T : Here K mg "are_steps" ["value"] s_are_steps) (b_all : mg "all" = none) (b_isinstance : mg "isinstance" = none) (b_len : mg "len" = none) (b_tuple : mg "tuple" = none) (g_MOST_STEPS : IntAt mg "MOST_STEPS" 3) (c_rises : DFn P w K mg base 2 "rises" 1 sp_rises) (c_is_step : DFn P w K mg base 3 "is_step" 1 sp_is_step) : DFn P w K mg base 4 "are_steps" 1 sp_are_steps := by
  refine DFn.here (k := 3) T sc_are_steps (fun f cdv A outer s H E hX => (dss_cons (ds_if (DW.dt (dw_or (dt_not (dt_val (de_isT (T := "tuple") b_isinstance b_tuple (dv 0)))) (dw_or (dt_not (dt_lele dint (de_len b_len (da_cons (dv 0) da_nil)) (dgi g_MOST_STEPS))) (dw_or1 (dt_not (dt_val (de_all hX b_all (da_cons (de_lc hX (own := [("step", 3)]) (blkOk_by (N := ["value", "first", "price", "step"]) (sc := defScope s_are_steps) (by decide +kernel)) (di_seq (dv 0)) (fun _ _ _ _ _ hX => ⟨(dg_nm hX 3), dts_nil, (de_call hX c_is_step (da_cons (dv 3) da_nil))⟩)) da_nil)))))))) (dss_one (ds_ret dbl)) dss_nil)
      (dss_one (ds_ret (de_and (de_eq hX (de_ix (de_ix (dv 0) dint) dint) dint) (de_one (de_call hX c_rises (da_cons (de_lc hX (own := [("first", 1), ("price", 2)]) (blkOk_by (N := ["value", "first", "price", "step"]) (sc := defScope s_are_steps) (by decide +kernel)) (di_seq (dv 0)) (fun _ _ _ _ _ hX => ⟨(dg_tup hX (dgs_cons (dg_nm hX 1) (dgs_cons (dg_nm hX 2) dgs_nil))), dts_nil, (dv 1)⟩)) da_nil)))))))) (fun ds M Q Ed hl hs => ?_)
  obtain ⟨v, rfl, hf, q⟩ := hs
  cases v with
  | tup es =>
    have q : Q (.bl (decide (1 ≤ es.length) && decide (es.length ≤ 3) && es.all isStepD && D.eqv ((es.map fstD).getD 0 .non) (.int 1) && risesD (es.map fstD))) M := q
    have hfe : D.fitAll 63 es = true := by simpa [D.fit] using hf
    by_cases h1 : 1 ≤ es.length
    · refine onD_i (b := decide ((1 : Int) ≤ (es.length : Int))) (fun _ => ?_) (fun h => absurd (of_decide_eq_false h) (by omega))
      by_cases h3 : es.length ≤ 3
      · refine onT_i (b := !decide ((es.length : Int) ≤ 3)) (fun h => by simp at h; omega) (fun _ => ?_)
        refine lc_map (fun d => D.bl (isStepD d)) ?_ (fun i d hd Y hY => ?_) ?_
        · exact Nat.le_trans h3 (by decide)
        · exact ⟨rfl, d, rfl, fit_up (fitAll_mem.mp hfe d (List.mem_of_getElem? hd)) (by decide), hY⟩
        · show (match bools (es.map fun d => D.bl (isStepD d)) with | some bs => _ | none => False)
          rw [bools_mapF]
          refine onT_i (b := !((es.map isStepD).all id)) (fun h => ?_) (fun h => ?_)
          · rw [all_mapid] at h
            have h : es.all isStepD = false := by simpa using h
            rw [h] at q
            have q : Q (.bl false) M := by simpa using q
            exact q
          · rw [all_mapid] at h
            have h : es.all isStepD = true := by simpa using h
            rw [h, decide_eq_true h1, decide_eq_true h3] at q
            obtain ⟨ps, e1, e2, e3⟩ := steps_ints h
            subst e1
            match ps, h1, h3, e2, q with
            | [], h1, _, _, _ => exact absurd h1 (by decide)
            | p :: ps, h1, h3, e2, q =>
              refine onO_i (atI_nat (j := 0) rfl) ⟨⟨fit_int _ _, fit_int _ _⟩, onD_i (b := (p.1 == 1)) (fun h5 => ?_) (fun h5 => ?_)⟩
              · refine lc_map fstD ?_ (fun i d hd Y hY => ?_) ?_
                · exact Nat.le_trans h3 (by decide)
                · rw [List.getElem?_map] at hd
                  cases e : (p :: ps)[i]? with
                  | none => rw [e] at hd; cases hd
                  | some r => rw [e] at hd; cases hd; exact hY
                · refine ⟨rfl, (p :: ps).map (·.1), .inl ?_, ?_, ?_⟩
                  · show [D.lst _] = _
                    rw [e2]
                  · rw [List.length_map]; rw [List.length_map] at h3; exact Nat.le_trans h3 (by decide)
                  · rw [e2, rises_ints] at q
                    have e6 : D.eqv (((((p :: ps).map (·.1)).map D.int)).getD 0 .non) (.int 1) = true := by simpa [D.eqv] using h5
                    rw [e6] at q
                    have q : Q (.bl (rising ((p :: ps).map (·.1)))) M := by simpa using q
                    exact q
              · rw [e2] at q
                have e6 : D.eqv (((((p :: ps).map (·.1)).map D.int)).getD 0 .non) (.int 1) = false := by simpa [D.eqv] using h5
                rw [e6] at q
                have q : Q (.bl false) M := by simpa using q
                exact q
      · refine onT_i (b := !decide ((es.length : Int) ≤ 3)) (fun _ => ?_) (fun h => by simp at h; omega)
        rw [decide_eq_false h3] at q
        have q : Q (.bl false) M := by simpa using q
        exact q
    · refine onD_i (b := decide ((1 : Int) ≤ (es.length : Int))) (fun h => absurd (of_decide_eq_true h) (by omega)) (fun _ => ?_)
      rw [decide_eq_false h1] at q
      have q : Q (.bl false) M := by simpa using q
      exact q
  | ref a => simp [D.fit] at hf
  | fro a => simp [D.fit] at hf
  | _ => exact q

abbrev s_is_good : Stmt := topS 25
theorem sc_is_good : FnScope ["value", "start", "free", "ends", "stops", "steps", "whole"] ["value"] (defScope s_is_good) := ⟨rfl, rfl, rfl, by decide +kernel, rfl, by decide +kernel, by decide +kernel⟩
def sp_is_good : DSpec := fun ds M Q _ => ∃ v, ds = [v] ∧ D.fit 64 v = true ∧ Q (.bl (isClauseD v)) M
theorem ok_is_good (T : Here K mg "is_good" ["value"] s_is_good) (b_bool : mg "bool" = none) (b_isinstance : mg "isinstance" = none) (b_len : mg "len" = none) (b_str : mg "str" = none) (b_tuple : mg "tuple" = none) (g_MOST_FREE : IntAt mg "MOST_FREE" 6) (c_is_whole : DFn P w K mg base 2 "is_whole" 3 sp_is_whole) (c_are_truths : DFn P w K mg base 2 "are_truths" 1 sp_are_truths) (c_are_steps : DFn P w K mg base 4 "are_steps" 1 sp_are_steps) : DFn P w K mg base 5 "is_good" 1 sp_is_good := by
  refine DFn.here (k := 4) T sc_is_good (fun f cdv A outer s H E hX => (dss_cons (ds_if (DW.dt (dw_or (dt_not (dt_val (de_isT (T := "tuple") b_isinstance b_tuple (dv 0)))) (dw_or1 (dt_ne hX (de_len b_len (da_cons (dv 0) da_nil)) dint)))) (dss_one (ds_ret dbl)) dss_nil)
      (dss_cons (ds_asg (dv 0) (dg_tup hX (dgs_cons (dg_nm hX 1) (dgs_cons (dg_nm hX 2) (dgs_cons (dg_nm hX 3) (dgs_cons (dg_nm hX 4) (dgs_cons (dg_nm hX 5) (dgs_cons (dg_nm hX 6) dgs_nil))))))))
      (dss_cons (ds_if (DW.dt (dw_or (dt_not (dt_val (de_isT (T := "str") b_isinstance b_str (dv 1)))) (dw_or (dt_notInF (dv 1) (de_tup (da_cons dstr (da_cons dstr da_nil)))) (dw_or1 (dt_not (dt_val (de_call hX c_is_whole (da_cons (dv 2) (da_cons dint (da_cons (dgi g_MOST_FREE) da_nil)))))))))) (dss_one (ds_ret dbl)) dss_nil)
      (dss_one (ds_ret (de_and (de_call hX c_are_truths (da_cons (dv 3) da_nil)) (de_and (de_call hX c_are_truths (da_cons (dv 4) da_nil)) (de_and (de_call hX c_are_steps (da_cons (dv 5) da_nil)) (de_one (de_isT (T := "bool") b_isinstance b_bool (dv 6)))))))))))) (fun ds M Q Ed hl hs => ?_)
  obtain ⟨v, rfl, hf, q⟩ := hs
  cases v with
  | tup es =>
    refine ⟨⟨fit_int _ _, fit_int _ _⟩, ?_⟩
    have no : es.length ≠ 6 → Q (.bl false) M := fun h => by
      match es, h, q with
      | [], _, q => exact q
      | [_], _, q => exact q
      | [_, _], _, q => exact q
      | [_, _, _], _, q => exact q
      | [_, _, _, _], _, q => exact q
      | [_, _, _, _, _], _, q => exact q
      | [_, _, _, _, _, _], h, _ => exact absurd rfl h
      | _ :: _ :: _ :: _ :: _ :: _ :: _ :: _, _, q => exact q
    refine onT_i (b := !((es.length : Int) == 6)) (fun h => no fun e => by rw [e] at h; cases h) (fun h => ?_)
    have h6 : es.length = 6 := by
      have : ((es.length : Int) == 6) = true := by simpa using h
      have := eq_of_beq this
      omega
    match es, h6, hf, q with
    | [b, f, e, t, s, w], _, hf, q =>
      have hfe : D.fitAll 63 [b, f, e, t, s, w] = true := by simpa [D.fit] using hf
      have fits := fitAll_mem.mp hfe
      have fb := fit_up (m := 64) (fits b (by simp)) (by decide)
      have ff := fit_up (m := 64) (fits f (by simp)) (by decide)
      have fe := fit_up (m := 64) (fits e (by simp)) (by decide)
      have ft := fit_up (m := 64) (fits t (by simp)) (by decide)
      have fs := fit_up (m := 64) (fits s (by simp)) (by decide)
      have fw := fit_up (m := 64) (fits w (by simp)) (by decide)
      have q : Q (.bl (isStart b && isWholeD f 0 6 && isTruths e && isTruths t && isStepsD s && isBl w)) M := q
      clear hf hfe fits no h h6
      cases b with
      | str x =>
        refine ⟨by decide, ⟨rfl, rfl⟩, ?_⟩
        have ein : ([D.str "landing", D.str "release"].any fun z => D.eqv z (.str x)) = isStart (.str x) := by
          show (("landing" == x) || (("release" == x) || false)) = (x == "landing" || x == "release")
          rw [Bool.or_false, beqStr_comm ("landing" : Str) x, beqStr_comm ("release" : Str) x]
        refine onT_i (b := (true != ([D.str "landing", D.str "release"].any fun z => D.eqv z (.str x)))) (fun h => ?_) (fun h => ?_)
        · rw [ein] at h
          have h : isStart (.str x) = false := by simpa using h
          rw [h] at q
          exact q
        · rw [ein] at h
          have h : isStart (.str x) = true := by simpa using h
          rw [h] at q
          refine ⟨rfl, f, 0, 6, rfl, ff, onT_i (b := !isWholeD f 0 6) (fun h1 => ?_) (fun h1 => ?_)⟩
          · have h1 : isWholeD f 0 6 = false := by simpa using h1
            rw [h1] at q
            exact q
          · have h1 : isWholeD f 0 6 = true := by simpa using h1
            rw [h1] at q
            refine ⟨rfl, e, rfl, fe, onD_i (b := isTruths e) (fun h2 => ?_) (fun h2 => ?_)⟩
            · rw [h2] at q
              refine ⟨rfl, t, rfl, ft, onD_i (b := isTruths t) (fun h3 => ?_) (fun h3 => ?_)⟩
              · rw [h3] at q
                refine ⟨rfl, s, rfl, fs, onD_i (b := isStepsD s) (fun h4 => ?_) (fun h4 => ?_)⟩
                · rw [h4] at q
                  cases w with
                  | ref a => simp [D.fit] at fw
                  | fro a => simp [D.fit] at fw
                  | _ => exact q
                · rw [h4] at q; exact q
              · rw [h3] at q; exact q
            · rw [h2] at q; exact q
      | ref a => simp [D.fit] at fb
      | fro a => simp [D.fit] at fb
      | _ => exact q
  | ref a => simp [D.fit] at hf
  | fro a => simp [D.fit] at hf
  | _ => exact q

abbrev s_need_clause : Stmt := topS 26
theorem sc_need_clause : FnScope ["clause"] ["clause"] (defScope s_need_clause) := ⟨rfl, rfl, rfl, by decide +kernel, rfl, by decide +kernel, by decide +kernel⟩
def sp_need_clause (ex : Str → Value) : DSpec := fun ds M Q Ed => ∃ v, ds = [v] ∧ D.fit 64 v = true ∧ (match isClauseD v with | true => Q .non M | false => Ed (ex "InvalidClause") M)
theorem ok_need_clause (T : Here K mg "need_clause" ["clause"] s_need_clause) (x_InvalidClause : ErrAt K mg ex "InvalidClause") (c_is_good : DFn P w K mg base 5 "is_good" 1 sp_is_good) : DFn P w K mg base 6 "need_clause" 1 (sp_need_clause ex) := by
  refine DFn.here (k := 5) T sc_need_clause (fun f cdv A outer s H E hX => (dss_one (ds_if (dt_not (dt_val (de_call hX c_is_good (da_cons (dv 0) da_nil)))) (dss_one (ds_raise hX x_InvalidClause)) dss_nil))) (fun ds M Q Ed hl hs => ?_)
  obtain ⟨v, rfl, hf, q⟩ := hs
  refine ⟨rfl, v, rfl, hf, onT_i (b := !isClauseD v) (fun h => ?_) (fun h => ?_)⟩
  · rw [bt h] at q; exact q
  · rw [bn h] at q; exact q

abbrev s_truths_text : Stmt := topS 29
theorem sc_truths_text : FnScope ["truths", "truth"] ["truths"] (defScope s_truths_text) := ⟨rfl, rfl, rfl, by decide +kernel, rfl, by decide +kernel, by decide +kernel⟩
def sp_truths_text : DSpec := fun ds M Q _ => ∃ a b : Bool, ds = [.tup [.bl a, .bl b]] ∧ Q (.str (Txt.join " " [yn a, yn b])) M
theorem ok_truths_text (T : Here K mg "truths_text" ["truths"] s_truths_text) : DFn P w K mg base 2 "truths_text" 1 sp_truths_text := by
  refine DFn.here (k := 1) T sc_truths_text (fun f cdv A outer s H E hX => (dss_one (ds_ret (de_join dstr (de_lc hX (own := [("truth", 1)]) (blkOk_by (N := ["truths", "truth"]) (sc := defScope s_truths_text) (by decide +kernel)) (di_seq (dv 0)) (fun _ _ _ _ _ hX => ⟨(dg_nm hX 1), dts_nil, (de_if (dt_val (dv 1)) dstr dstr)⟩)))))) (fun ds M Q Ed hl hs => ?_)
  obtain ⟨a, b, rfl, q⟩ := hs
  refine lc_on (xs := [a, b]) (f := D.bl) (fun b => D.str (yn b)) sl (fun x hx Y hY => ?_) ?_
  · cases x <;> exact hY
  refine onO_i (a := [.str (yn a), .str (yn b)]) rfl (onO_i (a := [yn a, yn b]) rfl ⟨?_, q⟩)
  cases a <;> cases b <;> decide +kernel

abbrev s_text_of : Stmt := topS 30
theorem sc_text_of : FnScope ["clause", "start", "free", "ends", "stops", "steps", "whole", "found", "first", "price"] ["clause"] (defScope s_text_of) := ⟨rfl, rfl, rfl, by decide +kernel, rfl, by decide +kernel, by decide +kernel⟩
theorem log2_small {i : Int} (h0 : 0 ≤ i) (h : i ≤ 9) : i.natAbs.log2 < 1920 := by
  have key : ∀ n : Nat, n ≤ 9 → n.log2 < 1920 := fun n hn => by
    match n, hn with
    | 0, _ | 1, _ | 2, _ | 3, _ | 4, _ | 5, _ | 6, _ | 7, _ | 8, _ | 9, _ => decide +kernel
    | n + 10, h => exact absurd h (by omega)
  exact key _ (by omega)
theorem fold_len : ∀ (st : List (Int × Int)) (acc : Str), (∀ p ∈ st, (1 ≤ p.1 ∧ p.1 ≤ 6) ∧ 0 ≤ p.2 ∧ p.2 ≤ 5) → (st.foldl addS acc).length = acc.length + 4 * st.length
  | [], acc, _ => rfl
  | p :: r, acc, h => by
    have hp := h p (by simp)
    show (r.foldl addS (addS acc p)).length = _
    rw [fold_len r _ fun q hq => h q (by simp [hq])]
    unfold addS
    rw [len_app, len_app, len_app, len_app, len_app, numS_len _ (by omega) (by omega), numS_len _ (by omega) (by omega)]
    show Str.empty.length + acc.length + 1 + 1 + 1 + 1 + 4 * r.length = acc.length + 4 * (r.length + 1)
    have : Str.empty.length = 0 := rfl
    omega
theorem headS_len {c : Cl} (hc : c.Ok) : (headS c).length ≤ 60 := by
  unfold headS
  have L1 : ("from " : Str).length = 5 := by decide +kernel
  have L2 : (" free " : Str).length = 6 := by decide +kernel
  have L3 : (" ends " : Str).length = 6 := by decide +kernel
  have L4 : (" stops " : Str).length = 7 := by decide +kernel
  have L5 : (" steps" : Str).length = 6 := by decide +kernel
  have L0 : Str.empty.length = 0 := rfl
  have := startS_len c.land
  have := numS_len c.free hc.free.1 (by have := hc.free.2; omega)
  have := ttS_len c.e0 c.e1
  have := ttS_len c.s0 c.s1
  simp only [len_app]
  omega
def sp_text_of : DSpec := fun ds M Q _ => ∃ c : Cl, ds = [c.d] ∧ c.Ok ∧ Q (.str (textC c)) M
theorem ok_text_of (T : Here K mg "text_of" ["clause"] s_text_of) (c_truths_text : DFn P w K mg base 2 "truths_text" 1 sp_truths_text) : DFn P w K mg base 3 "text_of" 1 sp_text_of := by
  refine DFn.here (k := 2) T sc_text_of (fun f cdv A outer s H E hX => (dss_cons (ds_asg (dv 0) (dg_tup hX (dgs_cons (dg_nm hX 1) (dgs_cons (dg_nm hX 2) (dgs_cons (dg_nm hX 3) (dgs_cons (dg_nm hX 4) (dgs_cons (dg_nm hX 5) (dgs_cons (dg_nm hX 6) dgs_nil))))))))
      (dss_cons (ds_set hX 7 (de_fstr (.cons dstr (.cons (de_fmt (dv 1)) (.cons dstr (.cons (de_fmt (dv 2)) (.cons dstr (.cons (de_fmt (de_call hX c_truths_text (da_cons (dv 3) da_nil))) (.cons dstr (.cons (de_fmt (de_call hX c_truths_text (da_cons (dv 4) da_nil))) (.cons dstr .nil)))))))))))
      (dss_cons (ds_for hX (di_seq (dv 5)) (dg_tup hX (dgs_cons (dg_nm hX 8) (dgs_cons (dg_nm hX 9) dgs_nil))) (dss_one (ds_set hX 7 (de_fstr (.cons (de_fmt (dv 7)) (.cons dstr (.cons (de_fmt (dv 8)) (.cons dstr (.cons (de_fmt (dv 9)) .nil)))))))))
      (dss_one (ds_ret (de_if (dt_val (dv 6)) (de_add (dv 7) dstr) (dv 7)))))))) (fun ds M Q Ed hl hs => ?_)
  obtain ⟨c, rfl, hc, q⟩ := hs
  have big : sizeLine = 16777216 := rfl
  have ed : c.d = .tup [.str (startS c.land), .int c.free, .tup [.bl c.e0, .bl c.e1], .tup [.bl c.s0, .bl c.s1], .tup (c.steps.map stepD), .bl c.whole] := by unfold Cl.d; cases c.land <;> rfl
  rw [ed]
  have L1 : ("from " : Str).length = 5 := by decide +kernel
  have L2 : (" free " : Str).length = 6 := by decide +kernel
  have L3 : (" ends " : Str).length = 6 := by decide +kernel
  have L4 : (" stops " : Str).length = 7 := by decide +kernel
  have L5 : (" steps" : Str).length = 6 := by decide +kernel
  have L6 : (" " : Str).length = 1 := by decide +kernel
  have L7 : (" whole" : Str).length = 6 := by decide +kernel
  have L0 : Str.empty.length = 0 := rfl
  have k1 := startS_len c.land
  have k2 := numS_len c.free hc.free.1 (by have := hc.free.2; omega)
  have k3 := ttS_len c.e0 c.e1
  have k4 := ttS_len c.s0 c.s1
  have hh := headS_len hc
  have lg := log2_small hc.free.1 (by have := hc.free.2; omega)
  have k2' : Str.length (toString c.free) = 1 := k2
  have k3' : (Txt.join " " [yn c.e0, yn c.e1]).length ≤ 7 := k3
  have k4' : (Txt.join " " [yn c.s0, yn c.s1]).length ≤ 7 := k4
  refine ⟨by simp only [len_app]; omega, by omega, by simp only [len_app]; omega, by simp only [len_app]; omega, lg, by simp only [len_app]; omega, by simp only [len_app]; omega, rfl, c.e0, c.e1, rfl, by omega, by simp only [len_app]; omega, by simp only [len_app]; omega, rfl, c.s0, c.s1, rfl, by omega, by simp only [len_app]; omega, by simp only [len_app]; omega, ?_⟩
  refine ⟨fun i δ' M' => (∃ x y, δ' = ⟨[some (.tup [.str (startS c.land), .int c.free, .tup [.bl c.e0, .bl c.e1], .tup [.bl c.s0, .bl c.s1], .tup (c.steps.map stepD), .bl c.whole]), some (.str (startS c.land)), some (.int c.free), some (.tup [.bl c.e0, .bl c.e1]), some (.tup [.bl c.s0, .bl c.s1]), some (.tup (c.steps.map stepD)), some (.bl c.whole), some (.str ((c.steps.take i).foldl addS (headS c))), x, y], Ed⟩) ∧ M' = M, ⟨⟨none, none, rfl⟩, rfl⟩, fun i d δ' M' hd ⟨⟨x, y, e1⟩, e2⟩ => ?_, fun δ' M' ⟨⟨x, y, e1⟩, e2⟩ => ?_⟩
  · subst e1; subst e2
    rw [List.getElem?_map] at hd
    cases e : c.steps[i]? with
    | none => rw [e] at hd; cases hd
    | some p =>
      rw [e] at hd; cases hd
      have hp := hc.step p (List.mem_of_getElem? e)
      have fl := fold_len (c.steps.take i) (headS c) fun q hq => hc.step q (List.mem_of_mem_take hq)
      have tl3 : (c.steps.take i).length ≤ 3 := by rw [List.length_take]; have := hc.len.2; omega
      have n1 : Str.length (toString p.1) = 1 := numS_len p.1 (by omega) (by omega)
      have n2 : Str.length (toString p.2) = 1 := numS_len p.2 (by omega) (by omega)
      have es : (c.steps.take (i + 1)).foldl addS (headS c) = addS ((c.steps.take i).foldl addS (headS c)) p := by
        rw [List.take_add_one, e, List.foldl_append]; rfl
      refine ⟨by omega, by simp only [len_app]; omega, by simp only [len_app]; omega, log2_small (by omega) (by omega), by simp only [len_app]; omega, by simp only [len_app]; omega, log2_small (by omega) (by omega), by simp only [len_app]; omega, ⟨some (.int p.1), some (.int p.2), ?_⟩, rfl⟩
      rw [es]
      rfl
  · subst e1; subst e2
    rw [List.length_map, List.take_length]
    have te := text_eq c
    have fl := fold_len c.steps (headS c) hc.step
    have := hc.len.2
    refine onT_i (b := c.whole) (fun h => ⟨by omega, ?_⟩) (fun h => ?_)
    · rw [h] at te
      rw [← te] at q
      exact q
    · rw [h] at te
      rw [← te] at q
      exact q

abbrev s_figure_of : Stmt := topS 31
theorem sc_figure_of : FnScope ["word"] ["word"] (defScope s_figure_of) := ⟨rfl, rfl, rfl, by decide +kernel, rfl, by decide +kernel, by decide +kernel⟩
theorem fig_cases (w : Str) : (w.length ≠ 1 ∧ fig w = .non) ∨ ∃ c : Nat, w = ⟨#[c]⟩ ∧ ((48 ≤ c ∧ c ≤ 57 ∧ fig w = .int ((c : Int) - 48)) ∨ (¬ (48 ≤ c ∧ c ≤ 57) ∧ fig w = .non)) := by
  match e : TL.tl w with
  | [] => exact .inl ⟨by rw [TL.len_tl, e]; decide, by unfold fig; rw [e]⟩
  | _ :: _ :: _ => exact .inl ⟨by rw [TL.len_tl, e]; simp, by unfold fig; rw [e]⟩
  | [c] =>
    refine .inr ⟨c, TL.ext_tl e, ?_⟩
    unfold fig
    rw [e]
    by_cases h : 48 ≤ c ∧ c ≤ 57
    · exact .inl ⟨h.1, h.2, by show (match decide (48 ≤ c ∧ c ≤ 57) with | true => D.int ((c : Int) - 48) | false => .non) = _; rw [decide_eq_true h]⟩
    · exact .inr ⟨h, by show (match decide (48 ≤ c ∧ c ≤ 57) with | true => D.int ((c : Int) - 48) | false => .non) = _; rw [decide_eq_false h]⟩
theorem sign_mem (c : Nat) : decide (c ∈ TL.tl ("0123456789" : Str)) = decide (48 ≤ c ∧ c ≤ 57) := by
  have e : TL.tl ("0123456789" : Str) = [48, 49, 50, 51, 52, 53, 54, 55, 56, 57] := by decide +kernel
  rw [e]
  apply decide_eq_decide.mpr
  simp only [List.mem_cons, List.not_mem_nil, or_false]
  omega
theorem int_sign (c : Nat) (h : 48 ≤ c ∧ c ≤ 57) : PySem.intText? ⟨#[c]⟩ = some ((c : Int) - 48) := by
  have key : ∀ m : Nat, m ≤ 9 → PySem.intText? ⟨#[48 + m]⟩ = some (((48 + m : Nat) : Int) - 48) := fun m hm => by
    match m, hm with
    | 0, _ | 1, _ | 2, _ | 3, _ | 4, _ | 5, _ | 6, _ | 7, _ | 8, _ | 9, _ => decide +kernel
    | m + 10, h => exact absurd h (by omega)
  have := key (c - 48) (by omega)
  rwa [show 48 + (c - 48) = c by omega] at this
def sp_figure_of : DSpec := fun ds M Q _ => ∃ w : Str, ds = [.str w] ∧ w.length ≤ sizeLine ∧ Q (fig w) M
theorem ok_figure_of (T : Here K mg "figure_of" ["word"] s_figure_of) (b_int : mg "int" = none) (b_len : mg "len" = none) : DFn P w K mg base 2 "figure_of" 1 sp_figure_of := by
  refine DFn.here (k := 1) T sc_figure_of (fun f cdv A outer s H E hX => (dss_one (ds_ret (de_if (DW.dt (dw_and (dt_eq hX (de_len b_len (da_cons (dv 0) da_nil)) dint) (dw_and1 (dt_inSign (dv 0) dstr)))) (de_intS b_int (da_cons (dv 0) da_nil)) dnon)))) (fun ds M Q Ed hl hs => ?_)
  obtain ⟨w, rfl, hw, q⟩ := hs
  rcases fig_cases w with ⟨h1, h2⟩ | ⟨c, rfl, h⟩
  · rw [h2] at q
    refine ⟨hw, ⟨fit_int _ _, fit_int _ _⟩, ?_⟩
    rw [eqv_int]
    refine onT_i (fun h => ?_) (fun _ => q)
    have := eq_of_beq h
    omega
  · refine ⟨hw, ⟨fit_int _ _, fit_int _ _⟩, ?_⟩
    rw [eqv_int]
    refine onT_i (fun _ => ⟨c, rfl, ?_⟩) (fun h => absurd h (by show ¬ ((((1 : Nat) : Int) == 1) = false); decide))
    rw [Bool.false_bne]
    show onT (decide (c ∈ TL.tl ("0123456789" : Str))) _ _
    rw [sign_mem]
    rcases h with ⟨k1, k2, k3⟩ | ⟨k1, k3⟩
    · rw [k3] at q
      exact onT_i (fun _ => onO_i (int_sign c ⟨k1, k2⟩) ⟨by show (1 : Nat) ≤ 640; decide, q⟩) (fun h => absurd ⟨k1, k2⟩ (of_decide_eq_false h))
    · rw [k3] at q
      exact onT_i (fun h => absurd (of_decide_eq_true h) k1) (fun _ => q)

abbrev s_clause_in : Stmt := topS 32
theorem sc_clause_in : FnScope ["words", "whole", "rest", "ends", "stops", "numbers", "steps", "part", "word", "at"] ["words"] (defScope s_clause_in) := ⟨rfl, rfl, rfl, by decide +kernel, rfl, by decide +kernel, by decide +kernel⟩
theorem rgc2 {n : Nat} (h : n ≤ 1000000) : RgC 0 (n : Int) 2 ((n + 1) / 2) := by
  have e : Builtin.Range.rangeSize 0 (n : Int) 2 = (((n + 1) / 2 : Nat) : Int) := by
    rw [PyProof.Rows.rangeSize_pos (by decide) (by omega)]
    omega
  refine ⟨by decide, by decide, ?_, e⟩
  have f : ∀ i : Int, -1 ≤ i → i ≤ 2000000 → Builtin.Range.rangeFitsLong i = true := fun i h1 h2 => by
    unfold Builtin.Range.rangeFitsLong
    rw [Bool.and_eq_true]
    exact ⟨decide_eq_true (by omega), decide_eq_true (by omega)⟩
  unfold Builtin.Range.small
  rw [e, f 0 (by decide) (by decide), f n (by omega) (by omega), f 2 (by decide) (by decide), f _ (by omega) (by omega)]
  show (_ || (if (2 : Int) > 0 then Builtin.Range.rangeFitsLong ((n : Int) + (2 - 1)) else _)) = true
  rw [if_pos (by decide), f _ (by omega) (by omega), Bool.or_true]
theorem getD_str {R : List Str} {i : Nat} (h : i < R.length) : (R.map D.str)[i]? = some (.str (R.getD i Str.empty)) := by
  rw [List.getElem?_map, List.getElem?_eq_getElem h, List.getD_eq_getElem?_getD, List.getElem?_eq_getElem h]; rfl
def sp_clause_in : DSpec := fun ds M Q _ => ∃ W : List Str, ds = [.lst (W.map D.str)] ∧ W ≠ [] ∧ W.length ≤ 1000000 ∧ (∀ w ∈ W, w.length ≤ sizeLine ∧ PyData.strOk w = true) ∧ Q (clauseIn W) M
theorem ok_clause_in (T : Here K mg "clause_in" ["words"] s_clause_in) (b_len : mg "len" = none) (b_range : mg "range" = none) (b_tuple : mg "tuple" = none) (g_WORDS : DicAt K w mg "WORDS" [("yes", .bl true), ("no", .bl false)]) (c_figure_of : DFn P w K mg base 2 "figure_of" 1 sp_figure_of) : DFn P w K mg base 3 "clause_in" 1 sp_clause_in := by
  refine DFn.here (k := 2) T sc_clause_in (fun f cdv A outer s H E hX => (dss_cons (ds_set hX 1 (de_eq hX (de_ix (dv 0) (de_neg dint)) dstr))
      (dss_cons (ds_set hX 2 (de_if (dt_val (dv 1)) (de_cut (dv 0) do_none (do_some (de_neg dint))) (dv 0)))
      (dss_cons (ds_asgL hX (de_lc hX (own := [("part", 7)]) (blkOk_by (N := ["words", "whole", "rest", "ends", "stops", "numbers", "steps", "part", "word", "at"]) (sc := defScope s_clause_in) (by decide +kernel)) (di_seq (de_tup (da_cons (de_cut (dv 2) (do_some dint) (do_some dint)) (da_cons (de_cut (dv 2) (do_some dint) (do_some dint)) da_nil)))) (fun _ _ _ _ _ hX => ⟨(dg_nm hX 7), dts_nil, (de_tuple b_tuple (da_cons (de_lc hX (own := [("word", 8)]) (blkOk_by (N := ["words", "whole", "rest", "ends", "stops", "numbers", "steps", "part", "word", "at"]) (sc := { kind := .function, names := [(".0", .local), ("part", .local), ("tuple", .globalImplicit)], isGenerator := false, isCoroutine := false }) (by decide +kernel)) (di_seq (dv 7)) (fun _ _ _ _ _ hX => ⟨(dg_nm hX 8), dts_nil, (de_kget g_WORDS (dv 8) dnon ⟨by rfl, by rfl, by rfl, by rfl⟩)⟩)) da_nil))⟩)) (dgs_cons (dg_nm hX 3) (dgs_cons (dg_nm hX 4) dgs_nil)))
      (dss_cons (ds_set hX 5 (de_lc hX (own := [("word", 8)]) (blkOk_by (N := ["words", "whole", "rest", "ends", "stops", "numbers", "steps", "part", "word", "at"]) (sc := defScope s_clause_in) (by decide +kernel)) (di_seq (de_cut (dv 2) (do_some dint) do_none)) (fun _ _ _ _ _ hX => ⟨(dg_nm hX 8), dts_nil, (de_call hX c_figure_of (da_cons (dv 8) da_nil))⟩)))
      (dss_cons (ds_set hX 6 (de_tuple b_tuple (da_cons (de_lc hX (own := [("at", 9)]) (blkOk_by (N := ["words", "whole", "rest", "ends", "stops", "numbers", "steps", "part", "word", "at"]) (sc := defScope s_clause_in) (by decide +kernel)) (di_rng3 b_range (da_cons dint (da_cons (de_len b_len (da_cons (dv 5) da_nil)) (da_cons dint da_nil)))) (fun _ _ _ _ _ hX => ⟨(dg_nm hX 9), dts_nil, (de_tuple b_tuple (da_cons (de_cut (dv 5) (do_some (dv 9)) (do_some (de_add (dv 9) dint))) da_nil))⟩)) da_nil)))
      (dss_cons (ds_if (dt_lt (de_len b_len (da_cons (dv 2) da_nil)) dint) (dss_one (ds_ret dnon)) dss_nil)
      (dss_one (ds_ret (de_tup (da_cons (de_ix (dv 2) dint) (da_cons (de_call hX c_figure_of (da_cons (de_ix (dv 2) dint) da_nil)) (da_cons (dv 3) (da_cons (dv 4) (da_cons (dv 6) (da_cons (dv 1) da_nil)))))))))))))))) (fun ds M Q Ed hl hs => ?_)
  obtain ⟨W, rfl, ne, hl', hw, q⟩ := hs
  have big : sizeLine = 16777216 := rfl
  obtain ⟨ys, z, rfl⟩ : ∃ ys z, W = ys ++ [z] := ⟨_, _, (List.dropLast_concat_getLast ne).symm⟩
  have hz := hw z (by simp)
  have hwz : wholeOf (ys ++ [z]) = (z == ("whole" : Str)) := by unfold wholeOf; rw [List.getLast?_append]; rfl
  have atl : atI ((ys ++ [z]).map D.str) (-1) = some (.str z) := by rw [List.map_append]; exact atI_last _ _
  refine onO_i atl ⟨⟨hz.2, by decide +kernel⟩, ?_⟩
  rw [eqv_str]
  refine onT_i (b := z == ("whole" : Str)) (fun h => ?_) (fun h => ?_)
  · have hwR : ∀ w ∈ ys, w.length ≤ sizeLine ∧ PyData.strOk w = true := fun w h => hw w (List.mem_append_left _ h)
    have hlR : ys.length ≤ 1000000 := (by rw [List.length_append] at hl'; omega)
    have hR : restOf (ys ++ [z]) = ys := (by unfold restOf; rw [hwz, h]; exact List.dropLast_concat)
    refine sl_cut (L := (ys ++ [z]).map D.str) (lo := none) (hi := some (-1)) (L' := ys.map D.str) (fun _ => rfl) (fun _ => rfl) (fun _ => rfl) (by rw [List.map_append]; exact cut_lastD _) ?_
    refine ⟨sl, ?_⟩
    refine lc_onE (xs := [(ys.drop 5).take 2, (ys.drop 8).take 2]) (f := fun l => .lst (l.map D.str)) (by
      show [D.lst (cutD (ys.map D.str) (some ((5 : Nat) : Int)) (some ((7 : Nat) : Int))), D.lst (cutD (ys.map D.str) (some ((8 : Nat) : Int)) (some ((10 : Nat) : Int)))] = _
      rw [cut_nat 5 7 (by decide), cut_nat 8 10 (by decide), ← List.map_drop, ← List.map_take, ← List.map_drop, ← List.map_take]
      rfl) (fun l => .tup (l.map look)) sl (fun l hl Y hY => ?_) ?_
    · have ll : l.length ≤ 2 := by
        simp only [List.mem_cons, List.not_mem_nil, or_false] at hl
        rcases hl with rfl | rfl <;> exact List.length_take_le _ _
      refine lc_on (xs := l) (f := D.str) look (by omega) (fun w hw Y hY => ?_) hY
      have hY := hY
      rw [← look_lookup] at hY
      exact hY
    refine lc_onE (xs := ys.drop 11) (f := D.str) (by
      show cutD (ys.map D.str) (some ((11 : Nat) : Int)) none = _
      rw [cut_from, List.map_drop]) fig (by rw [List.length_drop]; omega) (fun w hw Y hY => ⟨rfl, w, rfl, (hwR w (List.mem_of_mem_drop hw)).1, hY⟩) ?_
    obtain ⟨L, eL⟩ : ∃ L, L = (ys.drop 11).map fig := ⟨_, rfl⟩
    have lL : L.length ≤ 1000000 := by rw [eL, List.length_map, List.length_drop]; omega
    rw [← eL]
    refine ⟨(L.length + 1) / 2, rgc2 lL, ?_⟩
    refine lc_onE (xs := List.range ((L.length + 1) / 2)) (f := fun i => .int (0 + (i : Nat) * 2)) rfl (fun i => .tup ((L.drop (2 * i)).take 2)) (by rw [List.length_range]; omega) (fun i hi Y hY => ?_) ?_
    · show wCB wTupOf (wCons (wSl wCutV (wVar 5) (wPart (wVar 9)) (wPart (wOp wAddV (wVar 9) (wC (.int 2))))) wNil) ⟨[some (.lst ((ys ++ [z]).map D.str)), some (.bl (z == ("whole" : Str))), some (.lst (ys.map D.str)), some (.tup (((ys.drop 5).take 2).map look)), some (.tup (((ys.drop 8).take 2).map look)), some (.lst L), none, none, none, some (.int (0 + (i : Nat) * 2))], noX⟩ M Y
      refine tup_cut (L := L) (lo := some (0 + (i : Nat) * 2)) (hi := some (0 + (i : Nat) * 2 + 2)) (L' := (L.drop (2 * i)).take 2) (fun _ => rfl) (fun _ => rfl) (fun _ => rfl) ?_ hY
      rw [show (0 : Int) + (i : Nat) * 2 = ((2 * i : Nat) : Int) by omega, show ((2 * i : Nat) : Int) + 2 = ((2 * i + 2 : Nat) : Int) by omega, cut_nat _ _ (by omega), show 2 * i + 2 - 2 * i = 2 by omega]
    rw [← pairsF_eq _ L rfl]
    refine onT_i (b := decide (((ys.map D.str).length : Int) < 4)) (fun h4 => ?_) (fun h4 => ?_)
    · have h4 := of_decide_eq_true h4
      rw [List.length_map] at h4
      unfold clauseIn at q
      rw [hR, decide_eq_true (show ys.length < 4 by omega)] at q
      exact q
    · have h4 := of_decide_eq_false h4
      rw [List.length_map] at h4
      have g1 : (ys.map D.str)[1]? = some (.str (ys.getD 1 Str.empty)) := getD_str (by omega)
      have g3 : (ys.map D.str)[3]? = some (.str (ys.getD 3 Str.empty)) := getD_str (by omega)
      unfold clauseIn at q
      rw [hR, decide_eq_false (show ¬ ys.length < 4 by omega), hwz] at q
      have q : Q (.tup [.str (ys.getD 1 Str.empty), fig (ys.getD 3 Str.empty), .tup (((ys.drop 5).take 2).map look), .tup (((ys.drop 8).take 2).map look), .tup (pairsF ((ys.drop 11).map fig)), .bl (z == ("whole" : Str))]) M := q
      rw [← eL] at q
      refine onO_i (atI_nat (j := 1) g1) ?_
      refine onO_i (atI_nat (j := 3) g3) ⟨rfl, _, rfl, ?_, sl, q⟩
      exact (hwR _ (by rw [List.getD_eq_getElem?_getD, List.getElem?_eq_getElem (show 3 < ys.length by omega)]; exact List.getElem_mem _)).1
  · have hwR : ∀ w ∈ (ys ++ [z]), w.length ≤ sizeLine ∧ PyData.strOk w = true := fun w h => hw w h
    have hlR : (ys ++ [z]).length ≤ 1000000 := hl'
    have hR : restOf (ys ++ [z]) = (ys ++ [z]) := (by unfold restOf; rw [hwz, h])
    refine ⟨sl, ?_⟩
    refine lc_onE (xs := [((ys ++ [z]).drop 5).take 2, ((ys ++ [z]).drop 8).take 2]) (f := fun l => .lst (l.map D.str)) (by
      show [D.lst (cutD ((ys ++ [z]).map D.str) (some ((5 : Nat) : Int)) (some ((7 : Nat) : Int))), D.lst (cutD ((ys ++ [z]).map D.str) (some ((8 : Nat) : Int)) (some ((10 : Nat) : Int)))] = _
      rw [cut_nat 5 7 (by decide), cut_nat 8 10 (by decide), ← List.map_drop, ← List.map_take, ← List.map_drop, ← List.map_take]
      rfl) (fun l => .tup (l.map look)) sl (fun l hl Y hY => ?_) ?_
    · have ll : l.length ≤ 2 := by
        simp only [List.mem_cons, List.not_mem_nil, or_false] at hl
        rcases hl with rfl | rfl <;> exact List.length_take_le _ _
      refine lc_on (xs := l) (f := D.str) look (by omega) (fun w hw Y hY => ?_) hY
      have hY := hY
      rw [← look_lookup] at hY
      exact hY
    refine lc_onE (xs := (ys ++ [z]).drop 11) (f := D.str) (by
      show cutD ((ys ++ [z]).map D.str) (some ((11 : Nat) : Int)) none = _
      rw [cut_from, List.map_drop]) fig (by rw [List.length_drop]; omega) (fun w hw Y hY => ⟨rfl, w, rfl, (hwR w (List.mem_of_mem_drop hw)).1, hY⟩) ?_
    obtain ⟨L, eL⟩ : ∃ L, L = ((ys ++ [z]).drop 11).map fig := ⟨_, rfl⟩
    have lL : L.length ≤ 1000000 := by rw [eL, List.length_map, List.length_drop]; omega
    rw [← eL]
    refine ⟨(L.length + 1) / 2, rgc2 lL, ?_⟩
    refine lc_onE (xs := List.range ((L.length + 1) / 2)) (f := fun i => .int (0 + (i : Nat) * 2)) rfl (fun i => .tup ((L.drop (2 * i)).take 2)) (by rw [List.length_range]; omega) (fun i hi Y hY => ?_) ?_
    · show wCB wTupOf (wCons (wSl wCutV (wVar 5) (wPart (wVar 9)) (wPart (wOp wAddV (wVar 9) (wC (.int 2))))) wNil) ⟨[some (.lst ((ys ++ [z]).map D.str)), some (.bl (z == ("whole" : Str))), some (.lst ((ys ++ [z]).map D.str)), some (.tup ((((ys ++ [z]).drop 5).take 2).map look)), some (.tup ((((ys ++ [z]).drop 8).take 2).map look)), some (.lst L), none, none, none, some (.int (0 + (i : Nat) * 2))], noX⟩ M Y
      refine tup_cut (L := L) (lo := some (0 + (i : Nat) * 2)) (hi := some (0 + (i : Nat) * 2 + 2)) (L' := (L.drop (2 * i)).take 2) (fun _ => rfl) (fun _ => rfl) (fun _ => rfl) ?_ hY
      rw [show (0 : Int) + (i : Nat) * 2 = ((2 * i : Nat) : Int) by omega, show ((2 * i : Nat) : Int) + 2 = ((2 * i + 2 : Nat) : Int) by omega, cut_nat _ _ (by omega), show 2 * i + 2 - 2 * i = 2 by omega]
    rw [← pairsF_eq _ L rfl]
    refine onT_i (b := decide ((((ys ++ [z]).map D.str).length : Int) < 4)) (fun h4 => ?_) (fun h4 => ?_)
    · have h4 := of_decide_eq_true h4
      rw [List.length_map] at h4
      unfold clauseIn at q
      rw [hR, decide_eq_true (show (ys ++ [z]).length < 4 by omega)] at q
      exact q
    · have h4 := of_decide_eq_false h4
      rw [List.length_map] at h4
      have g1 : ((ys ++ [z]).map D.str)[1]? = some (.str ((ys ++ [z]).getD 1 Str.empty)) := getD_str (by omega)
      have g3 : ((ys ++ [z]).map D.str)[3]? = some (.str ((ys ++ [z]).getD 3 Str.empty)) := getD_str (by omega)
      unfold clauseIn at q
      rw [hR, decide_eq_false (show ¬ (ys ++ [z]).length < 4 by omega), hwz] at q
      have q : Q (.tup [.str ((ys ++ [z]).getD 1 Str.empty), fig ((ys ++ [z]).getD 3 Str.empty), .tup ((((ys ++ [z]).drop 5).take 2).map look), .tup ((((ys ++ [z]).drop 8).take 2).map look), .tup (pairsF (((ys ++ [z]).drop 11).map fig)), .bl (z == ("whole" : Str))]) M := q
      rw [← eL] at q
      refine onO_i (atI_nat (j := 1) g1) ?_
      refine onO_i (atI_nat (j := 3) g3) ⟨rfl, _, rfl, ?_, sl, q⟩
      exact (hwR _ (by rw [List.getD_eq_getElem?_getD, List.getElem?_eq_getElem (show 3 < (ys ++ [z]).length by omega)]; exact List.getElem_mem _)).1

abbrev s_clause_text : Stmt := topS 33
theorem sc_clause_text : FnScope ["clause"] ["clause"] (defScope s_clause_text) := ⟨rfl, rfl, rfl, by decide +kernel, rfl, by decide +kernel, by decide +kernel⟩
def sp_clause_text (ex : Str → Value) : DSpec := fun ds M Q Ed => (∃ c : Cl, ds = [c.d] ∧ c.Ok ∧ Q (.str (textC c)) M) ∨ ∃ v, ds = [v] ∧ D.fit 64 v = true ∧ isClauseD v = false ∧ Ed (ex "InvalidClause") M
theorem ok_clause_text (T : Here K mg "clause_text" ["clause"] s_clause_text) (c_need_clause : DFn P w K mg base 6 "need_clause" 1 (sp_need_clause ex)) (c_text_of : DFn P w K mg base 3 "text_of" 1 sp_text_of) : DFn P w K mg base 7 "clause_text" 1 (sp_clause_text ex) := by
  refine DFn.here (k := 6) T sc_clause_text (fun f cdv A outer s H E hX => (dss_cons (ds_expr (de_call hX c_need_clause (da_cons (dv 0) da_nil)))
      (dss_one (ds_ret (de_call hX c_text_of (da_cons (dv 0) da_nil)))))) (fun ds M Q Ed hl hs => ?_)
  rcases hs with ⟨c, rfl, hc, q⟩ | ⟨v, rfl, hf, hv, q⟩
  · refine ⟨rfl, c.d, rfl, fit_cl hc, ?_⟩
    rw [isClauseD_ok hc]
    exact ⟨rfl, c, rfl, hc, q⟩
  · refine ⟨rfl, v, rfl, hf, ?_⟩
    rw [hv]
    exact q

abbrev s_read_clause : Stmt := topS 34
theorem sc_read_clause : FnScope ["value", "found"] ["value"] (defScope s_read_clause) := ⟨rfl, rfl, rfl, by decide +kernel, rfl, by decide +kernel, by decide +kernel⟩
theorem fit_fig (n : Nat) (w : Str) : D.fit n (fig w) = true := by
  rcases fig_cases w with ⟨_, h⟩ | ⟨c, _, ⟨_, _, h⟩ | ⟨_, h⟩⟩ <;> rw [h] <;> cases n <;> rfl
theorem fit_look (n : Nat) (w : Str) : D.fit n (look w) = true := by
  unfold look
  cases w == ("yes" : Str) with
  | true => cases n <;> rfl
  | false => cases w == ("no" : Str) <;> cases n <;> rfl
theorem fit_pairs : ∀ L : List D, (∀ d ∈ L, D.fit 61 d = true) → D.fitAll 62 (pairsF L) = true
  | [], _ => rfl
  | [a], h => by
    have := h a (by simp)
    show (D.fit 62 (.tup [a]) && true) = true
    show ((D.fit 61 a && true) && true) = true
    rw [this]; rfl
  | a :: b :: r, h => by
    have h1 := h a (by simp)
    have h2 := h b (by simp)
    show ((D.fit 61 a && (D.fit 61 b && true)) && D.fitAll 62 (pairsF r)) = true
    rw [h1, h2, fit_pairs r fun d hd => h d (by simp [hd])]; rfl
theorem fit_looks (l : List Str) : D.fit 63 (.tup (l.map look)) = true := by
  show D.fitAll 62 (l.map look) = true
  exact fitAll_mem.mpr fun d hd => by
    obtain ⟨w, _, rfl⟩ := List.mem_map.mp hd
    exact fit_look _ _
theorem clauseIn_fit {W : List Str} {n : Nat} (h : ∀ w ∈ W, w.length ≤ n ∧ PyData.strOk w = true) : D.fit 64 (clauseIn W) = true := by
  unfold clauseIn
  cases hd : decide ((restOf W).length < 4) with
  | true => rfl
  | false =>
    have hl := of_decide_eq_false hd
    have hR : ∀ w ∈ restOf W, w ∈ W := fun w hw => by
      unfold restOf at hw
      cases e : wholeOf W with
      | true => rw [e] at hw; exact List.dropLast_subset W hw
      | false => rw [e] at hw; exact hw
    have h1 : PyData.strOk ((restOf W).getD 1 Str.empty) = true := by
      rw [List.getD_eq_getElem?_getD, List.getElem?_eq_getElem (show 1 < (restOf W).length by omega)]
      exact (h _ (hR _ (List.getElem_mem _))).2
    have h2 : D.fit 63 (.tup (pairsF (((restOf W).drop 11).map fig))) = true := fit_pairs _ fun d hd => by
      obtain ⟨w, _, rfl⟩ := List.mem_map.mp hd
      exact fit_fig _ _
    show (PyData.strOk ((restOf W).getD 1 Str.empty) && (D.fit 63 (fig ((restOf W).getD 3 Str.empty)) && (D.fit 63 (.tup ((((restOf W).drop 5).take 2).map look)) && (D.fit 63 (.tup ((((restOf W).drop 8).take 2).map look)) && (D.fit 63 (.tup (pairsF (((restOf W).drop 11).map fig))) && (true && true)))))) = true
    rw [h1, fit_fig, fit_looks, fit_looks, h2]; rfl
theorem joinL_mem : ∀ (parts : List (List Nat)) (c : Nat), c ∈ TL.joinL [32] parts → c = 32 ∨ ∃ p ∈ parts, c ∈ p
  | [], c, h => by cases h
  | [p], c, h => .inr ⟨p, by simp, h⟩
  | p :: q :: r, c, h => by
    have h : c ∈ p ++ ([32] ++ TL.joinL [32] (q :: r)) := h
    rcases List.mem_append.mp h with h | h
    · exact .inr ⟨p, by simp, h⟩
    · rcases List.mem_append.mp h with h | h
      · exact .inl (List.mem_singleton.mp h)
      · rcases joinL_mem (q :: r) c h with h | ⟨x, hx, h⟩
        · exact .inl h
        · exact .inr ⟨x, by simp [List.mem_cons.mp hx], h⟩
theorem num_ok : ∀ i : Int, 0 ≤ i → i ≤ 9 → PyData.strOk (numS i) = true := by
  have h : ∀ n : Nat, n ≤ 9 → PyData.strOk (numS (n : Int)) = true := fun n hn => by
    match n, hn with
    | 0, _ | 1, _ | 2, _ | 3, _ | 4, _ | 5, _ | 6, _ | 7, _ | 8, _ | 9, _ => decide +kernel
    | n + 10, h => exact absurd h (by omega)
  intro i h1 h2
  have := h i.toNat (by omega)
  rwa [show ((i.toNat : Nat) : Int) = i by omega] at this
theorem words_ok {c : Cl} (hc : c.Ok) : ∀ w ∈ wordsC c, PyData.strOk w = true := by
  have lit : ∀ x ∈ ([("from" : Str), "free", "ends", "stops", "steps", "whole"] : List Str), PyData.strOk x = true := by decide +kernel
  have hs : ∀ b, PyData.strOk (startS b) = true := fun b => by cases b <;> decide +kernel
  have hy : ∀ b, PyData.strOk (yn b) = true := fun b => by cases b <;> decide +kernel
  have hst : ∀ st : List (Int × Int), (∀ p ∈ st, (1 ≤ p.1 ∧ p.1 ≤ 6) ∧ 0 ≤ p.2 ∧ p.2 ≤ 5) → ∀ x ∈ stepsW st, PyData.strOk x = true := fun st => by
    induction st with
    | nil => exact fun _ x hx => by cases hx
    | cons p r ih =>
      intro hp x hx
      have h1 := hp p (by simp)
      have hx : x ∈ numS p.1 :: numS p.2 :: stepsW r := hx
      rcases List.mem_cons.mp hx with rfl | hx
      · exact num_ok _ (by omega) (by omega)
      · rcases List.mem_cons.mp hx with rfl | hx
        · exact num_ok _ (by omega) (by omega)
        · exact ih (fun q hq => hp q (by simp [hq])) x hx
  intro w hx
  unfold wordsC at hx
  rcases List.mem_append.mp hx with hx | hx
  · unfold bodyW at hx
    simp only [List.mem_cons] at hx
    rcases hx with rfl | rfl | rfl | rfl | rfl | rfl | rfl | rfl | rfl | rfl | rfl | hx
    · exact lit _ (by simp)
    · exact hs _
    · exact lit _ (by simp)
    · exact num_ok _ hc.free.1 (by have := hc.free.2; omega)
    · exact lit _ (by simp)
    · exact hy _
    · exact hy _
    · exact lit _ (by simp)
    · exact hy _
    · exact hy _
    · exact lit _ (by simp)
    · exact hst _ hc.step w hx
  · cases hw : c.whole with
    | false => rw [hw] at hx; cases hx
    | true => rw [hw] at hx; rw [List.mem_singleton.mp hx]; exact lit _ (by simp)
theorem textC_fit {c : Cl} (hc : c.Ok) : PyData.strOk (textC c) = true := (strOk_iff _).mpr fun ch h => by
  unfold textC at h
  rw [TL.join_eq] at h
  have h2 := TL.tl_join " " (wordsC c)
  rw [h2] at h
  have e32 : TL.tl (" " : Str) = [32] := by decide +kernel
  rw [e32] at h
  rcases joinL_mem _ _ h with rfl | ⟨p, hp, hq⟩
  · decide
  · obtain ⟨w, hw, rfl⟩ := List.mem_map.mp hp
    exact (strOk_iff w).mp (words_ok hc w hw) ch hq
theorem steps_inj : ∀ {a b : List (Int × Int)}, a.map stepD = b.map stepD → a = b
  | [], [], _ => rfl
  | [], _ :: _, h => by cases h
  | _ :: _, [], h => by cases h
  | p :: a, q :: b, h => by
    obtain ⟨h1, h2⟩ := List.cons.inj h
    have h1 : [D.int p.1, D.int p.2] = [.int q.1, .int q.2] := D.tup.inj h1
    obtain ⟨h3, h4⟩ := List.cons.inj h1
    have h5 := D.int.inj h3
    have h6 := D.int.inj (List.cons.inj h4).1
    rw [steps_inj h2, Prod.ext h5 h6]
theorem text_of_d {c c' : Cl} (e : c'.d = c.d) : textC c = textC c' := by
  have h : c' = c := by
    unfold Cl.d at e
    simp only [D.tup.injEq, List.cons.injEq, D.int.injEq, D.bl.injEq, D.str.injEq, and_true] at e
    obtain ⟨h1, h2, ⟨h3, h4⟩, ⟨h5, h6⟩, h7, h8⟩ := e
    have h9 : c'.land = c.land := by
      cases h : c'.land <;> cases k : c.land <;> rw [h, k] at h1
      · exact absurd h1 (by decide +kernel)
      · exact absurd h1 (by decide +kernel)
    cases c; cases c'
    simp only at h2 h3 h4 h5 h6 h7 h8 h9
    subst h2 h3 h4 h5 h6 h8 h9
    rw [steps_inj h7]
  rw [h]
def sp_read_clause (ex : Str → Value) : DSpec := fun ds M Q Ed => ∃ v, ds = [v] ∧ D.fit 64 v = true ∧ (∀ t, v = .str t → t.length ≤ 100000) ∧ ((∃ c : Cl, c.Ok ∧ v = .str (textC c) ∧ Q c.d M) ∨ ((∀ c : Cl, c.Ok → v ≠ .str (textC c)) ∧ Ed (ex "InvalidText") M))
theorem ok_read_clause (T : Here K mg "read_clause" ["value"] s_read_clause) (b_isinstance : mg "isinstance" = none) (b_str : mg "str" = none) (x_InvalidText : ErrAt K mg ex "InvalidText") (c_is_good : DFn P w K mg base 5 "is_good" 1 sp_is_good) (c_text_of : DFn P w K mg base 3 "text_of" 1 sp_text_of) (c_clause_in : DFn P w K mg base 3 "clause_in" 1 sp_clause_in) : DFn P w K mg base 6 "read_clause" 1 (sp_read_clause ex) := by
  refine DFn.here (k := 5) T sc_read_clause (fun f cdv A outer s H E hX => (dss_cons (ds_if (dt_not (dt_val (de_isT (T := "str") b_isinstance b_str (dv 0)))) (dss_one (ds_raise hX x_InvalidText)) dss_nil)
      (dss_cons (ds_set hX 1 (de_call hX c_clause_in (da_cons (de_split (dv 0) dstr) da_nil)))
      (dss_cons (ds_if (DW.dt (dw_or (dt_not (dt_val (de_call hX c_is_good (da_cons (dv 1) da_nil)))) (dw_or1 (dt_ne hX (de_call hX c_text_of (da_cons (dv 1) da_nil)) (dv 0))))) (dss_one (ds_raise hX x_InvalidText)) dss_nil)
      (dss_one (ds_ret (dv 1))))))) (fun ds M Q Ed hl hs => ?_)
  obtain ⟨v, rfl, hf, hlen, q⟩ := hs
  have big : sizeLine = 16777216 := rfl
  have odd : (∀ t, v ≠ .str t) → Ed (ex "InvalidText") M := fun h => by
    rcases q with ⟨c, _, e, _⟩ | ⟨_, q⟩
    · exact absurd e (h _)
    · exact q
  cases v with
  | str t =>
    have ht : PyData.strOk t = true := by simpa [D.fit] using hf
    have tl := hlen t rfl
    obtain ⟨f1, f2⟩ := split_facts t ht
    have odd2 : (∀ c : Cl, c.Ok → D.str t = .str (textC c) → False) → Ed (ex "InvalidText") M := fun h => by
      rcases q with ⟨c, hc, e, _⟩ | ⟨_, q⟩
      · exact (h c hc e).elim
      · exact q
    refine ⟨⟨by decide +kernel, by omega⟩, rfl, Txt.split t " ", rfl, split_ne t, by omega, fun w hw => ⟨by have := (f2 w hw).1; omega, (f2 w hw).2⟩, ?_⟩
    have fd : D.fit 64 (clauseIn (Txt.split t " ")) = true := clauseIn_fit f2
    refine ⟨rfl, clauseIn (Txt.split t " "), rfl, fd, ?_⟩
    refine onT_i (b := !isClauseD (clauseIn (Txt.split t " "))) (fun h => ?_) (fun h => ?_)
    · refine odd2 fun c hc e => ?_
      have e := D.str.inj e
      rw [e, read_text hc, isClauseD_ok hc] at h
      cases h
    · obtain ⟨c, hc, e⟩ := isClauseD_cl (bn h)
      rw [e]
      refine ⟨rfl, c, rfl, hc, ⟨textC_fit hc, hf⟩, ?_⟩
      rw [eqv_str]
      refine onT_i (b := !(textC c == t)) (fun h2 => ?_) (fun h2 => ?_)
      · refine odd2 fun c' hc' e' => ?_
        have e' := D.str.inj e'
        have h2 := bt h2
        rw [e', read_text hc'] at e
        have : textC c = textC c' := by rw [text_of_d e]
        rw [this, ← e', beq_self_eq_true] at h2
        cases h2
      · have h2 := eq_of_beq (bn h2)
        rcases q with ⟨c', hc', e', q⟩ | ⟨no, _⟩
        · have e' := D.str.inj e'
          rw [text_inj hc hc' (h2.trans e')]
          exact q
        · exact absurd (by rw [h2]) (no c hc)
  | ref a => simp [D.fit] at hf
  | fro a => simp [D.fit] at hf
  | _ => exact odd fun t e => by cases e

abbrev s__law_vat : Stmt := topS 36
theorem sc__law_vat : FnScope ["script", "k", "cell"] ["script", "k"] (defScope s__law_vat) := ⟨rfl, rfl, rfl, by decide +kernel, rfl, by decide +kernel, by decide +kernel⟩
def sp__law_vat : DSpec := fun ds M Q _ => ∃ (ns : List Int) (k : Int), ds = [.fro (ns.map D.int), .int k] ∧ 0 ≤ k ∧ ∀ p a b, M p = none → Q (.ref p) (updM M p (vatO a b))
theorem ok__law_vat (T : Here K mg "_law_vat" ["script", "k"] s__law_vat) (b_abs : mg "abs" = none) (b_int : mg "int" = none) (b_len : mg "len" = none) : DFn P w K mg base 2 "_law_vat" 2 sp__law_vat := by
  refine DFn.here (k := 1) T sc__law_vat (fun f cdv A outer s H E hX => (dss_cons (ds_set hX 2 (de_add (de_mul dint (dv 1)) dint))
      (dss_cons (ds_if (dt_lt (dv 1) (de_len b_len (da_cons (dv 0) da_nil))) (dss_one (ds_set hX 2 (de_abs b_abs (da_cons (de_int b_int (da_cons (de_ix (dv 0) (dv 1)) da_nil)) da_nil)))) dss_nil)
      (dss_one (ds_ret (de_lstM (da_cons (de_if (dt_ge (dv 2) (de_pow dint dint)) (dv 2) dint) (da_cons (de_add (de_mod (de_int b_int (da_cons (de_add (de_add (de_mul (dv 2) dint) (de_mul dint (dv 1))) dint) da_nil)) dint) dint) da_nil)))))))) (fun ds M Q Ed hl hs => ?_)
  obtain ⟨ns, k, rfl, hk, q⟩ := hs
  refine ⟨cmulL, onT_i (fun h => ?_) (fun h => ?_)⟩
  · obtain ⟨j, rfl⟩ := Int.eq_ofNat_of_zero_le hk
    have h : (j : Int) < ((ns.map D.int).length : Int) := of_decide_eq_true h
    have hj : j < ns.length := by simpa using h
    refine onO_i (atI_nat (by rw [List.getElem?_map, List.getElem?_eq_getElem hj]; rfl)) ?_
    refine ⟨⟨by decide, by decide, by decide⟩, onT_i (fun h2 => ?_) (fun h2 => ?_)⟩
    all_goals exact ⟨cmulR, cmulL, cmod, sl, fun p hp => q p _ _ hp⟩
  · refine ⟨⟨by decide, by decide, by decide⟩, onT_i (fun h2 => ?_) (fun h2 => ?_)⟩
    all_goals exact ⟨cmulR, cmulL, cmod, sl, fun p hp => q p _ _ hp⟩

abbrev s__law_under : Stmt := topS 37
theorem sc__law_under : FnScope ["vat", "many", "found", "wide"] ["vat", "many"] (defScope s__law_under) := ⟨rfl, rfl, rfl, by decide +kernel, rfl, by decide +kernel, by decide +kernel⟩
def sp__law_under : DSpec := fun ds M Q _ => ∃ (p : Addr) (n : Int), ds = [.ref p, .int n] ∧ (0 < n ∧ n < 2 ^ 30) ∧ VatAt M p ∧ ∀ r M', 0 ≤ r → r < n → VatEx M M' p → Q (.int r) M'
theorem ok__law_under (T : Here K mg "_law_under" ["vat", "many"] s__law_under) (b_int : mg "int" = none) : DFn P w K mg base 2 "_law_under" 2 sp__law_under := by
  refine DFn.here (k := 1) T sc__law_under (fun f cdv A outer s H E hX => (dss_cons (ds_if (dt_gt (de_ix (dv 0) dint) dint) (dss_cons (ds_set hX 2 (de_mod (de_int b_int (da_cons (de_ix (dv 0) dint) da_nil)) (dv 1)))
      (dss_cons (ds_ixset (de_fdiv (de_ix (dv 0) dint) (dv 1)) (dv 0) dint)
      (dss_one (ds_ret (dv 2))))) dss_nil)
      (dss_cons (ds_ixset (de_mod (de_int b_int (da_cons (de_add (de_mul (de_ix (dv 0) dint) dint) dint) da_nil)) dint) (dv 0) dint)
      (dss_cons (ds_set hX 3 (de_mod (de_int b_int (da_cons (de_mul (de_ix (dv 0) dint) (de_add (de_fdiv (de_ix (dv 0) dint) dint) dint)) da_nil)) dint))
      (dss_one (ds_ret (de_mod (de_int b_int (da_cons (de_fdiv (dv 3) dint) da_nil)) (dv 1)))))))) (fun ds M Q Ed hl hs => ?_)
  obtain ⟨p, n, rfl, ⟨n1, n2⟩, va, q⟩ := hs
  obtain ⟨a, b, hv⟩ := id va
  have q2 : ∀ x a b, Q (.int (x % n)) (updM M p (vatO a b)) := fun x a b => q _ _ (Int.emod_nonneg x (by omega)) (Int.emod_lt_of_pos x n1) (VatEx.refl va).upd
  have v0 := moL_vat hv
  have v1 : ∀ {a b : Int}, moL (updM M p (.lst [.int a, .int b]) p) = some [.int a, .int b] := by intro a b; rw [updM_same]; rfl
  refine onO_i v0 (onO_i (atI_nat (j := 0) rfl) (onT_i (fun h => ?_) (fun h => ?_)))
  · refine onO_i v0 (onO_i (atI_nat (j := 0) rfl) ⟨n1, ?_⟩)
    refine onO_i v0 (onO_i (atI_nat (j := 0) rfl) ⟨cdiv ⟨n1, by omega⟩, onO_i v0 (onO_i (ixl 0) ?_)⟩)
    exact q2 _ _ _
  · refine onO_i v0 (onO_i (atI_nat (j := 1) rfl) ⟨cmulR, cmod, onO_i v0 (onO_i (ixl 1) ?_)⟩)
    have hz2 : -(2 ^ 64) < (b * 39373 + 101) % 2147483629 ∧ (b * 39373 + 101) % 2147483629 < 2 ^ 64 := by omega
    refine onO_i v1 (onO_i (atI_nat (j := 1) rfl) (onO_i v1 (onO_i (atI_nat (j := 1) rfl) ?_)))
    exact ⟨cdiv, cmulL hz2, cmod, cdiv, n1, q2 _ _ _⟩

abbrev s__law_some : Stmt := topS 38
theorem sc__law_some : FnScope ["vat", "things"] ["vat", "things"] (defScope s__law_some) := ⟨rfl, rfl, rfl, by decide +kernel, rfl, by decide +kernel, by decide +kernel⟩
def sp__law_some : DSpec := fun ds M Q _ => ∃ (p : Addr) (es : List D), ds = [.ref p, .lst es] ∧ (0 < es.length ∧ es.length < 2 ^ 30) ∧ VatAt M p ∧ ∀ d M', d ∈ es → VatEx M M' p → Q d M'
theorem ok__law_some (T : Here K mg "_law_some" ["vat", "things"] s__law_some) (b_len : mg "len" = none) (c__law_under : DFn P w K mg base 2 "_law_under" 2 sp__law_under) : DFn P w K mg base 3 "_law_some" 2 sp__law_some := by
  refine DFn.here (k := 2) T sc__law_some (fun f cdv A outer s H E hX => (dss_one (ds_ret (de_ix (dv 1) (de_call hX c__law_under (da_cons (dv 0) (da_cons (de_len b_len (da_cons (dv 1) da_nil)) da_nil))))))) (fun ds M Q Ed hl hs => ?_)
  obtain ⟨p, es, rfl, ⟨n1, n2⟩, hv, q⟩ := hs
  refine ⟨rfl, p, es.length, rfl, ⟨by omega, by omega⟩, hv, fun r M' h1 h2 e => ?_⟩
  obtain ⟨j, rfl⟩ := Int.eq_ofNat_of_zero_le h1
  have hj : j < es.length := by omega
  exact onO_i (atI_nat (List.getElem?_eq_getElem hj)) (q _ M' (List.getElem_mem hj) e)

abbrev s__law_is_whole : Stmt := topS 39
theorem sc__law_is_whole : FnScope ["value", "low", "high"] ["value", "low", "high"] (defScope s__law_is_whole) := ⟨rfl, rfl, rfl, by decide +kernel, rfl, by decide +kernel, by decide +kernel⟩
def sp__law_is_whole : DSpec := fun ds M Q _ => ∃ v lo hi, ds = [v, .int lo, .int hi] ∧ D.fit 64 v = true ∧ Q (.bl (isWholeD v lo hi)) M
theorem ok__law_is_whole (T : Here K mg "_law_is_whole" ["value", "low", "high"] s__law_is_whole) (b_bool : mg "bool" = none) (b_int : mg "int" = none) (b_isinstance : mg "isinstance" = none) : DFn P w K mg base 2 "_law_is_whole" 3 sp__law_is_whole := by
  refine DFn.here (k := 1) T sc__law_is_whole (fun f cdv A outer s H E hX => (dss_one (ds_ret (de_and (de_isT (T := "int") b_isinstance b_int (dv 0)) (de_and (de_not (de_isT (T := "bool") b_isinstance b_bool (dv 0))) (de_one (de_lele (dv 1) (dv 0) (dv 2)))))))) (fun ds M Q Ed hl hs => ?_)
  obtain ⟨v, lo, hi, rfl, hf, q⟩ := hs
  cases v with
  | int i =>
    have q : Q (.bl (decide (lo ≤ i) && decide (i ≤ hi))) M := q
    refine onD_i (b := decide (lo ≤ i)) (fun h => ?_) (fun h => ?_)
    · rw [h] at q; exact q
    · rw [h] at q; exact q
  | ref a => simp [D.fit] at hf
  | fro a => simp [D.fit] at hf
  | _ => exact q

abbrev s__law_are_bools : Stmt := topS 40
theorem sc__law_are_bools : FnScope ["value", "one"] ["value"] (defScope s__law_are_bools) := ⟨rfl, rfl, rfl, by decide +kernel, rfl, by decide +kernel, by decide +kernel⟩
def sp__law_are_bools : DSpec := fun ds M Q _ => ∃ v, ds = [v] ∧ D.fit 64 v = true ∧ Q (.bl (isTruths v)) M
theorem ok__law_are_bools (T : Here K mg "_law_are_bools" ["value"] s__law_are_bools) (b_bool : mg "bool" = none) (b_isinstance : mg "isinstance" = none) (b_len : mg "len" = none) (b_tuple : mg "tuple" = none) : DFn P w K mg base 2 "_law_are_bools" 1 sp__law_are_bools := by
  refine DFn.here (k := 1) T sc__law_are_bools (fun f cdv A outer s H E hX => (dss_cons (ds_if (DW.dt (dw_or (dt_not (dt_val (de_isT (T := "tuple") b_isinstance b_tuple (dv 0)))) (dw_or1 (dt_ne hX (de_len b_len (da_cons (dv 0) da_nil)) dint)))) (dss_one (ds_ret dbl)) dss_nil)
      (dss_one (ds_ret (de_eq hX (de_lc hX (own := [("one", 1)]) (blkOk_by (N := ["value", "one"]) (sc := defScope s__law_are_bools) (by decide +kernel)) (di_seq (dv 0)) (fun _ _ _ _ _ hX => ⟨(dg_nm hX 1), (dts_one (dt_not (dt_val (de_isT (T := "bool") b_isinstance b_bool (dv 1))))), (dv 1)⟩)) (de_lst da_nil)))))) (fun ds M Q Ed hl hs => ?_)
  obtain ⟨v, rfl, hf, q⟩ := hs
  cases v with
  | tup es =>
    refine ⟨⟨fit_int _ _, fit_int _ _⟩, ?_⟩
    match es, hf, q with
    | [a, b], hf, q =>
      obtain ⟨ha, hb⟩ := fit_tup2 hf
      have q : Q (.bl (isBl a && isBl b)) M := q
      refine lc_pure (fun d => if isBl d = true then none else some d) ?_ (fun i d hd Y N h1 h2 => ?_) ?_
      · show 2 ≤ sizeLine
        decide
      · have : D.fit 63 d = true := by
          match i, hd with
          | 0, hd => cases hd; exact ha
          | 1, hd => cases hd; exact hb
        cases d with
        | ref a => simp [D.fit] at this
        | fro a => simp [D.fit] at this
        | bl b => exact h2 rfl
        | _ => exact h1 _ rfl
      · have e : [a, b].filterMap (fun d => if isBl d = true then none else some d) = (if isBl a = true then [] else [a]) ++ (if isBl b = true then [] else [b]) := by
          cases h1 : isBl a <;> cases h2 : isBl b <;> simp [h1, h2]
        refine ⟨by decide, ⟨?_, by decide⟩, ?_⟩
        · rw [e]
          have fa := fit_up (m := 63) ha (by decide)
          have fb := fit_up (m := 63) hb (by decide)
          cases isBl a <;> cases isBl b <;> simp [D.fit, D.fitAll, fa, fb]
        · rw [e]
          cases h1 : isBl a <;> cases h2 : isBl b <;> (rw [h1, h2] at q; exact q)
    | [], hf, q => exact q
    | [a], hf, q => exact q
    | a :: b :: c :: r, hf, q =>
      refine onT_i (fun h => q) fun h => ?_
      have : ((a :: b :: c :: r).length : Int) = 2 := by simpa [D.eqv] using h
      simp at this
      omega
  | ref a => simp [D.fit] at hf
  | fro a => simp [D.fit] at hf
  | _ => exact q

abbrev s__law_are_steps : Stmt := topS 41
theorem sc__law_are_steps : FnScope ["value", "pair", "firsts"] ["value"] (defScope s__law_are_steps) := ⟨rfl, rfl, rfl, by decide +kernel, rfl, by decide +kernel, by decide +kernel⟩
def sp__law_are_steps : DSpec := fun ds M Q _ => ∃ v, ds = [v] ∧ D.fit 64 v = true ∧ Q (.bl (isStepsD v)) M
theorem ok__law_are_steps (T : Here K mg "_law_are_steps" ["value"] s__law_are_steps) (b_isinstance : mg "isinstance" = none) (b_len : mg "len" = none) (b_set : mg "set" = none) (b_sorted : mg "sorted" = none) (b_tuple : mg "tuple" = none) (c__law_is_whole : DFn P w K mg base 2 "_law_is_whole" 3 sp__law_is_whole) : DFn P w K mg base 3 "_law_are_steps" 1 sp__law_are_steps := by
  refine DFn.here (k := 2) T sc__law_are_steps (fun f cdv A outer s H E hX => (dss_cons (ds_if (DW.dt (dw_or (dt_not (dt_val (de_isT (T := "tuple") b_isinstance b_tuple (dv 0)))) (dw_or1 (dt_notInF (de_len b_len (da_cons (dv 0) da_nil)) (de_lst (da_cons dint (da_cons dint (da_cons dint da_nil)))))))) (dss_one (ds_ret dbl)) dss_nil)
      (dss_cons (ds_for hX (di_seq (dv 0)) (dg_nm hX 1) (dss_cons (ds_if (DW.dt (dw_or (dt_not (dt_val (de_isT (T := "tuple") b_isinstance b_tuple (dv 1)))) (dw_or1 (dt_ne hX (de_len b_len (da_cons (dv 1) da_nil)) dint)))) (dss_one (ds_ret dbl)) dss_nil)
      (dss_one (ds_if (DW.dt (dw_or (dt_not (dt_val (de_call hX c__law_is_whole (da_cons (de_ix (dv 1) dint) (da_cons dint (da_cons dint da_nil)))))) (dw_or1 (dt_not (dt_val (de_call hX c__law_is_whole (da_cons (de_ix (dv 1) dint) (da_cons dint (da_cons dint da_nil))))))))) (dss_one (ds_ret dbl)) dss_nil))))
      (dss_cons (ds_setLc hX 2 (own := [("pair", 1)]) (blkOk_by (N := ["value", "pair", "firsts"]) (sc := defScope s__law_are_steps) (by decide +kernel)) (di_seq (dv 0)) (fun _ _ _ _ _ hX => ⟨(dg_nm hX 1), dts_nil, (de_ix (dv 1) dint)⟩) (sw_true rfl rfl rfl (by decide +kernel)))
      (dss_one (ds_ret (de_and (de_eq hX (de_ix (dv 2) dint) dint) (de_one (de_eq hX (dv 2) (de_sortedSet hX b_sorted b_set (dv 2))))))))))) (fun ds M Q Ed hl hs => ?_)
  obtain ⟨v, rfl, hf, q⟩ := hs
  cases v with
  | tup es =>
    have q : Q (.bl (decide (1 ≤ es.length) && decide (es.length ≤ 3) && es.all isStepD && D.eqv ((es.map fstD).getD 0 .non) (.int 1) && risesD (es.map fstD))) M := q
    have hfe : D.fitAll 63 es = true := by simpa [D.fit] using hf
    have ein : (true != [D.int 1, D.int 2, D.int 3].any fun z => D.eqv z (.int (es.length : Int))) = !(decide (1 ≤ es.length) && decide (es.length ≤ 3)) := by
      show (true != ((1 : Int) == es.length || ((2 : Int) == es.length || ((3 : Int) == es.length || false)))) = _
      by_cases h1 : 1 ≤ es.length <;> by_cases h3 : es.length ≤ 3
      · rw [decide_eq_true h1, decide_eq_true h3]
        have : es.length = 1 ∨ es.length = 2 ∨ es.length = 3 := by omega
        rcases this with e | e | e <;> rw [e] <;> rfl
      · have a1 : ((1 : Int) == es.length) = false := by rw [beq_eq_false_iff_ne]; omega
        have a2 : ((2 : Int) == es.length) = false := by rw [beq_eq_false_iff_ne]; omega
        have a3 : ((3 : Int) == es.length) = false := by rw [beq_eq_false_iff_ne]; omega
        rw [a1, a2, a3, decide_eq_false h3]; simp
      · have a1 : ((1 : Int) == es.length) = false := by rw [beq_eq_false_iff_ne]; omega
        have a2 : ((2 : Int) == es.length) = false := by rw [beq_eq_false_iff_ne]; omega
        have a3 : ((3 : Int) == es.length) = false := by rw [beq_eq_false_iff_ne]; omega
        rw [a1, a2, a3, decide_eq_false h1]; simp
      · omega
    refine ⟨sl, ⟨rfl, rfl⟩, onT_i (b := true != [D.int 1, D.int 2, D.int 3].any fun z => D.eqv z (.int (es.length : Int))) (fun h => ?_) (fun h => ?_)⟩
    · rw [ein] at h
      have h : (decide (1 ≤ es.length) && decide (es.length ≤ 3)) = false := bt h
      rw [h] at q
      exact q
    · rw [ein] at h
      have h : (decide (1 ≤ es.length) && decide (es.length ≤ 3)) = true := bn h
      rw [h] at q
      rw [Bool.and_eq_true] at h
      have h1 := of_decide_eq_true h.1
      have h3 := of_decide_eq_true h.2
      have q : Q (.bl (es.all isStepD && D.eqv ((es.map fstD).getD 0 .non) (.int 1) && risesD (es.map fstD))) M := by simpa using q
      have no : ∀ d ∈ es, isStepD d = false → Q (.bl false) M := fun d hd h => by
        have : es.all isStepD = false := by
          cases e : es.all isStepD with
          | false => rfl
          | true => rw [List.all_eq_true.mp e d hd] at h; cases h
        rw [this] at q
        exact q
      refine ⟨fun i δ' M' => (∃ x, δ' = ⟨[some (.tup es), x, none], Ed⟩) ∧ M' = M ∧ ∀ j d, j < i → es[j]? = some d → isStepD d = true, ⟨⟨_, rfl⟩, rfl, fun j d h => by omega⟩, fun i d δ' M' hd ⟨⟨x, e1⟩, e2, hall⟩ => ?_, fun δ' M' ⟨⟨x, e1⟩, e2, hall⟩ => ?_⟩
      · subst e1; subst e2
        have hm := List.mem_of_getElem? hd
        have hfd := fitAll_mem.mp hfe d hm
        cases d with
        | tup ps =>
          have bad : ps.length ≠ 2 → Q (.bl false) M' := fun h => no _ hm (by
            match ps, h with
            | [], _ => rfl
            | [_], _ => rfl
            | [_, _], h => exact absurd rfl h
            | _ :: _ :: _ :: _, _ => rfl)
          refine ⟨⟨fit_int _ _, fit_int _ _⟩, onT_i (b := !((ps.length : Int) == 2)) (fun h => bad fun e => by rw [e] at h; cases h) (fun h => ?_)⟩
          have h2 : ps.length = 2 := by
            have : ((ps.length : Int) == 2) = true := by simpa using h
            have := eq_of_beq this
            omega
          match ps, h2, hfd, hm, hd with
          | [a, b], _, hfd, hm, hd =>
            obtain ⟨fa, fb⟩ := fit_tup2 hfd
            refine ⟨rfl, a, 1, 6, rfl, fit_up fa (by decide), onT_i (b := !isWholeD a 1 6) (fun h4 => no _ hm ?_) (fun h4 => ⟨rfl, b, 0, 5, rfl, fit_up fb (by decide), onT_i (b := !isWholeD b 0 5) (fun h5 => no _ hm ?_) (fun h5 => ?_)⟩)⟩
            · show (isWholeD a 1 6 && isWholeD b 0 5) = false
              have h4 : isWholeD a 1 6 = false := by simpa using h4
              rw [h4]; rfl
            · show (isWholeD a 1 6 && isWholeD b 0 5) = false
              have h5 : isWholeD b 0 5 = false := by simpa using h5
              rw [h5, Bool.and_false]
            · refine ⟨⟨_, rfl⟩, rfl, fun j d hj hjd => ?_⟩
              by_cases e : j = i
              · subst e
                rw [hd] at hjd; cases hjd
                show (isWholeD a 1 6 && isWholeD b 0 5) = true
                have h4 : isWholeD a 1 6 = true := by simpa using h4
                have h5 : isWholeD b 0 5 = true := by simpa using h5
                rw [h4, h5]; rfl
              · exact hall j d (by omega) hjd
        | ref a => simp [D.fit] at hfd
        | fro a => simp [D.fit] at hfd
        | _ => exact no _ hm rfl
      · subst e1; subst e2
        have ha : es.all isStepD = true := by
          rw [List.all_eq_true]
          intro d hd
          obtain ⟨j, hj⟩ := List.getElem?_of_mem hd
          exact hall j d (List.getElem?_eq_some_iff.mp hj).1 hj
        rw [ha] at q
        obtain ⟨ps, e1, e2, e3⟩ := steps_ints ha
        subst e1
        refine lc_map fstD (Nat.le_trans h3 (by decide)) (fun i d hd Y hY => ?_) ?_
        · rw [List.getElem?_map] at hd
          cases e : ps[i]? with
          | none => rw [e] at hd; cases hd
          | some r => rw [e] at hd; cases hd; exact hY
        · rw [e2] at q ⊢
          match ps, h1, h3, q with
          | p :: ps, h1, h3, q =>
            refine onO_i (atI_nat (j := 0) rfl) ?_
            refine ⟨⟨fit_int _ _, fit_int _ _⟩, onD_i (b := D.eqv (.int p.1) (.int 1)) (fun h5 => ?_) (fun h5 => ?_)⟩
            · refine onO_i (intsD_map ((p :: ps).map (·.1))) ?_
              refine ⟨by rw [List.length_map]; rw [List.length_map] at h3; omega, fun ns hp hm => ⟨⟨?_, ?_⟩, ?_⟩⟩
              · exact fitAll_mem.mpr fun d hd => fitAll_mem.mp (fit_ints 63 _) d hd
              · exact fit_ints 63 ns
              · rw [eqv_sorted hp hm]
                rw [rises_ints] at q
                have q : Q (.bl (true && D.eqv (.int p.1) (.int 1) && rising ((p :: ps).map (·.1)))) M' := q
                rw [h5] at q
                exact q
            · have q : Q (.bl (true && D.eqv (.int p.1) (.int 1) && risesD (((p :: ps).map (·.1)).map D.int))) M' := q
              rw [h5] at q
              exact q
  | ref a => simp [D.fit] at hf
  | fro a => simp [D.fit] at hf
  | _ => exact q

abbrev s__law_is_clause : Stmt := topS 42
theorem sc__law_is_clause : FnScope ["value"] ["value"] (defScope s__law_is_clause) := ⟨rfl, rfl, rfl, by decide +kernel, rfl, by decide +kernel, by decide +kernel⟩
def sp__law_is_clause : DSpec := fun ds M Q _ => ∃ v, ds = [v] ∧ D.fit 64 v = true ∧ Q (.bl (isClauseD v)) M
theorem ok__law_is_clause (T : Here K mg "_law_is_clause" ["value"] s__law_is_clause) (b_bool : mg "bool" = none) (b_isinstance : mg "isinstance" = none) (b_len : mg "len" = none) (b_str : mg "str" = none) (b_tuple : mg "tuple" = none) (c__law_is_whole : DFn P w K mg base 2 "_law_is_whole" 3 sp__law_is_whole) (c__law_are_bools : DFn P w K mg base 2 "_law_are_bools" 1 sp__law_are_bools) (c__law_are_steps : DFn P w K mg base 3 "_law_are_steps" 1 sp__law_are_steps) : DFn P w K mg base 4 "_law_is_clause" 1 sp__law_is_clause := by
  refine DFn.here (k := 3) T sc__law_is_clause (fun f cdv A outer s H E hX => (dss_cons (ds_if (DW.dt (dw_or (dt_not (dt_val (de_isT (T := "tuple") b_isinstance b_tuple (dv 0)))) (dw_or (dt_ne hX (de_len b_len (da_cons (dv 0) da_nil)) dint) (dw_or1 (dt_not (dt_val (de_isT (T := "bool") b_isinstance b_bool (de_ix (dv 0) dint)))))))) (dss_one (ds_ret dbl)) dss_nil)
      (dss_cons (ds_if (DW.dt (dw_or (dt_notInL hX (de_ix (dv 0) dint) (de_lst (da_cons dstr (da_cons dstr da_nil)))) (dw_or1 (dt_not (dt_val (de_isT (T := "str") b_isinstance b_str (de_ix (dv 0) dint))))))) (dss_one (ds_ret dbl)) dss_nil)
      (dss_cons (ds_if (DW.dt (dw_or (dt_not (dt_val (de_call hX c__law_is_whole (da_cons (de_ix (dv 0) dint) (da_cons dint (da_cons dint da_nil)))))) (dw_or1 (dt_not (dt_val (de_call hX c__law_are_steps (da_cons (de_ix (dv 0) dint) da_nil))))))) (dss_one (ds_ret dbl)) dss_nil)
      (dss_one (ds_ret (de_and (de_call hX c__law_are_bools (da_cons (de_ix (dv 0) dint) da_nil)) (de_one (de_call hX c__law_are_bools (da_cons (de_ix (dv 0) dint) da_nil)))))))))) (fun ds M Q Ed hl hs => ?_)
  obtain ⟨v, rfl, hf, q⟩ := hs
  cases v with
  | tup es =>
    refine ⟨⟨fit_int _ _, fit_int _ _⟩, ?_⟩
    have no : es.length ≠ 6 → Q (.bl false) M := fun h => by
      match es, h, q with
      | [], _, q => exact q
      | [_], _, q => exact q
      | [_, _], _, q => exact q
      | [_, _, _], _, q => exact q
      | [_, _, _, _], _, q => exact q
      | [_, _, _, _, _], _, q => exact q
      | [_, _, _, _, _, _], h, _ => exact absurd rfl h
      | _ :: _ :: _ :: _ :: _ :: _ :: _ :: _, _, q => exact q
    refine onT_i (b := !((es.length : Int) == 6)) (fun h => no fun e => by rw [e] at h; cases h) (fun h => ?_)
    have h6 : es.length = 6 := by
      have : ((es.length : Int) == 6) = true := by simpa using h
      have := eq_of_beq this
      omega
    match es, h6, hf, q with
    | [b, f, e, t, s, w], _, hf, q =>
      have hfe : D.fitAll 63 [b, f, e, t, s, w] = true := by simpa [D.fit] using hf
      have fits := fitAll_mem.mp hfe
      have fb := fits b (by simp)
      have ff := fit_up (m := 64) (fits f (by simp)) (by decide)
      have fe := fit_up (m := 64) (fits e (by simp)) (by decide)
      have ft := fit_up (m := 64) (fits t (by simp)) (by decide)
      have fs := fit_up (m := 64) (fits s (by simp)) (by decide)
      have fw := fit_up (m := 64) (fits w (by simp)) (by decide)
      have q : Q (.bl (isStart b && isWholeD f 0 6 && isTruths e && isTruths t && isStepsD s && isBl w)) M := q
      clear hf hfe fits no h h6
      cases w with
      | bl wb =>
        have ein : (true != [D.str "landing", D.str "release"].any fun z => D.eqv z b) = !isStart b := by
          cases b with
          | str x =>
            show (true != (("landing" == x) || (("release" == x) || false))) = !(x == "landing" || x == "release")
            rw [Bool.or_false, beqStr_comm ("landing" : Str) x, beqStr_comm ("release" : Str) x]
            simp
          | _ => rfl
        refine ⟨sl, ⟨fb, by decide +kernel⟩, onT_i (b := true != [D.str "landing", D.str "release"].any fun z => D.eqv z b) (fun h => ?_) (fun h => ?_)⟩
        · rw [ein] at h
          have h : isStart b = false := by simpa using h
          rw [h] at q
          exact q
        · rw [ein] at h
          have h : isStart b = true := by simpa using h
          rw [h] at q
          cases b with
          | str x =>
            have q : Q (.bl (isStart (.str x) && isWholeD f 0 6 && isTruths e && isTruths t && isStepsD s && true)) M := q
            rw [h] at q
            refine ⟨rfl, f, 0, 6, rfl, ff, onT_i (b := !isWholeD f 0 6) (fun h1 => ?_) (fun h1 => ?_)⟩
            · have h1 : isWholeD f 0 6 = false := by simpa using h1
              rw [h1] at q
              exact q
            · have h1 : isWholeD f 0 6 = true := by simpa using h1
              rw [h1] at q
              refine ⟨rfl, s, rfl, fs, onT_i (b := !isStepsD s) (fun h2 => ?_) (fun h2 => ?_)⟩
              · have h2 : isStepsD s = false := by simpa using h2
                rw [h2, Bool.and_false] at q
                exact q
              · have h2 : isStepsD s = true := by simpa using h2
                rw [h2] at q
                refine ⟨rfl, e, rfl, fe, onD_i (b := isTruths e) (fun h3 => ?_) (fun h3 => ?_)⟩
                · rw [h3] at q
                  refine ⟨rfl, t, rfl, ft, ?_⟩
                  have q : Q (.bl (isTruths t && true && true)) M := q
                  rw [Bool.and_true, Bool.and_true] at q
                  exact q
                · rw [h3] at q; exact q
          | _ => cases h
      | ref a => simp [D.fit] at fw
      | fro a => simp [D.fit] at fw
      | _ =>
        rw [show ∀ d, isBl d = false → (isStart b && isWholeD f 0 6 && isTruths e && isTruths t && isStepsD s && isBl d) = false from fun d h => by rw [h, Bool.and_false]] at q
        · exact q
        · rfl
  | ref a => simp [D.fit] at hf
  | fro a => simp [D.fit] at hf
  | _ => exact q

abbrev s__law_clause : Stmt := topS 43
theorem sc__law_clause : FnScope ["vat", "firsts", "prices", "truths", "start", "free", "steps", "first", "turn", "price"] ["vat"] (defScope s__law_clause) := ⟨rfl, rfl, rfl, by decide +kernel, rfl, by decide +kernel, by decide +kernel⟩
def sp__law_clause : DSpec := fun ds M Q _ => ∃ p, ds = [.ref p] ∧ VatAt M p ∧ ∀ (c : Cl) M', c.Ok → VatEx M M' p → Q c.d M'
theorem ok__law_clause (T : Here K mg "_law_clause" ["vat"] s__law_clause) (b_len : mg "len" = none) (b_range : mg "range" = none) (b_tuple : mg "tuple" = none) (b_zip : mg "zip" = none) (c__law_under : DFn P w K mg base 2 "_law_under" 2 sp__law_under) (c__law_some : DFn P w K mg base 3 "_law_some" 2 sp__law_some) : DFn P w K mg base 4 "_law_clause" 1 sp__law_clause := by
  refine DFn.here (k := 3) T sc__law_clause (fun f cdv A outer s H E hX => (dss_cons (ds_set hX 1 (de_call hX c__law_some (da_cons (dv 0) (da_cons (de_lst (da_cons (de_tup (da_cons dint da_nil)) (da_cons (de_tup (da_cons dint da_nil)) (da_cons (de_tup (da_cons dint (da_cons dint da_nil))) (da_cons (de_tup (da_cons dint (da_cons dint da_nil))) (da_cons (de_tup (da_cons dint (da_cons dint (da_cons dint da_nil)))) (da_cons (de_tup (da_cons dint (da_cons dint (da_cons dint da_nil)))) (da_cons (de_tup (da_cons dint (da_cons dint da_nil))) da_nil)))))))) da_nil))))
      (dss_cons (ds_setLc hX 2 (own := [("first", 7)]) (blkOk_by (N := ["vat", "firsts", "prices", "truths", "start", "free", "steps", "first", "turn", "price"]) (sc := defScope s__law_clause) (by decide +kernel)) (di_seq (dv 1)) (fun _ _ _ _ _ hX => ⟨(dg_nm hX 7), dts_nil, (de_call hX c__law_some (da_cons (dv 0) (da_cons (de_lst (da_cons dint (da_cons dint (da_cons dint (da_cons dint (da_cons dint (da_cons dint (da_cons dint (da_cons dint da_nil))))))))) da_nil)))⟩) (sw_true rfl rfl rfl (by decide +kernel)))
      (dss_cons (ds_setLc hX 3 (own := [("turn", 8)]) (blkOk_by (N := ["vat", "firsts", "prices", "truths", "start", "free", "steps", "first", "turn", "price"]) (sc := defScope s__law_clause) (by decide +kernel)) (di_rng1 b_range (da_cons dint da_nil)) (fun _ _ _ _ _ hX => ⟨(dg_nm hX 8), dts_nil, (de_eq hX (de_call hX c__law_under (da_cons (dv 0) (da_cons dint da_nil))) dint)⟩) (sw_true rfl rfl rfl (by decide +kernel)))
      (dss_cons (ds_par hX 4 5 (da_cons (de_call hX c__law_some (da_cons (dv 0) (da_cons (de_lst (da_cons dstr (da_cons dstr da_nil))) da_nil))) (da_cons (de_call hX c__law_some (da_cons (dv 0) (da_cons (de_lst (da_cons dint (da_cons dint (da_cons dint (da_cons dint (da_cons dint da_nil)))))) da_nil))) da_nil)))
      (dss_cons (ds_set hX 6 (de_tuple b_tuple (da_cons (de_lc hX (own := [("first", 7), ("price", 9)]) (blkOk_by (N := ["vat", "firsts", "prices", "truths", "start", "free", "steps", "first", "turn", "price"]) (sc := defScope s__law_clause) (by decide +kernel)) (di_zipM b_zip (da_cons (dv 1) (da_cons (dv 2) da_nil))) (fun _ _ _ _ _ hX => ⟨(dg_tup hX (dgs_cons (dg_nm hX 7) (dgs_cons (dg_nm hX 9) dgs_nil))), dts_nil, (de_tup (da_cons (dv 7) (da_cons (dv 9) da_nil)))⟩)) da_nil)))
      (dss_one (ds_ret (de_tup (da_cons (dv 4) (da_cons (dv 5) (da_cons (de_tup (da_cons (de_ix (dv 3) dint) (da_cons (de_ix (dv 3) dint) da_nil))) (da_cons (de_tup (da_cons (de_ix (dv 3) dint) (da_cons (de_ix (dv 3) dint) da_nil))) (da_cons (dv 6) (da_cons (de_and (de_ix (dv 3) dint) (de_one (de_gt (de_len b_len (da_cons (dv 1) da_nil)) dint))) da_nil))))))))))))))) (fun ds M Q Ed hl hs => ?_)
  obtain ⟨p, rfl, hv, q⟩ := hs
  refine ⟨sl, sl, sl, sl, sl, sl, sl, sl, rfl, p, _, rfl, ⟨by decide, by decide⟩, hv, fun fs M1 hfs e1 => ?_⟩
  have hF : ∃ is : List Int, fs = .tup (is.map D.int) ∧ okF is := by
    simp only [List.mem_cons, List.not_mem_nil, or_false] at hfs
    rcases hfs with e | e | e | e | e | e | e
    · exact ⟨[1], e, by decide⟩
    · exact ⟨[1], e, by decide⟩
    · exact ⟨[1, 2], e, by decide⟩
    · exact ⟨[1, 3], e, by decide⟩
    · exact ⟨[1, 2, 4], e, by decide⟩
    · exact ⟨[1, 4, 6], e, by decide⟩
    · exact ⟨[1, 5], e, by decide⟩
  obtain ⟨is, rfl, hF⟩ := hF
  have hl := hF.1.2
  refine lc_each (fun M2 => VatEx M M2 p) (fun d => ∃ i, d = .int i ∧ 0 ≤ i ∧ i ≤ 5) (by rw [List.length_map]; exact Nat.le_trans hl (by decide)) e1 (fun i d M2 hd e2 Y hY => ?_) (fun ps M2 e2 hpl hps => ?_)
  · refine ⟨sl, rfl, p, _, rfl, ⟨by decide, by decide⟩, e2.1, fun y M3 hy e3 => hY y M3 ?_ (e2.trans e3)⟩
    simp only [List.mem_cons, List.not_mem_nil, or_false] at hy
    rcases hy with e | e | e | e | e | e | e | e <;> exact ⟨_, e, by decide, by decide⟩
  obtain ⟨ps, rfl, hps'⟩ := map_of_all hps
  rw [List.length_map, List.length_map] at hpl
  refine ⟨⟨by decide, by decide⟩, ?_⟩
  refine lc_each (fun M3 => VatEx M M3 p) (fun d => ∃ b, d = .bl b ∧ True) (by decide) e2 (fun i d M3 hd e3 Y hY => ?_) (fun bs M3 e3 hbl hbs => ?_)
  · exact ⟨rfl, p, 2, rfl, ⟨by decide, by decide⟩, e3.1, fun r M4 _ _ e4 => ⟨⟨fit_int _ _, fit_int _ _⟩, hY _ M4 ⟨_, rfl, trivial⟩ (e3.trans e4)⟩⟩
  obtain ⟨bs, rfl, _⟩ := map_of_all hbs
  rw [List.length_map] at hbl
  match bs, hbl with
  | [b0, b1, b2, b3, b4], _ =>
    refine ⟨sl, rfl, p, _, rfl, ⟨by decide, by decide⟩, e3.1, fun st M4 hst e4 => ?_⟩
    refine ⟨sl, rfl, p, _, rfl, ⟨by decide, by decide⟩, e4.1, fun fr M5 hfr e5 => ?_⟩
    have hst : ∃ l : Bool, st = .str (if l then "landing" else "release") := by
      simp only [List.mem_cons, List.not_mem_nil, or_false] at hst
      rcases hst with e | e
      · exact ⟨true, e⟩
      · exact ⟨false, e⟩
    have hfr : ∃ f : Int, fr = .int f ∧ 0 ≤ f ∧ f ≤ 6 := by
      simp only [List.mem_cons, List.not_mem_nil, or_false] at hfr
      rcases hfr with e | e | e | e | e <;> exact ⟨_, e, by decide, by decide⟩
    obtain ⟨l, rfl⟩ := hst
    obtain ⟨f, rfl, hf⟩ := hfr
    have zl : (zipD (is.map D.int) (ps.map D.int)).length ≤ sizeLine := by
      rw [zipD_len, List.length_map]
      exact Nat.le_trans (Nat.min_le_left _ _) (Nat.le_trans hl (by decide))
    refine lc_map (fun d => d) zl (fun i d hd Y hY => ?_) ?_
    · obtain ⟨x, y, _, _, rfl⟩ := zipD_get hd
      exact ⟨sl, hY⟩
    · rw [List.map_id', zipD_steps]
      have fin : ∀ wh : Bool, Q (Cl.d ⟨l, f, b0, b1, b2, b3, is.zip ps, wh⟩) M5 := fun wh => q _ M5 (okF_of hF hpl hps' _ rfl hf) (e3.trans (e4.trans e5))
      refine ⟨sl, sl, ?_⟩
      cases b4 with
      | true => exact ⟨sl, fin _⟩
      | false => exact ⟨sl, fin false⟩

abbrev s__law_names : Stmt := topS 44
theorem sc__law_names : FnScope ["e", "some", "labels", "word", "good"] ["e"] (defScope s__law_names) := ⟨rfl, rfl, rfl, by decide +kernel, rfl, by decide +kernel, by decide +kernel⟩
theorem ok__law_names (T : Here K mg "_law_names" ["e"] s__law_names) (er : Errs K mg ex as B) (b_isinstance : mg "isinstance" = none) (b_zip : mg "zip" = none) (b_ValueError : mg "ValueError" = none) : NmFn P w K mg base 2 as := by
  exact nm_here (k := 1) (wb := w_names) T sc__law_names er (fun i f cdv A outer s H E p hi C hz hk hv hX => (dss_cons (ds_setN hX.nd 1 (de_lst (da_cons (de_isP C hz hX 0 (er.at_ 0 _ rfl).1 (hk 0 (by decide)) b_isinstance) (da_cons (de_isP C hz hX 0 (er.at_ 1 _ rfl).1 (hk 1 (by decide)) b_isinstance) (da_cons (de_isP C hz hX 0 (er.at_ 2 _ rfl).1 (hk 2 (by decide)) b_isinstance) (da_cons (de_isP C hz hX 0 (er.at_ 3 _ rfl).1 (hk 3 (by decide)) b_isinstance) (da_cons (de_isP C hz hX 0 (er.at_ 4 _ rfl).1 (hk 4 (by decide)) b_isinstance) (da_cons (de_isP C hz hX 0 (er.at_ 5 _ rfl).1 (hk 5 (by decide)) b_isinstance) (da_cons (de_isP C hz hX 0 (er.at_ 6 _ rfl).1 (hk 6 (by decide)) b_isinstance) (da_cons (de_isP C hz hX 0 (er.at_ 7 _ rfl).1 (hk 7 (by decide)) b_isinstance) (da_cons (de_isP C hz hX 0 (er.at_ 8 _ rfl).1 (hk 8 (by decide)) b_isinstance) (da_cons (de_isP C hz hX 0 (er.at_ 9 _ rfl).1 (hk 9 (by decide)) b_isinstance) (da_cons (de_isP C hz hX 0 (er.at_ 10 _ rfl).1 (hk 10 (by decide)) b_isinstance) (da_cons (de_isP C hz hX 0 (er.at_ 11 _ rfl).1 (hk 11 (by decide)) b_isinstance) (da_cons (de_isP C hz hX 0 (er.at_ 12 _ rfl).1 (hk 12 (by decide)) b_isinstance) (da_cons (de_isPT C hz hX 0 b_ValueError hv b_isinstance) da_nil)))))))))))))))) (dss_cons (ds_setN hX.nd 2 dstr) (dss_one (ds_ret (de_join dstr (de_lcz hX (own := [("word", 3), ("good", 4)]) (blkOk_by (N := ["e", "some", "labels", "word", "good"]) (sc := defScope s__law_names) (by decide +kernel)) (di_zipZ b_zip (da_cons (de_split (dv 2) dstr) (da_cons (dv 1) da_nil))) (fun _ _ _ _ _ => ⟨fun hot => dg_tupH hot (dgs_cons (dg_nmN sc__law_names.nd 3) (dgs_cons (dg_nmN sc__law_names.nd 4) dgs_nil)), dts_one (dt_val (dv 4)), dv 3⟩)))))))) rd_names

abbrev s__law_error : Stmt := topS 45
theorem sc__law_error : FnScope ["call", "e"] ["call"] (defScope s__law_error) := ⟨rfl, rfl, rfl, by decide +kernel, rfl, by decide +kernel, by decide +kernel⟩
theorem ok__law_error (T : Here K mg "_law_error" ["call"] s__law_error) (er : Errs K mg ex as B) (nm : NmFn P w K mg base 2 as) {f : Addr} {sp : DSpec} (V : FnV P w K mg base 13 0 f sp) : DFn P w K mg base 14 "_law_error" 1 (G_error K ex f sp) :=
  DFn.here (k := 13) (wb := w_error K ex f sp) T sc__law_error (fun f cdv A outer s H E hX => (dss_cons (ds_tryW hX 1 er (suite_nm hX 1 nm) (fun pn xe E1 hX => dss_one (ds_expr (de_callV0 (K' := K) hX 0 (One.v V))))) (dss_one (ds_ret dstr)))) rd_error

abbrev s__law_told : Stmt := topS 46
theorem sc__law_told : FnScope ["call", "e"] ["call"] (defScope s__law_told) := ⟨rfl, rfl, rfl, by decide +kernel, rfl, by decide +kernel, by decide +kernel⟩
theorem ok__law_told (T : Here K mg "_law_told" ["call"] s__law_told) (er : Errs K mg ex as B) (nm : NmFn P w K mg base 2 as) {f : Addr} {sp : DSpec} (V : FnV P w K mg base 13 0 f sp) : DFn P w K mg base 14 "_law_told" 1 (G_told K ex f sp) :=
  DFn.here (k := 13) (wb := w_told K ex f sp) T sc__law_told (fun f cdv A outer s H E hX => (dss_one (ds_tryW hX 1 er (suite_nm2 hX 1 nm) (fun pn xe E1 hX => dss_one (ds_ret (de_tup (da_cons (de_callV0 (K' := K) hX 0 (One.v V)) (da_cons dstr da_nil)))))))) rd_told

abbrev s__law_all_refused : Stmt := topS 47
theorem sc__law_all_refused : FnScope ["call", "odds", "name", "odd"] ["call", "odds", "name"] (defScope s__law_all_refused) := ⟨rfl, rfl, rfl, by decide +kernel, rfl, by decide +kernel, by decide +kernel⟩
theorem ok__law_all_refused (T : Here K mg "_law_all_refused" ["call", "odds", "name"] s__law_all_refused) {cc__law_all_refused PP__law_all_refused : Addr} (cd : CodeAt K mg "_law_all_refused" cc__law_all_refused) (tb__law_all_refused : TabB base mg cc__law_all_refused PP__law_all_refused) (c__law_error : ∀ (base' : Heap) (f : Addr) (sp : DSpec), Up K mg base base' → FnV P w K mg base' 13 0 f sp → DFn P w K mg base' 14 "_law_error" 1 (G_error K ex f sp)) {f : Addr} {sp : DSpec} (V : FnV P w K mg base 12 1 f sp) : DFn P w K mg base 15 "_law_all_refused" 3 (G_all K ex PP__law_all_refused nmL f sp) :=
  DFn.hereC (k := 14) (wb := w_all K ex PP__law_all_refused nmL f sp) T cd sc__law_all_refused (fun f cdv A outer s H E hc hX => (dss_one (ds_ret (de_eq hX (de_lcn hX nfc_cx (own := [("odd", 3)]) (blkOk_by (N := ["call", "odds", "name", "odd"]) (sc := defScope s__law_all_refused) (by decide +kernel)) (di_seq (dv 1)) (fun _ _ _ _ _ hX nf => ⟨(dg_nm hX 3), (dts_one (dt_ne hX (de_callL (nm := nmL) (ps := []) (fr := ["call", "odd"]) (js := [0, 3]) (Nl := ["call", "odd"]) (kl := 12) hX nf tb__law_all_refused hc
        (fun _ _ _ _ _ _ _ _ _ _ u1 hX nf => (de_callV (K' := K) hX 0 (fun f s h => ((One.v V) f s h).up u1) (da_cons (dv 1) da_nil)))
        (fun base' f sp u' V => c__law_error base' f sp u' V) da_nil (nscope_by (by decide +kernel)) (hb := fun _ _ _ _ _ us hl => match us, hl with | [], _ => rfl)) (dv 2))), (dv 3)⟩)) (de_lst da_nil))))) rd_all

abbrev s__law_known : Stmt := topS 48
theorem sc__law_known : FnScope ["one", "two"] [] (defScope s__law_known) := ⟨rfl, rfl, rfl, by decide +kernel, rfl, by decide +kernel, by decide +kernel⟩
def cl1 : Cl := ⟨true, 2, true, true, false, false, [(1, 1)], false⟩
def cl2 : Cl := ⟨false, 2, false, false, true, true, [(1, 2), (3, 4)], false⟩
def cl3 : Cl := ⟨true, 0, true, true, false, false, [(1, 3), (3, 1)], true⟩
def sp__law_known : DSpec := fun ds M Q _ => Q (.tup [cl1.d, cl2.d, cl3.d]) M
theorem ok__law_known (T : Here K mg "_law_known" [] s__law_known) : DFn P w K mg base 2 "_law_known" 0 sp__law_known := by
  refine DFn.here (k := 1) T sc__law_known (fun f cdv A outer s H E hX => (dss_cons (ds_set hX 0 (de_tup (da_cons dstr (da_cons dint (da_cons (de_tup (da_cons dbl (da_cons dbl da_nil))) (da_cons (de_tup (da_cons dbl (da_cons dbl da_nil))) (da_cons (de_tup (da_cons (de_tup (da_cons dint (da_cons dint da_nil))) da_nil)) (da_cons dbl da_nil))))))))
      (dss_cons (ds_set hX 1 (de_tup (da_cons dstr (da_cons dint (da_cons (de_tup (da_cons dbl (da_cons dbl da_nil))) (da_cons (de_tup (da_cons dbl (da_cons dbl da_nil))) (da_cons (de_tup (da_cons (de_tup (da_cons dint (da_cons dint da_nil))) (da_cons (de_tup (da_cons dint (da_cons dint da_nil))) da_nil))) (da_cons dbl da_nil))))))))
      (dss_one (ds_ret (de_tup (da_cons (dv 0) (da_cons (dv 1) (da_cons (de_tup (da_cons dstr (da_cons dint (da_cons (de_tup (da_cons dbl (da_cons dbl da_nil))) (da_cons (de_tup (da_cons dbl (da_cons dbl da_nil))) (da_cons (de_tup (da_cons (de_tup (da_cons dint (da_cons dint da_nil))) (da_cons (de_tup (da_cons dint (da_cons dint da_nil))) da_nil))) (da_cons dbl da_nil))))))) da_nil))))))))) (fun ds M Q Ed hl hs => ?_)
  match ds, hl with
  | [], _ =>
    repeat (refine ⟨sl, ?_⟩)
    exact hs

abbrev s__law_bad_clauses : Stmt := topS 49
theorem sc__law_bad_clauses : FnScope ["a", "b", "c", "some", "odds", "odd"] [] (defScope s__law_bad_clauses) := ⟨rfl, rfl, rfl, by decide +kernel, rfl, by decide +kernel, by decide +kernel⟩
def aD (x2 x3 x4 x5 : D) : D := .tup [.str "landing", .int 2, x2, x3, x4, x5]
def tt2 : D := .tup [.bl true, .bl true]
def ff2 : D := .tup [.bl false, .bl false]
def s11 : D := .tup [.int 1, .int 1]
def badBase : List D := [.non, .tup [], .tup [.str "landing", .int 2, tt2, ff2, .tup [s11]], .lst [.str "landing", .int 2, tt2, ff2, .tup [s11], .bl false],
  .tup [.str "Landing", .int 2, tt2, ff2, .tup [s11], .bl false], .tup [.str "landing", .int 7, tt2, ff2, .tup [s11], .bl false], .tup [.str "landing", .bl true, tt2, ff2, .tup [s11], .bl false],
  aD (.tup [.bl true]) ff2 (.tup [s11]) (.bl false), aD tt2 (.tup [.int 0, .int 1]) (.tup [s11]) (.bl false), aD tt2 ff2 (.tup []) (.bl false), aD tt2 ff2 (.tup [s11]) (.int 0)]
def badOdds : List D := [.tup [.tup [.int 2, .int 1]], .tup [.tup [.int 1, .int 6]], .tup [s11, .tup [.int 1, .int 2]], .tup [s11, .tup [.int 7, .int 2]], .tup [.tup [.int 1, .int 1, .int 1]],
  .tup [s11, s11, s11, s11], .lst [s11], .tup [.tup [.int 1, .bl true]]]
def badClauses : List D := badBase ++ badOdds.map fun d => aD tt2 ff2 d (.bl false)
theorem badC_no : ∀ d ∈ badClauses, D.fit 63 d = true ∧ isClauseD d = false := all_no (by decide +kernel)
def sp__law_bad_clauses : DSpec := fun ds M Q _ => Q (.lst badClauses) M
theorem ok__law_bad_clauses (T : Here K mg "_law_bad_clauses" [] s__law_bad_clauses) (b_list : mg "list" = none) (c__law_known : DFn P w K mg base 2 "_law_known" 0 sp__law_known) : DFn P w K mg base 3 "_law_bad_clauses" 0 sp__law_bad_clauses := by
  refine DFn.here (k := 2) T sc__law_bad_clauses (fun f cdv A outer s H E hX => (dss_cons (ds_asg (de_call0 hX c__law_known) (dg_tup hX (dgs_cons (dg_nm hX 0) (dgs_cons (dg_nm hX 1) (dgs_cons (dg_nm hX 2) dgs_nil)))))
      (dss_cons (ds_set hX 3 (de_lst (da_cons dnon (da_cons (de_tup da_nil) (da_cons (de_cut (dv 0) do_none (do_some dint)) (da_cons (de_list b_list (da_cons (dv 0) da_nil)) (da_cons (de_add (de_tup (da_cons dstr da_nil)) (de_cut (dv 0) (do_some dint) do_none)) (da_cons (de_add (de_add (de_cut (dv 0) do_none (do_some dint)) (de_tup (da_cons dint da_nil))) (de_cut (dv 0) (do_some dint) do_none)) (da_cons (de_add (de_add (de_cut (dv 0) do_none (do_some dint)) (de_tup (da_cons dbl da_nil))) (de_cut (dv 0) (do_some dint) do_none)) da_nil)))))))))
      (dss_cons (ds_set hX 3 (de_catM (dv 3) (de_lst (da_cons (de_add (de_add (de_cut (dv 0) do_none (do_some dint)) (de_tup (da_cons (de_tup (da_cons dbl da_nil)) da_nil))) (de_cut (dv 0) (do_some dint) do_none)) (da_cons (de_add (de_add (de_cut (dv 0) do_none (do_some dint)) (de_tup (da_cons (de_tup (da_cons dint (da_cons dint da_nil))) da_nil))) (de_cut (dv 0) (do_some dint) do_none)) (da_cons (de_add (de_cut (dv 0) do_none (do_some dint)) (de_tup (da_cons (de_tup da_nil) (da_cons dbl da_nil)))) (da_cons (de_add (de_cut (dv 0) do_none (do_some dint)) (de_tup (da_cons dint da_nil))) da_nil)))))))
      (dss_cons (ds_set hX 4 (de_lst (da_cons (de_tup (da_cons (de_tup (da_cons dint (da_cons dint da_nil))) da_nil)) (da_cons (de_tup (da_cons (de_tup (da_cons dint (da_cons dint da_nil))) da_nil)) (da_cons (de_tup (da_cons (de_tup (da_cons dint (da_cons dint da_nil))) (da_cons (de_tup (da_cons dint (da_cons dint da_nil))) da_nil))) (da_cons (de_tup (da_cons (de_tup (da_cons dint (da_cons dint da_nil))) (da_cons (de_tup (da_cons dint (da_cons dint da_nil))) da_nil))) (da_cons (de_tup (da_cons (de_tup (da_cons dint (da_cons dint (da_cons dint da_nil)))) da_nil)) da_nil)))))))
      (dss_cons (ds_for hX (di_seq (de_add (dv 4) (de_lst (da_cons (de_mul (de_tup (da_cons (de_tup (da_cons dint (da_cons dint da_nil))) da_nil)) dint) (da_cons (de_lst (da_cons (de_tup (da_cons dint (da_cons dint da_nil))) da_nil)) (da_cons (de_tup (da_cons (de_tup (da_cons dint (da_cons dbl da_nil))) da_nil)) da_nil)))))) (dg_nm hX 5) (dss_one (ds_expr (de_append (dv 3) (de_add (de_cut (dv 0) do_none (do_some dint)) (de_tup (da_cons (dv 5) (da_cons dbl da_nil))))))))
      (dss_one (ds_ret (de_frz (dv 3)))))))))) (fun ds M Q Ed hl hs => ?_)
  match ds, hl with
  | [], _ =>
    refine ⟨rfl, ?_⟩
    repeat (refine ⟨sl, ?_⟩)
    refine fun p hp => ?_
    repeat (refine ⟨sl, ?_⟩)
    refine ⟨⟨by decide, by decide, by decide, by decide⟩, ?_⟩
    repeat (refine ⟨sl, ?_⟩)
    refine ⟨fun i δ' M' => (∃ x, δ' = ⟨[some cl1.d, some cl2.d, some cl3.d, some (.ref p), some (.lst (badOdds.take 5)), x], Ed⟩) ∧ M' = updM M p (.lst (badBase ++ (badOdds.take i).map fun d => aD tt2 ff2 d (.bl false))), ⟨⟨_, rfl⟩, rfl⟩, fun i d δ' M' hd ⟨⟨x, e1⟩, e2⟩ => ?_, fun δ' M' ⟨⟨x, e1⟩, e2⟩ => ?_⟩
    · subst e1; subst e2
      have hd : badOdds[i]? = some d := hd
      have hi := (List.getElem?_eq_some_iff.mp hd).1
      refine onO_i (a := badBase ++ (badOdds.take i).map fun d => aD tt2 ff2 d (.bl false)) (by rw [updM_same]; rfl) ⟨sl, sl, ?_⟩
      refine onO_i (a := badBase ++ (badOdds.take i).map fun d => aD tt2 ff2 d (.bl false)) (by rw [updM_same]; rfl) ⟨?_, ⟨⟨_, rfl⟩, ?_⟩⟩
      · rw [List.length_append, List.length_map, List.length_take]
        have : badBase.length = 11 := rfl
        have : sizeLine = 16777216 := rfl
        have : badOdds.length = 8 := rfl
        omega
      · rw [updM_updM, List.take_add_one, hd, List.append_assoc, List.map_append]
        rfl
    · subst e1; subst e2
      refine onO_i (a := badClauses) (by rw [updM_same]; rfl) ?_
      rw [delM_updM hp]
      exact hs

abbrev s__law_text : Stmt := topS 50
theorem sc__law_text : FnScope ["clause", "words", "first", "price", "one"] ["clause"] (defScope s__law_text) := ⟨rfl, rfl, rfl, by decide +kernel, rfl, by decide +kernel, by decide +kernel⟩
def headW (c : Cl) : List Str := ["from", startS c.land, "free", numS c.free, "ends", yn c.e0, yn c.e1, "stops", yn c.s0, yn c.s1, "steps"]
theorem stepsW_snoc : ∀ (st : List (Int × Int)) (p : Int × Int), stepsW (st ++ [p]) = stepsW st ++ [numS p.1, numS p.2]
  | [], _ => rfl
  | q :: r, p => by
    show numS q.1 :: numS q.2 :: stepsW (r ++ [p]) = _
    rw [stepsW_snoc r p]; rfl
theorem stepsW_len : ∀ st : List (Int × Int), (stepsW st).length = 2 * st.length
  | [] => rfl
  | p :: r => by
    show (stepsW r).length + 1 + 1 = 2 * (r.length + 1)
    rw [stepsW_len r]; omega
theorem yn_len (b : Bool) : (yn b).length ≤ 7 := by cases b <;> decide +kernel
theorem words_short {c : Cl} (hc : c.Ok) : ∀ w ∈ wordsC c, w.length ≤ 7 := by
  have lit : ∀ x ∈ ([("from" : Str), "free", "ends", "stops", "steps", "whole"] : List Str), x.length ≤ 7 := by decide +kernel
  have hst : ∀ st : List (Int × Int), (∀ p ∈ st, (1 ≤ p.1 ∧ p.1 ≤ 6) ∧ 0 ≤ p.2 ∧ p.2 ≤ 5) → ∀ x ∈ stepsW st, x.length ≤ 7 := fun st => by
    induction st with
    | nil => exact fun _ x hx => by cases hx
    | cons p r ih =>
      intro hp x hx
      have h1 := hp p (by simp)
      have hx : x ∈ numS p.1 :: numS p.2 :: stepsW r := hx
      rcases List.mem_cons.mp hx with rfl | hx
      · rw [numS_len _ (by omega) (by omega)]; decide
      · rcases List.mem_cons.mp hx with rfl | hx
        · rw [numS_len _ (by omega) (by omega)]; decide
        · exact ih (fun q hq => hp q (by simp [hq])) x hx
  intro w hx
  unfold wordsC at hx
  rcases List.mem_append.mp hx with hx | hx
  · unfold bodyW at hx
    simp only [List.mem_cons] at hx
    rcases hx with rfl | rfl | rfl | rfl | rfl | rfl | rfl | rfl | rfl | rfl | rfl | hx
    · exact lit _ (by simp)
    · rw [startS_len]; decide
    · exact lit _ (by simp)
    · rw [numS_len _ hc.free.1 (by have := hc.free.2; omega)]; decide
    · exact lit _ (by simp)
    · exact yn_len _
    · exact yn_len _
    · exact lit _ (by simp)
    · exact yn_len _
    · exact yn_len _
    · exact lit _ (by simp)
    · exact hst _ hc.step w hx
  · cases hw : c.whole with
    | false => rw [hw] at hx; cases hx
    | true => rw [hw] at hx; rw [List.mem_singleton.mp hx]; exact lit _ (by simp)
theorem sum_short : ∀ ws : List Str, (∀ w ∈ ws, w.length ≤ 7) → (ws.map (·.length)).sum ≤ 7 * ws.length
  | [], _ => Nat.le_refl _
  | w :: r, h => by
    have h1 := h w (by simp)
    have h2 := sum_short r fun x hx => h x (by simp [hx])
    show w.length + (r.map (·.length)).sum ≤ 7 * (r.length + 1)
    omega
def sp__law_text : DSpec := fun ds M Q _ => ∃ c : Cl, ds = [c.d] ∧ c.Ok ∧ Q (.str (textC c)) M
theorem ok__law_text (T : Here K mg "_law_text" ["clause"] s__law_text) (b_str : mg "str" = none) : DFn P w K mg base 2 "_law_text" 1 sp__law_text := by
  refine DFn.here (k := 1) T sc__law_text (fun f cdv A outer s H E hX => (dss_cons (ds_set hX 1 (de_add (de_lst (da_cons dstr (da_cons (de_ix (dv 0) dint) (da_cons dstr (da_cons (de_strI b_str (da_cons (de_ix (dv 0) dint) da_nil)) (da_cons dstr da_nil)))))) (de_lc hX (own := [("one", 4)]) (blkOk_by (N := ["clause", "words", "first", "price", "one"]) (sc := defScope s__law_text) (by decide +kernel)) (di_seq (de_ix (dv 0) dint)) (fun _ _ _ _ _ hX => ⟨(dg_nm hX 4), dts_nil, (de_if (dt_val (dv 4)) dstr dstr)⟩))))
      (dss_cons (ds_set hX 1 (de_add (de_add (de_add (dv 1) (de_lst (da_cons dstr da_nil))) (de_lc hX (own := [("one", 4)]) (blkOk_by (N := ["clause", "words", "first", "price", "one"]) (sc := defScope s__law_text) (by decide +kernel)) (di_seq (de_ix (dv 0) dint)) (fun _ _ _ _ _ hX => ⟨(dg_nm hX 4), dts_nil, (de_if (dt_val (dv 4)) dstr dstr)⟩))) (de_lst (da_cons dstr da_nil))))
      (dss_cons (ds_for hX (di_seq (de_ix (dv 0) dint)) (dg_tup hX (dgs_cons (dg_nm hX 2) (dgs_cons (dg_nm hX 3) dgs_nil))) (dss_one (ds_set hX 1 (de_add (dv 1) (de_lst (da_cons (de_strI b_str (da_cons (dv 2) da_nil)) (da_cons (de_strI b_str (da_cons (dv 3) da_nil)) da_nil)))))))
      (dss_one (ds_ret (de_join dstr (de_add (dv 1) (de_if (dt_val (de_ix (dv 0) dint)) (de_lst (da_cons dstr da_nil)) (de_lst da_nil)))))))))) (fun ds M Q Ed hl hs => ?_)
  obtain ⟨c, rfl, hc, q⟩ := hs
  have big : sizeLine = 16777216 := rfl
  have ed : c.d = .tup [.str (startS c.land), .int c.free, .tup [.bl c.e0, .bl c.e1], .tup [.bl c.s0, .bl c.s1], .tup (c.steps.map stepD), .bl c.whole] := by unfold Cl.d; cases c.land <;> rfl
  rw [ed]
  have lg := log2_small hc.free.1 (by have := hc.free.2; omega)
  refine ⟨lg, sl, ?_⟩
  refine lc_on (xs := [c.e0, c.e1]) (f := D.bl) (fun b => .str (yn b)) sl (fun x hx Y hY => by cases x <;> exact hY) ?_
  refine ⟨sl, sl, sl, ?_⟩
  refine lc_on (xs := [c.s0, c.s1]) (f := D.bl) (fun b => .str (yn b)) sl (fun x hx Y hY => by cases x <;> exact hY) ?_
  refine ⟨sl, sl, sl, ?_⟩
  have st3 := hc.len.2
  refine ⟨fun i δ' M' => (∃ x y, δ' = ⟨[some (.tup [.str (startS c.land), .int c.free, .tup [.bl c.e0, .bl c.e1], .tup [.bl c.s0, .bl c.s1], .tup (c.steps.map stepD), .bl c.whole]), some (.lst ((headW c ++ stepsW (c.steps.take i)).map D.str)), x, y, none], Ed⟩) ∧ M' = M, ⟨⟨none, none, rfl⟩, rfl⟩, fun i d δ' M' hd ⟨⟨x, y, e1⟩, e2⟩ => ?_, fun δ' M' ⟨⟨x, y, e1⟩, e2⟩ => ?_⟩
  · subst e1; subst e2
    rw [List.getElem?_map] at hd
    cases e : c.steps[i]? with
    | none => rw [e] at hd; cases hd
    | some p =>
      rw [e] at hd; cases hd
      have hp := hc.step p (List.mem_of_getElem? e)
      have es : (headW c ++ stepsW (c.steps.take (i + 1))).map D.str = (headW c ++ stepsW (c.steps.take i)).map D.str ++ [.str (numS p.1), .str (numS p.2)] := by
        rw [List.take_add_one, e, Option.toList_some, stepsW_snoc, ← List.append_assoc, List.map_append]; rfl
      refine ⟨log2_small (by omega) (by omega), log2_small (by omega) (by omega), sl, ?_, ⟨some (.int p.1), some (.int p.2), ?_⟩, rfl⟩
      · rw [List.length_map, List.length_append, stepsW_len, List.length_take]
        show 11 + 2 * min i c.steps.length + 2 ≤ _
        omega
      · rw [es]; rfl
  · subst e1; subst e2
    rw [List.length_map, List.take_length]
    have hb : headW c ++ stepsW c.steps = bodyW c := rfl
    rw [hb]
    have lb := bodyW_len c
    have fin : ∀ L : List D, L = (wordsC c).map D.str → onO (some L) fun ds => onO (strsD ds) fun ys => (ys.map (·.length)).sum + ys.length * (" " : Str).length ≤ 16777216 ∧ Q (.str (Txt.join " " ys)) M' := fun L e => by
      subst e
      refine onO_i rfl (onO_i (strsD_map _) ⟨?_, q⟩)
      have h1 := sum_short _ (words_short hc)
      have h2 : (wordsC c).length ≤ 18 := by
        unfold wordsC
        rw [List.length_append, lb]
        cases c.whole
        · show 11 + 2 * c.steps.length + 0 ≤ 18; omega
        · show 11 + 2 * c.steps.length + 1 ≤ 18; omega
      have h3 : (" " : Str).length = 1 := by decide +kernel
      rw [h3]
      omega
    refine onT_i (b := c.whole) (fun h => ?_) (fun h => ?_)
    · refine ⟨sl, ?_, ?_⟩
      · rw [List.length_map, lb]; show 11 + 2 * c.steps.length + 1 ≤ _; omega
      · exact fin _ (by unfold wordsC; rw [h, List.map_append]; rfl)
    · refine ⟨sl, ?_, ?_⟩
      · rw [List.length_map, lb]; show 11 + 2 * c.steps.length + 0 ≤ _; omega
      · exact fin _ (by unfold wordsC; rw [h, List.map_append]; rfl)

abbrev s__law_reading : Stmt := topS 51
theorem sc__law_reading : FnScope ["text", "words", "whole", "ends", "stops", "steps", "found", "word", "at"] ["text"] (defScope s__law_reading) := ⟨rfl, rfl, rfl, by decide +kernel, rfl, by decide +kernel, by decide +kernel⟩
def notDig (w : Str) : Bool := !((signsD "0123456789").any fun z => D.eqv z (.str w))
theorem num_dig : ∀ i : Int, 0 ≤ i → i ≤ 9 → notDig (numS i) = false := by
  have h : ∀ n : Nat, n ≤ 9 → notDig (numS (n : Int)) = false := fun n hn => by
    match n, hn with
    | 0, _ | 1, _ | 2, _ | 3, _ | 4, _ | 5, _ | 6, _ | 7, _ | 8, _ | 9, _ => decide +kernel
    | n + 10, h => exact absurd h (by omega)
  intro i h1 h2
  have := h i.toNat (by omega)
  rwa [show ((i.toNat : Nat) : Int) = i by omega] at this
theorem yn_bl {w : Str} (h : ¬ notYn w = true) : D.bl (w == ("yes" : Str)) = look w := by
  unfold notYn at h
  unfold look
  cases h1 : (w == ("yes" : Str)) with
  | true => rfl
  | false =>
    cases h2 : (w == ("no" : Str)) with
    | true => rfl
    | false => rw [h1, h2] at h; exact absurd rfl h
theorem dig_int {w : Str} (h : ¬ notDig w = true) : ∃ i : Int, PySem.intText? w = some i ∧ fig w = .int i ∧ w.length ≤ 640 := by
  unfold notDig at h
  rw [Bool.not_eq_true', Bool.not_eq_false, List.any_eq_true] at h
  obtain ⟨z, hz, e⟩ := h
  obtain ⟨c, hc, rfl⟩ := List.mem_map.mp hz
  rw [eqv_str] at e
  have e := eq_of_beq e
  subst e
  have hm := sign_mem c
  rw [decide_eq_true hc] at hm
  have hc := of_decide_eq_true hm.symm
  refine ⟨(c : Int) - 48, int_sign c hc, ?_, by show (1 : Nat) ≤ 640; decide⟩
  show (match decide (48 ≤ c ∧ c ≤ 57) with | true => D.int ((c : Int) - 48) | false => .non) = _
  rw [decide_eq_true hc]
theorem rgc11 {n : Nat} (h : n ≤ 1000000) (h2 : 13 ≤ n) : RgC 11 (n : Int) 2 ((n - 11 + 1) / 2) := by
  have e : Builtin.Range.rangeSize 11 (n : Int) 2 = (((n - 11 + 1) / 2 : Nat) : Int) := by
    unfold Builtin.Range.rangeSize
    rw [if_pos (by decide), if_pos (by omega)]
    omega
  refine ⟨by decide, by decide, ?_, e⟩
  have f : ∀ i : Int, -1 ≤ i → i ≤ 2000000 → Builtin.Range.rangeFitsLong i = true := fun i h1 h2 => by
    unfold Builtin.Range.rangeFitsLong
    rw [Bool.and_eq_true]
    exact ⟨decide_eq_true (by omega), decide_eq_true (by omega)⟩
  unfold Builtin.Range.small
  rw [e, f 11 (by decide) (by decide), f n (by omega) (by omega), f 2 (by decide) (by decide), f _ (by omega) (by omega)]
  show (_ || (if (2 : Int) > 0 then Builtin.Range.rangeFitsLong ((n : Int) + (2 - 1)) else _)) = true
  rw [if_pos (by decide), f _ (by omega) (by omega), Bool.or_true]
def sp__law_reading : DSpec := fun ds M Q _ => ∃ t : Str, ds = [.str t] ∧ PyData.strOk t = true ∧ t.length ≤ 100000 ∧ Q (readL t) M
theorem ok__law_reading (T : Here K mg "_law_reading" ["text"] s__law_reading) (b_int : mg "int" = none) (b_len : mg "len" = none) (b_list : mg "list" = none) (b_range : mg "range" = none) (b_tuple : mg "tuple" = none) (c__law_is_clause : DFn P w K mg base 4 "_law_is_clause" 1 sp__law_is_clause) : DFn P w K mg base 5 "_law_reading" 1 sp__law_reading := by
  refine DFn.here (k := 4) T sc__law_reading (fun f cdv A outer s H E hX => (dss_cons (ds_set hX 1 (de_split (dv 0) dstr))
      (dss_cons (ds_set hX 2 (de_eq hX (de_ix (dv 1) (de_neg dint)) dstr))
      (dss_cons (ds_set hX 1 (de_if (dt_val (dv 2)) (de_cut (dv 1) do_none (do_some (de_neg dint))) (dv 1)))
      (dss_cons (ds_if (DW.dt (dw_or (dt_lt (de_len b_len (da_cons (dv 1) da_nil)) dint) (dw_or1 (dt_eq hX (de_mod (de_len b_len (da_cons (dv 1) da_nil)) dint) dint)))) (dss_one (ds_ret dnon)) dss_nil)
      (dss_cons (ds_if (dt_ne hX (de_lst (da_cons (de_ix (dv 1) dint) (da_cons (de_ix (dv 1) dint) (da_cons (de_ix (dv 1) dint) (da_cons (de_ix (dv 1) dint) (da_cons (de_ix (dv 1) dint) da_nil)))))) (de_lst (da_cons dstr (da_cons dstr (da_cons dstr (da_cons dstr (da_cons dstr da_nil))))))) (dss_one (ds_ret dnon)) dss_nil)
      (dss_cons (ds_if (dt_ne hX (de_lc hX (own := [("word", 7)]) (blkOk_by (N := ["text", "words", "whole", "ends", "stops", "steps", "found", "word", "at"]) (sc := defScope s__law_reading) (by decide +kernel)) (di_seq (de_add (de_cut (dv 1) (do_some dint) (do_some dint)) (de_cut (dv 1) (do_some dint) (do_some dint)))) (fun _ _ _ _ _ hX => ⟨(dg_nm hX 7), (dts_one (dt_notInL hX (dv 7) (de_lst (da_cons dstr (da_cons dstr da_nil))))), (dv 7)⟩)) (de_lst da_nil)) (dss_one (ds_ret dnon)) dss_nil)
      (dss_cons (ds_if (dt_ne hX (de_lc hX (own := [("word", 7)]) (blkOk_by (N := ["text", "words", "whole", "ends", "stops", "steps", "found", "word", "at"]) (sc := defScope s__law_reading) (by decide +kernel)) (di_seq (de_add (de_lst (da_cons (de_ix (dv 1) dint) da_nil)) (de_cut (dv 1) (do_some dint) do_none))) (fun _ _ _ _ _ hX => ⟨(dg_nm hX 7), (dts_one (dt_notInL hX (dv 7) (de_listS hX b_list (da_cons dstr da_nil)))), (dv 7)⟩)) (de_lst da_nil)) (dss_one (ds_ret dnon)) dss_nil)
      (dss_cons (ds_par hX 3 4 (da_cons (de_tuple b_tuple (da_cons (de_lc hX (own := [("word", 7)]) (blkOk_by (N := ["text", "words", "whole", "ends", "stops", "steps", "found", "word", "at"]) (sc := defScope s__law_reading) (by decide +kernel)) (di_seq (de_cut (dv 1) (do_some dint) (do_some dint))) (fun _ _ _ _ _ hX => ⟨(dg_nm hX 7), dts_nil, (de_eq hX (dv 7) dstr)⟩)) da_nil)) (da_cons (de_tuple b_tuple (da_cons (de_lc hX (own := [("word", 7)]) (blkOk_by (N := ["text", "words", "whole", "ends", "stops", "steps", "found", "word", "at"]) (sc := defScope s__law_reading) (by decide +kernel)) (di_seq (de_cut (dv 1) (do_some dint) (do_some dint))) (fun _ _ _ _ _ hX => ⟨(dg_nm hX 7), dts_nil, (de_eq hX (dv 7) dstr)⟩)) da_nil)) da_nil)))
      (dss_cons (ds_set hX 5 (de_tuple b_tuple (da_cons (de_lc hX (own := [("at", 8)]) (blkOk_by (N := ["text", "words", "whole", "ends", "stops", "steps", "found", "word", "at"]) (sc := defScope s__law_reading) (by decide +kernel)) (di_rng3 b_range (da_cons dint (da_cons (de_len b_len (da_cons (dv 1) da_nil)) (da_cons dint da_nil)))) (fun _ _ _ _ _ hX => ⟨(dg_nm hX 8), dts_nil, (de_tup (da_cons (de_intS b_int (da_cons (de_ix (dv 1) (dv 8)) da_nil)) (da_cons (de_intS b_int (da_cons (de_ix (dv 1) (de_add (dv 8) dint)) da_nil)) da_nil)))⟩)) da_nil)))
      (dss_cons (ds_set hX 6 (de_tup (da_cons (de_ix (dv 1) dint) (da_cons (de_intS b_int (da_cons (de_ix (dv 1) dint) da_nil)) (da_cons (dv 3) (da_cons (dv 4) (da_cons (dv 5) (da_cons (dv 2) da_nil))))))))
      (dss_one (ds_ret (de_if (dt_val (de_call hX c__law_is_clause (da_cons (dv 6) da_nil))) (dv 6) dnon)))))))))))))) (fun ds M Q Ed hl hs => ?_)
  obtain ⟨t, rfl, ht, tl, q⟩ := hs
  have big : sizeLine = 16777216 := rfl
  obtain ⟨f1, f2⟩ := split_facts t ht
  have ne := split_ne t
  refine ⟨⟨by decide +kernel, by omega⟩, ?_⟩
  unfold readL at q
  generalize Txt.split t " " = W at f1 f2 ne q ⊢
  obtain ⟨ys, z, eW⟩ : ∃ ys z, W = ys ++ [z] := ⟨_, _, (List.dropLast_concat_getLast ne).symm⟩
  have hz := f2 z (by rw [eW]; simp)
  have hwz : wholeOf W = (z == ("whole" : Str)) := by unfold wholeOf; rw [eW, List.getLast?_append]; rfl
  have atl : atI (W.map D.str) (-1) = some (.str z) := by rw [eW, List.map_append]; exact atI_last _ _
  refine onO_i atl ⟨⟨hz.2, by decide +kernel⟩, ?_⟩
  rw [eqv_str]
  refine onT_i (b := z == ("whole" : Str)) (fun h => ?_) (fun h => ?_)
  · have hR : restOf W = ys := by unfold restOf; rw [hwz, h, eW]; exact List.dropLast_concat
    refine sl_cut (L := W.map D.str) (lo := none) (hi := some (-1)) (L' := ys.map D.str) (fun _ => rfl) (fun _ => rfl) (fun _ => rfl) (by rw [eW, List.map_append]; exact cut_lastD _) ?_
    have hwR : ∀ w ∈ ys, w.length ≤ t.length ∧ PyData.strOk w = true := fun w hw => f2 w (by rw [eW]; exact List.mem_append_left _ hw)
    have hlR : ys.length ≤ 100001 := by rw [eW, List.length_append] at f1; omega
    rw [hR] at q
    clear ne eW
    generalize ys = R at hR hwR hlR q ⊢
    have no : (condR R && isClauseD (clauseIn W)) = false → Q .non M := fun h => by rw [h] at q; exact q
    refine onT_i (b := decide (((R.map D.str).length : Int) < 13)) (fun h1 => ?_) (fun h1 => ?_)
    · have h1 := of_decide_eq_true h1
      rw [List.length_map] at h1
      exact no (by unfold condR; rw [decide_eq_false (show ¬ 13 ≤ R.length by omega)]; rfl)
    have h1 := of_decide_eq_false h1
    rw [List.length_map] at h1
    refine ⟨cmod, ⟨fit_int _ _, fit_int _ _⟩, ?_⟩
    rw [eqv_int]
    refine onT_i (fun h2 => ?_) (fun h2 => ?_)
    · have h2 := eq_of_beq h2
      rw [List.length_map] at h2
      exact no (by unfold condR; rw [show R.length % 2 = 0 by omega]; simp)
    have h2 : R.length % 2 = 1 := by
      have : ¬ ((((R.map D.str).length : Nat) : Int) % 2 = 0) := fun e => by rw [e] at h2; cases h2
      rw [List.length_map] at this
      omega
    have gi : ∀ i, i < R.length → (R.map D.str)[i]? = some (.str (R.getD i Str.empty)) := fun i hi => getD_str hi
    have oki : ∀ i, i < R.length → PyData.strOk (R.getD i Str.empty) = true := fun i hi => by
      rw [List.getD_eq_getElem?_getD, List.getElem?_eq_getElem hi]
      exact (hwR _ (List.getElem_mem _)).2
    refine onO_i (atI_nat (j := 0) (gi 0 (by omega))) ?_
    refine onO_i (atI_nat (j := 2) (gi 2 (by omega))) ?_
    refine onO_i (atI_nat (j := 4) (gi 4 (by omega))) ?_
    refine onO_i (atI_nat (j := 7) (gi 7 (by omega))) ?_
    refine onO_i (atI_nat (j := 10) (gi 10 (by omega))) ?_
    refine ⟨sl, sl, ⟨?_, by decide +kernel⟩, ?_⟩
    · show (PyData.strOk (R.getD 0 Str.empty) && (PyData.strOk (R.getD 2 Str.empty) && (PyData.strOk (R.getD 4 Str.empty) && (PyData.strOk (R.getD 7 Str.empty) && (PyData.strOk (R.getD 10 Str.empty) && true))))) = true
      rw [oki 0 (by omega), oki 2 (by omega), oki 4 (by omega), oki 7 (by omega), oki 10 (by omega)]; rfl
    have ek : D.eqv (.lst [.str (R.getD 0 Str.empty), .str (R.getD 2 Str.empty), .str (R.getD 4 Str.empty), .str (R.getD 7 Str.empty), .str (R.getD 10 Str.empty)]) (.lst [.str "from", .str "free", .str "ends", .str "stops", .str "steps"]) = ([R.getD 0 Str.empty, R.getD 2 Str.empty, R.getD 4 Str.empty, R.getD 7 Str.empty, R.getD 10 Str.empty] == ([("from" : Str), "free", "ends", "stops", "steps"] : List Str)) := by
      simp only [D.eqv, D.eqvAll]; rfl
    rw [ek]
    refine onT_i (b := !([R.getD 0 Str.empty, R.getD 2 Str.empty, R.getD 4 Str.empty, R.getD 7 Str.empty, R.getD 10 Str.empty] == ([("from" : Str), "free", "ends", "stops", "steps"] : List Str))) (fun h3 => ?_) (fun h3 => ?_)
    · have h3 := bt h3
      exact no (by unfold condR; rw [h3, Bool.and_false]; rfl)
    have h3 := bn h3
    have hC : condR R = true := by
      unfold condR
      rw [h3, decide_eq_true (show 13 ≤ R.length by omega), h2]; rfl
    rw [hC, Bool.true_and] at q
    have hRR : restOf W = R := hR
    have cw := fun h => clause_words (W := W) (by rw [hRR]; omega) h
    rw [hRR] at cw
    unfold wNext wSeq wIf wTest wOp wLc wSeqI
    dsimp only
    refine sl_cut (δ := ⟨[some (.str t), some (.lst (R.map D.str)), some (.bl (z == ("whole" : Str))), none, none, none, none, none, none], Ed⟩) (M := M) (wa := wVar 1) (wl := wPart (wC (.int 5))) (wh := wPart (wC (.int 7))) (L := R.map D.str) (lo := some ((5 : Nat) : Int)) (hi := some ((7 : Nat) : Int)) (L' := ((R.drop 5).take 2).map D.str) (fun _ => rfl) (fun _ => rfl) (fun _ => rfl) (by rw [cut_nat 5 7 (by decide), ← List.map_drop, ← List.map_take]) ?_
    refine sl_cut (δ := ⟨[some (.str t), some (.lst (R.map D.str)), some (.bl (z == ("whole" : Str))), none, none, none, none, none, none], Ed⟩) (M := M) (wa := wVar 1) (wl := wPart (wC (.int 8))) (wh := wPart (wC (.int 10))) (L := R.map D.str) (lo := some ((8 : Nat) : Int)) (hi := some ((10 : Nat) : Int)) (L' := ((R.drop 8).take 2).map D.str) (fun _ => rfl) (fun _ => rfl) (fun _ => rfl) (by rw [cut_nat 8 10 (by decide), ← List.map_drop, ← List.map_take]) ?_
    refine ⟨by rw [List.length_map, List.length_map, List.length_take, List.length_take]; omega, ?_⟩
    have hx1 : ∀ w ∈ (R.drop 5).take 2 ++ (R.drop 8).take 2, PyData.strOk w = true := fun w hw => by
      rcases List.mem_append.mp hw with hw | hw
      · exact (hwR w (List.mem_of_mem_drop (List.mem_of_mem_take hw))).2
      · exact (hwR w (List.mem_of_mem_drop (List.mem_of_mem_take hw))).2
    refine lc_filE (xs := (R.drop 5).take 2 ++ (R.drop 8).take 2) (f := D.str) (by rw [List.map_append]) notYn D.str (by rw [List.length_append, List.length_take, List.length_take]; omega) (fun w hw Y N hy hn => ?_) ?_
    · refine ⟨sl, ⟨hx1 w hw, by decide +kernel⟩, ?_⟩
      rw [yn_any, Bool.true_bne]
      exact onT_i hy hn
    refine ⟨sl, ⟨fit_lstMap (n := 63) fun w hw => hx1 w (List.mem_filter.mp hw).1, rfl⟩, ?_⟩
    rw [eqv_nil]
    refine onT_i (fun h5 => ?_) (fun h5 => ?_)
    · refine no ?_
      cases hI : isClauseD (clauseIn W) with
      | false => rw [Bool.and_false]
      | true =>
        have hc := (cw hI).1
        have : ((R.drop 5).take 2 ++ (R.drop 8).take 2).filter notYn = [] := List.filter_eq_nil_iff.mpr fun w hw => by
          rcases hc w hw with rfl | rfl <;> decide +kernel
        rw [this] at h5
        cases h5
    refine onO_i (atI_nat (j := 3) (gi 3 (by omega))) ⟨sl, ?_⟩
    refine sl_cut (δ := ⟨[some (.str t), some (.lst (R.map D.str)), some (.bl (z == ("whole" : Str))), none, none, none, none, none, none], Ed⟩) (M := M) (wa := wVar 1) (wl := wPart (wC (.int 11))) (wh := wNoPart) (L := R.map D.str) (lo := some ((11 : Nat) : Int)) (hi := none) (L' := (R.drop 11).map D.str) (fun _ => rfl) (fun _ => rfl) (fun _ => rfl) (by rw [cut_from, List.map_drop]) ?_
    refine ⟨by rw [List.length_map, List.length_drop]; show 1 + (R.length - 11) ≤ _; omega, ?_⟩
    have hx2 : ∀ w ∈ R.getD 3 Str.empty :: R.drop 11, PyData.strOk w = true := fun w hw => by
      rcases List.mem_cons.mp hw with rfl | hw
      · exact oki 3 (by omega)
      · exact (hwR w (List.mem_of_mem_drop hw)).2
    refine lc_filE (xs := R.getD 3 Str.empty :: R.drop 11) (f := D.str) rfl notDig D.str (by rw [List.length_cons, List.length_drop]; omega) (fun w hw Y N hy hn => ?_) ?_
    · refine ⟨sl, ⟨hx2 w hw, by decide +kernel⟩, ?_⟩
      show onT (true != (signsD "0123456789").any fun z => D.eqv z (.str w)) _ _
      rw [Bool.true_bne]
      exact onT_i hy hn
    refine ⟨sl, ⟨fit_lstMap (n := 63) fun w hw => hx2 w (List.mem_filter.mp hw).1, rfl⟩, ?_⟩
    rw [eqv_nil]
    refine onT_i (fun h6 => ?_) (fun h6 => ?_)
    · refine no ?_
      cases hI : isClauseD (clauseIn W) with
      | false => rw [Bool.and_false]
      | true =>
        have hc := (cw hI).2
        have : (R.getD 3 Str.empty :: R.drop 11).filter notDig = [] := List.filter_eq_nil_iff.mpr fun w hw => by
          obtain ⟨i, i0, i9, rfl⟩ := hc w hw
          rw [num_dig i i0 i9]; decide
        rw [this] at h6
        cases h6
    have y5 : ∀ w ∈ (R.drop 5).take 2 ++ (R.drop 8).take 2, D.bl (w == ("yes" : Str)) = look w := fun w hw => by
      have e : ((R.drop 5).take 2 ++ (R.drop 8).take 2).filter notYn = [] := by
        cases e : ((R.drop 5).take 2 ++ (R.drop 8).take 2).filter notYn with
        | nil => rfl
        | cons a b => rw [e] at h5; cases h5
      exact yn_bl (List.filter_eq_nil_iff.mp e w hw)
    have d6 : ∀ w ∈ R.getD 3 Str.empty :: R.drop 11, ∃ i : Int, PySem.intText? w = some i ∧ fig w = .int i ∧ w.length ≤ 640 := fun w hw => by
      have e : (R.getD 3 Str.empty :: R.drop 11).filter notDig = [] := by
        cases e : (R.getD 3 Str.empty :: R.drop 11).filter notDig with
        | nil => rfl
        | cons a b => rw [e] at h6; cases h6
      exact dig_int (List.filter_eq_nil_iff.mp e w hw)
    unfold wPar wCons wCB
    dsimp only
    refine sl_cut (δ := ⟨[some (.str t), some (.lst (R.map D.str)), some (.bl (z == ("whole" : Str))), none, none, none, none, none, none], Ed⟩) (M := M) (wa := wVar 1) (wl := wPart (wC (.int 5))) (wh := wPart (wC (.int 7))) (L := R.map D.str) (lo := some ((5 : Nat) : Int)) (hi := some ((7 : Nat) : Int)) (L' := ((R.drop 5).take 2).map D.str) (fun _ => rfl) (fun _ => rfl) (fun _ => rfl) (by rw [cut_nat 5 7 (by decide), ← List.map_drop, ← List.map_take]) ?_
    refine lc_onE (xs := (R.drop 5).take 2) (f := D.str) rfl look (by rw [List.length_take]; omega) (fun w hw Y hY => ?_) ?_
    · refine ⟨⟨hx1 w (List.mem_append_left _ hw), by decide +kernel⟩, ?_⟩
      rw [eqv_str, y5 w (List.mem_append_left _ hw)]
      exact hY
    unfold wNil wTupOf
    dsimp only
    refine sl_cut (δ := ⟨[some (.str t), some (.lst (R.map D.str)), some (.bl (z == ("whole" : Str))), none, none, none, none, none, none], Ed⟩) (M := M) (wa := wVar 1) (wl := wPart (wC (.int 8))) (wh := wPart (wC (.int 10))) (L := R.map D.str) (lo := some ((8 : Nat) : Int)) (hi := some ((10 : Nat) : Int)) (L' := ((R.drop 8).take 2).map D.str) (fun _ => rfl) (fun _ => rfl) (fun _ => rfl) (by rw [cut_nat 8 10 (by decide), ← List.map_drop, ← List.map_take]) ?_
    refine lc_onE (xs := (R.drop 8).take 2) (f := D.str) rfl look (by rw [List.length_take]; omega) (fun w hw Y hY => ?_) ?_
    · refine ⟨⟨hx1 w (List.mem_append_right _ hw), by decide +kernel⟩, ?_⟩
      rw [eqv_str, y5 w (List.mem_append_right _ hw)]
      exact hY
    have el : (R.map D.str).length = R.length := List.length_map _
    refine ⟨(R.length - 11 + 1) / 2, ?_, ?_⟩
    · rw [el]
      exact rgc11 (by omega) (by omega)
    have nn : (R.length - 11 + 1) / 2 = (R.length - 11) / 2 := by omega
    refine lc_onE (xs := List.range ((R.length - 11 + 1) / 2)) (f := fun i => .int (11 + (i : Nat) * 2)) rfl (fun i => .tup [fig (R.getD (11 + 2 * i) Str.empty), fig (R.getD (11 + 2 * i + 1) Str.empty)]) (by rw [List.length_range]; omega) (fun i hi Y hY => ?_) ?_
    · have hi := List.mem_range.mp hi
      have b1 : 11 + 2 * i + 1 < R.length := by omega
      have mem : ∀ j, 11 ≤ j → j < R.length → R.getD j Str.empty ∈ R.getD 3 Str.empty :: R.drop 11 := fun j h1 h2 => by
        refine List.mem_cons_of_mem _ ?_
        rw [List.getD_eq_getElem?_getD, List.getElem?_eq_getElem h2]
        exact List.mem_iff_getElem.mpr ⟨j - 11, by rw [List.length_drop]; omega, by simp only [List.getElem_drop, show 11 + (j - 11) = j by omega]; rfl⟩
      obtain ⟨m1, p1, p2, p3⟩ := d6 _ (mem (11 + 2 * i) (by omega) (by omega))
      obtain ⟨m2, q1, q2, q3⟩ := d6 _ (mem (11 + 2 * i + 1) (by omega) b1)
      rw [p2, q2] at hY
      rw [show (11 : Int) + (i : Nat) * 2 = ((11 + 2 * i : Nat) : Int) by omega]
      refine onO_i (atI_nat (j := 11 + 2 * i) (gi _ (by omega))) ?_
      refine onO_i p1 ⟨p3, ?_⟩
      have e1 : ((11 + 2 * i : Nat) : Int) + 1 = ((11 + 2 * i + 1 : Nat) : Int) := by omega
      refine onO_i (by rw [e1]; exact atI_nat (gi _ b1)) ?_
      exact onO_i q1 ⟨q3, sl, hY⟩
    have eP : (List.range ((R.length - 11 + 1) / 2)).map (fun i => D.tup [fig (R.getD (11 + 2 * i) Str.empty), fig (R.getD (11 + 2 * i + 1) Str.empty)]) = pairsF ((R.drop 11).map fig) := by
      rw [pairsF_eq ((R.length - 11 + 1) / 2) ((R.drop 11).map fig) (by rw [List.length_map, List.length_drop])]
      refine List.map_congr_left fun i hi => ?_
      have hi := List.mem_range.mp hi
      rw [← List.map_drop, ← List.map_take, List.drop_drop]
      have b1 : 11 + 2 * i < R.length := by omega
      have b2 : 11 + 2 * i + 1 < R.length := by omega
      rw [List.drop_eq_getElem_cons b1, List.drop_eq_getElem_cons b2, List.getD_eq_getElem?_getD, List.getElem?_eq_getElem b1, List.getD_eq_getElem?_getD, List.getElem?_eq_getElem b2]
      rfl
    rw [eP]
    obtain ⟨n3, p1, p2, p3⟩ := d6 _ List.mem_cons_self
    refine onO_i (atI_nat (j := 1) (gi 1 (by omega))) ?_
    refine onO_i (atI_nat (j := 3) (gi 3 (by omega))) ?_
    refine onO_i p1 ⟨p3, sl, ?_⟩
    have eC : clauseIn W = .tup [.str (R.getD 1 Str.empty), .int n3, .tup (((R.drop 5).take 2).map look), .tup (((R.drop 8).take 2).map look), .tup (pairsF ((R.drop 11).map fig)), .bl (z == ("whole" : Str))] := by
      unfold clauseIn
      rw [hRR, decide_eq_false (show ¬ R.length < 4 by omega), hwz]
      show D.tup [.str (R.getD 1 Str.empty), fig (R.getD 3 Str.empty), _, _, _, _] = _
      rw [p2]
    refine ⟨rfl, clauseIn W, by rw [eC], clauseIn_fit f2, onT_i (b := isClauseD (clauseIn W)) (fun hI => ?_) (fun hI => ?_)⟩
    · rw [hI] at q
      have q : Q (clauseIn W) M := q
      rw [eC] at q
      exact q
    · rw [hI] at q
      exact q
  · have hR : restOf W = W := by unfold restOf; rw [hwz, h]
    have hwR := f2
    have hlR : W.length ≤ 100001 := by omega
    rw [hR] at q
    obtain ⟨R, eR⟩ : ∃ R, R = W := ⟨_, rfl⟩
    rw [← eR] at hwR hlR ⊢
    have q : Q (match condR R && isClauseD (clauseIn W) with | true => clauseIn W | false => .non) M := by rw [eR]; exact q
    have no : (condR R && isClauseD (clauseIn W)) = false → Q .non M := fun h => by rw [h] at q; exact q
    refine onT_i (b := decide (((R.map D.str).length : Int) < 13)) (fun h1 => ?_) (fun h1 => ?_)
    · have h1 := of_decide_eq_true h1
      rw [List.length_map] at h1
      exact no (by unfold condR; rw [decide_eq_false (show ¬ 13 ≤ R.length by omega)]; rfl)
    have h1 := of_decide_eq_false h1
    rw [List.length_map] at h1
    refine ⟨cmod, ⟨fit_int _ _, fit_int _ _⟩, ?_⟩
    rw [eqv_int]
    refine onT_i (fun h2 => ?_) (fun h2 => ?_)
    · have h2 := eq_of_beq h2
      rw [List.length_map] at h2
      exact no (by unfold condR; rw [show R.length % 2 = 0 by omega]; simp)
    have h2 : R.length % 2 = 1 := by
      have : ¬ ((((R.map D.str).length : Nat) : Int) % 2 = 0) := fun e => by rw [e] at h2; cases h2
      rw [List.length_map] at this
      omega
    have gi : ∀ i, i < R.length → (R.map D.str)[i]? = some (.str (R.getD i Str.empty)) := fun i hi => getD_str hi
    have oki : ∀ i, i < R.length → PyData.strOk (R.getD i Str.empty) = true := fun i hi => by
      rw [List.getD_eq_getElem?_getD, List.getElem?_eq_getElem hi]
      exact (hwR _ (List.getElem_mem _)).2
    refine onO_i (atI_nat (j := 0) (gi 0 (by omega))) ?_
    refine onO_i (atI_nat (j := 2) (gi 2 (by omega))) ?_
    refine onO_i (atI_nat (j := 4) (gi 4 (by omega))) ?_
    refine onO_i (atI_nat (j := 7) (gi 7 (by omega))) ?_
    refine onO_i (atI_nat (j := 10) (gi 10 (by omega))) ?_
    refine ⟨sl, sl, ⟨?_, by decide +kernel⟩, ?_⟩
    · show (PyData.strOk (R.getD 0 Str.empty) && (PyData.strOk (R.getD 2 Str.empty) && (PyData.strOk (R.getD 4 Str.empty) && (PyData.strOk (R.getD 7 Str.empty) && (PyData.strOk (R.getD 10 Str.empty) && true))))) = true
      rw [oki 0 (by omega), oki 2 (by omega), oki 4 (by omega), oki 7 (by omega), oki 10 (by omega)]; rfl
    have ek : D.eqv (.lst [.str (R.getD 0 Str.empty), .str (R.getD 2 Str.empty), .str (R.getD 4 Str.empty), .str (R.getD 7 Str.empty), .str (R.getD 10 Str.empty)]) (.lst [.str "from", .str "free", .str "ends", .str "stops", .str "steps"]) = ([R.getD 0 Str.empty, R.getD 2 Str.empty, R.getD 4 Str.empty, R.getD 7 Str.empty, R.getD 10 Str.empty] == ([("from" : Str), "free", "ends", "stops", "steps"] : List Str)) := by
      simp only [D.eqv, D.eqvAll]; rfl
    rw [ek]
    refine onT_i (b := !([R.getD 0 Str.empty, R.getD 2 Str.empty, R.getD 4 Str.empty, R.getD 7 Str.empty, R.getD 10 Str.empty] == ([("from" : Str), "free", "ends", "stops", "steps"] : List Str))) (fun h3 => ?_) (fun h3 => ?_)
    · have h3 := bt h3
      exact no (by unfold condR; rw [h3, Bool.and_false]; rfl)
    have h3 := bn h3
    have hC : condR R = true := by
      unfold condR
      rw [h3, decide_eq_true (show 13 ≤ R.length by omega), h2]; rfl
    rw [hC, Bool.true_and] at q
    have hRR : restOf W = R := hR.trans eR.symm
    have cw := fun h => clause_words (W := W) (by rw [hRR]; omega) h
    rw [hRR] at cw
    unfold wNext wSeq wIf wTest wOp wLc wSeqI
    dsimp only
    refine sl_cut (δ := ⟨[some (.str t), some (.lst (R.map D.str)), some (.bl (z == ("whole" : Str))), none, none, none, none, none, none], Ed⟩) (M := M) (wa := wVar 1) (wl := wPart (wC (.int 5))) (wh := wPart (wC (.int 7))) (L := R.map D.str) (lo := some ((5 : Nat) : Int)) (hi := some ((7 : Nat) : Int)) (L' := ((R.drop 5).take 2).map D.str) (fun _ => rfl) (fun _ => rfl) (fun _ => rfl) (by rw [cut_nat 5 7 (by decide), ← List.map_drop, ← List.map_take]) ?_
    refine sl_cut (δ := ⟨[some (.str t), some (.lst (R.map D.str)), some (.bl (z == ("whole" : Str))), none, none, none, none, none, none], Ed⟩) (M := M) (wa := wVar 1) (wl := wPart (wC (.int 8))) (wh := wPart (wC (.int 10))) (L := R.map D.str) (lo := some ((8 : Nat) : Int)) (hi := some ((10 : Nat) : Int)) (L' := ((R.drop 8).take 2).map D.str) (fun _ => rfl) (fun _ => rfl) (fun _ => rfl) (by rw [cut_nat 8 10 (by decide), ← List.map_drop, ← List.map_take]) ?_
    refine ⟨by rw [List.length_map, List.length_map, List.length_take, List.length_take]; omega, ?_⟩
    have hx1 : ∀ w ∈ (R.drop 5).take 2 ++ (R.drop 8).take 2, PyData.strOk w = true := fun w hw => by
      rcases List.mem_append.mp hw with hw | hw
      · exact (hwR w (List.mem_of_mem_drop (List.mem_of_mem_take hw))).2
      · exact (hwR w (List.mem_of_mem_drop (List.mem_of_mem_take hw))).2
    refine lc_filE (xs := (R.drop 5).take 2 ++ (R.drop 8).take 2) (f := D.str) (by rw [List.map_append]) notYn D.str (by rw [List.length_append, List.length_take, List.length_take]; omega) (fun w hw Y N hy hn => ?_) ?_
    · refine ⟨sl, ⟨hx1 w hw, by decide +kernel⟩, ?_⟩
      rw [yn_any, Bool.true_bne]
      exact onT_i hy hn
    refine ⟨sl, ⟨fit_lstMap (n := 63) fun w hw => hx1 w (List.mem_filter.mp hw).1, rfl⟩, ?_⟩
    rw [eqv_nil]
    refine onT_i (fun h5 => ?_) (fun h5 => ?_)
    · refine no ?_
      cases hI : isClauseD (clauseIn W) with
      | false => rw [Bool.and_false]
      | true =>
        have hc := (cw hI).1
        have : ((R.drop 5).take 2 ++ (R.drop 8).take 2).filter notYn = [] := List.filter_eq_nil_iff.mpr fun w hw => by
          rcases hc w hw with rfl | rfl <;> decide +kernel
        rw [this] at h5
        cases h5
    refine onO_i (atI_nat (j := 3) (gi 3 (by omega))) ⟨sl, ?_⟩
    refine sl_cut (δ := ⟨[some (.str t), some (.lst (R.map D.str)), some (.bl (z == ("whole" : Str))), none, none, none, none, none, none], Ed⟩) (M := M) (wa := wVar 1) (wl := wPart (wC (.int 11))) (wh := wNoPart) (L := R.map D.str) (lo := some ((11 : Nat) : Int)) (hi := none) (L' := (R.drop 11).map D.str) (fun _ => rfl) (fun _ => rfl) (fun _ => rfl) (by rw [cut_from, List.map_drop]) ?_
    refine ⟨by rw [List.length_map, List.length_drop]; show 1 + (R.length - 11) ≤ _; omega, ?_⟩
    have hx2 : ∀ w ∈ R.getD 3 Str.empty :: R.drop 11, PyData.strOk w = true := fun w hw => by
      rcases List.mem_cons.mp hw with rfl | hw
      · exact oki 3 (by omega)
      · exact (hwR w (List.mem_of_mem_drop hw)).2
    refine lc_filE (xs := R.getD 3 Str.empty :: R.drop 11) (f := D.str) rfl notDig D.str (by rw [List.length_cons, List.length_drop]; omega) (fun w hw Y N hy hn => ?_) ?_
    · refine ⟨sl, ⟨hx2 w hw, by decide +kernel⟩, ?_⟩
      show onT (true != (signsD "0123456789").any fun z => D.eqv z (.str w)) _ _
      rw [Bool.true_bne]
      exact onT_i hy hn
    refine ⟨sl, ⟨fit_lstMap (n := 63) fun w hw => hx2 w (List.mem_filter.mp hw).1, rfl⟩, ?_⟩
    rw [eqv_nil]
    refine onT_i (fun h6 => ?_) (fun h6 => ?_)
    · refine no ?_
      cases hI : isClauseD (clauseIn W) with
      | false => rw [Bool.and_false]
      | true =>
        have hc := (cw hI).2
        have : (R.getD 3 Str.empty :: R.drop 11).filter notDig = [] := List.filter_eq_nil_iff.mpr fun w hw => by
          obtain ⟨i, i0, i9, rfl⟩ := hc w hw
          rw [num_dig i i0 i9]; decide
        rw [this] at h6
        cases h6
    have y5 : ∀ w ∈ (R.drop 5).take 2 ++ (R.drop 8).take 2, D.bl (w == ("yes" : Str)) = look w := fun w hw => by
      have e : ((R.drop 5).take 2 ++ (R.drop 8).take 2).filter notYn = [] := by
        cases e : ((R.drop 5).take 2 ++ (R.drop 8).take 2).filter notYn with
        | nil => rfl
        | cons a b => rw [e] at h5; cases h5
      exact yn_bl (List.filter_eq_nil_iff.mp e w hw)
    have d6 : ∀ w ∈ R.getD 3 Str.empty :: R.drop 11, ∃ i : Int, PySem.intText? w = some i ∧ fig w = .int i ∧ w.length ≤ 640 := fun w hw => by
      have e : (R.getD 3 Str.empty :: R.drop 11).filter notDig = [] := by
        cases e : (R.getD 3 Str.empty :: R.drop 11).filter notDig with
        | nil => rfl
        | cons a b => rw [e] at h6; cases h6
      exact dig_int (List.filter_eq_nil_iff.mp e w hw)
    unfold wPar wCons wCB
    dsimp only
    refine sl_cut (δ := ⟨[some (.str t), some (.lst (R.map D.str)), some (.bl (z == ("whole" : Str))), none, none, none, none, none, none], Ed⟩) (M := M) (wa := wVar 1) (wl := wPart (wC (.int 5))) (wh := wPart (wC (.int 7))) (L := R.map D.str) (lo := some ((5 : Nat) : Int)) (hi := some ((7 : Nat) : Int)) (L' := ((R.drop 5).take 2).map D.str) (fun _ => rfl) (fun _ => rfl) (fun _ => rfl) (by rw [cut_nat 5 7 (by decide), ← List.map_drop, ← List.map_take]) ?_
    refine lc_onE (xs := (R.drop 5).take 2) (f := D.str) rfl look (by rw [List.length_take]; omega) (fun w hw Y hY => ?_) ?_
    · refine ⟨⟨hx1 w (List.mem_append_left _ hw), by decide +kernel⟩, ?_⟩
      rw [eqv_str, y5 w (List.mem_append_left _ hw)]
      exact hY
    unfold wNil wTupOf
    dsimp only
    refine sl_cut (δ := ⟨[some (.str t), some (.lst (R.map D.str)), some (.bl (z == ("whole" : Str))), none, none, none, none, none, none], Ed⟩) (M := M) (wa := wVar 1) (wl := wPart (wC (.int 8))) (wh := wPart (wC (.int 10))) (L := R.map D.str) (lo := some ((8 : Nat) : Int)) (hi := some ((10 : Nat) : Int)) (L' := ((R.drop 8).take 2).map D.str) (fun _ => rfl) (fun _ => rfl) (fun _ => rfl) (by rw [cut_nat 8 10 (by decide), ← List.map_drop, ← List.map_take]) ?_
    refine lc_onE (xs := (R.drop 8).take 2) (f := D.str) rfl look (by rw [List.length_take]; omega) (fun w hw Y hY => ?_) ?_
    · refine ⟨⟨hx1 w (List.mem_append_right _ hw), by decide +kernel⟩, ?_⟩
      rw [eqv_str, y5 w (List.mem_append_right _ hw)]
      exact hY
    have el : (R.map D.str).length = R.length := List.length_map _
    refine ⟨(R.length - 11 + 1) / 2, ?_, ?_⟩
    · rw [el]
      exact rgc11 (by omega) (by omega)
    have nn : (R.length - 11 + 1) / 2 = (R.length - 11) / 2 := by omega
    refine lc_onE (xs := List.range ((R.length - 11 + 1) / 2)) (f := fun i => .int (11 + (i : Nat) * 2)) rfl (fun i => .tup [fig (R.getD (11 + 2 * i) Str.empty), fig (R.getD (11 + 2 * i + 1) Str.empty)]) (by rw [List.length_range]; omega) (fun i hi Y hY => ?_) ?_
    · have hi := List.mem_range.mp hi
      have b1 : 11 + 2 * i + 1 < R.length := by omega
      have mem : ∀ j, 11 ≤ j → j < R.length → R.getD j Str.empty ∈ R.getD 3 Str.empty :: R.drop 11 := fun j h1 h2 => by
        refine List.mem_cons_of_mem _ ?_
        rw [List.getD_eq_getElem?_getD, List.getElem?_eq_getElem h2]
        exact List.mem_iff_getElem.mpr ⟨j - 11, by rw [List.length_drop]; omega, by simp only [List.getElem_drop, show 11 + (j - 11) = j by omega]; rfl⟩
      obtain ⟨m1, p1, p2, p3⟩ := d6 _ (mem (11 + 2 * i) (by omega) (by omega))
      obtain ⟨m2, q1, q2, q3⟩ := d6 _ (mem (11 + 2 * i + 1) (by omega) b1)
      rw [p2, q2] at hY
      rw [show (11 : Int) + (i : Nat) * 2 = ((11 + 2 * i : Nat) : Int) by omega]
      refine onO_i (atI_nat (j := 11 + 2 * i) (gi _ (by omega))) ?_
      refine onO_i p1 ⟨p3, ?_⟩
      have e1 : ((11 + 2 * i : Nat) : Int) + 1 = ((11 + 2 * i + 1 : Nat) : Int) := by omega
      refine onO_i (by rw [e1]; exact atI_nat (gi _ b1)) ?_
      exact onO_i q1 ⟨q3, sl, hY⟩
    have eP : (List.range ((R.length - 11 + 1) / 2)).map (fun i => D.tup [fig (R.getD (11 + 2 * i) Str.empty), fig (R.getD (11 + 2 * i + 1) Str.empty)]) = pairsF ((R.drop 11).map fig) := by
      rw [pairsF_eq ((R.length - 11 + 1) / 2) ((R.drop 11).map fig) (by rw [List.length_map, List.length_drop])]
      refine List.map_congr_left fun i hi => ?_
      have hi := List.mem_range.mp hi
      rw [← List.map_drop, ← List.map_take, List.drop_drop]
      have b1 : 11 + 2 * i < R.length := by omega
      have b2 : 11 + 2 * i + 1 < R.length := by omega
      rw [List.drop_eq_getElem_cons b1, List.drop_eq_getElem_cons b2, List.getD_eq_getElem?_getD, List.getElem?_eq_getElem b1, List.getD_eq_getElem?_getD, List.getElem?_eq_getElem b2]
      rfl
    rw [eP]
    obtain ⟨n3, p1, p2, p3⟩ := d6 _ List.mem_cons_self
    refine onO_i (atI_nat (j := 1) (gi 1 (by omega))) ?_
    refine onO_i (atI_nat (j := 3) (gi 3 (by omega))) ?_
    refine onO_i p1 ⟨p3, sl, ?_⟩
    have eC : clauseIn W = .tup [.str (R.getD 1 Str.empty), .int n3, .tup (((R.drop 5).take 2).map look), .tup (((R.drop 8).take 2).map look), .tup (pairsF ((R.drop 11).map fig)), .bl (z == ("whole" : Str))] := by
      unfold clauseIn
      rw [hRR, decide_eq_false (show ¬ R.length < 4 by omega), hwz]
      show D.tup [.str (R.getD 1 Str.empty), fig (R.getD 3 Str.empty), _, _, _, _] = _
      rw [p2]
    refine ⟨rfl, clauseIn W, by rw [eC], clauseIn_fit f2, onT_i (b := isClauseD (clauseIn W)) (fun hI => ?_) (fun hI => ?_)⟩
    · rw [hI] at q
      have q : Q (clauseIn W) M := q
      rw [eC] at q
      exact q
    · rw [hI] at q
      exact q

abbrev s__law_written : Stmt := topS 52
theorem sc__law_written : FnScope ["a", "b", "c", "plain", "odds", "odd"] [] (defScope s__law_written) := ⟨rfl, rfl, rfl, by decide +kernel, rfl, by decide +kernel, by decide +kernel⟩
def plainS : Str := "from landing free 2 ends yes yes stops no no steps 1 1"
def oddsW : List Str := [Txt.replace plainS "2" "7", Txt.replace plainS "yes yes" "yes", cutS plainS none (some (-4)), cutS plainS none (some (-2)), Txt.replace plainS "2" "02"] ++ [Txt.replace plainS "landing" "Landing", Txt.replace plainS "yes yes" "Yes yes", ("form" : Str) ++ cutS plainS (some 4) none]
def oddW (t : Str) : Bool := PyData.strOk t && decide (t.length ≤ 100) && (match readL t with | .non => true | _ => false)
theorem odds_all : oddsW.all oddW = true := by decide +kernel
theorem odds_no : ∀ t ∈ oddsW, D.fit 64 (.str t) = true ∧ (∀ t', D.str t = .str t' → t'.length ≤ 100000) ∧ ∀ c : Cl, c.Ok → D.str t ≠ .str (textC c) := fun t ht => by
  have := List.all_eq_true.mp odds_all t ht
  unfold oddW at this
  rw [Bool.and_eq_true, Bool.and_eq_true] at this
  refine ⟨this.1.1, fun t' e => by cases e; exact Nat.le_trans (of_decide_eq_true this.1.2) (by decide), fun c hc e => ?_⟩
  have h := this.2
  rw [D.str.inj e, readL_yes hc] at h
  cases h
def sp__law_written (ex : Str → Value) (Ps : List Addr) : DSpec := fun ds M Q _ => TM Ps nmL M ∧ Q (.bl true) M
theorem ok__law_written (T : Here K mg "_law_written" [] s__law_written) {cc__law_written PP__law_written : Addr} (cd : CodeAt K mg "_law_written" cc__law_written) (tb__law_written : TabB base mg cc__law_written PP__law_written) (pm : PP__law_written ∈ Ps) (c__law_error : ∀ (base' : Heap) (f : Addr) (sp : DSpec), Up K mg base base' → FnV P w K mg base' 13 0 f sp → DFn P w K mg base' 14 "_law_error" 1 (G_error K ex f sp)) (c_clause_text : DFn P w K mg base 7 "clause_text" 1 (sp_clause_text ex)) (c_read_clause : DFn P w K mg base 6 "read_clause" 1 (sp_read_clause ex)) (c__law_known : DFn P w K mg base 2 "_law_known" 0 sp__law_known) : DFn P w K mg base 15 "_law_written" 0 (sp__law_written ex Ps) := by
  refine DFn.hereC (k := 14) T cd sc__law_written (fun f cdv A outer s H E hc hX => (dss_cons (ds_asg (de_call0 hX c__law_known) (dg_tup hX (dgs_cons (dg_nm hX 0) (dgs_cons (dg_nm hX 1) (dgs_cons (dg_nm hX 2) dgs_nil)))))
      (dss_strk hX 3 (dssk_cons (dsk_of (ds_if (DW.dt (dw_or (dt_ne hX (de_call hX c_clause_text (da_cons (dv 0) da_nil)) (dv 3)) (dw_or1 (dt_ne hX (de_call hX c_read_clause (da_cons (de_call hX c_clause_text (da_cons (dv 1) da_nil)) da_nil)) (dv 1))))) (dss_one (ds_ret dbl)) dss_nil))
      (dssk_cons (dsk_of (ds_if (dt_ne hX (de_call hX c_clause_text (da_cons (dv 2) da_nil)) dstr) (dss_one (ds_ret dbl)) dss_nil))
      (dssk_cons (dsk_set hX 4 (dek_lst (dak_cons (dek_repl (dv 3)) (dak_cons (dek_repl (dv 3)) (dak_cons (dek_of (de_cutS (dv 3) do_none (do_some (de_neg dint)))) (dak_cons (dek_of (de_cutS (dv 3) do_none (do_some (de_neg dint)))) (dak_cons (dek_repl (dv 3)) dak_nil)))))))
      (dssk_cons (dsk_set hX 4 (dek_add (dek_of (dv 4)) (dek_lst (dak_cons (dek_repl (dv 3)) (dak_cons (dek_repl (dv 3)) (dak_cons (dek_of (de_add dstr (de_cutS (dv 3) (do_some dint) do_none))) dak_nil))))))
      (dssk_one (dsk_of (ds_ret (de_eq hX (de_lcn hX nfc_cx (own := [("odd", 5)]) (blkOk_by (N := ["a", "b", "c", "plain", "odds", "odd"]) (sc := defScope s__law_written) (by decide +kernel)) (di_seq (dv 4)) (fun _ _ _ _ _ hX nf => ⟨(dg_nm hX 5), (dts_one (dt_ne hX (de_callL (nm := nmL) (ps := []) (fr := ["odd"]) (js := [5]) (Nl := ["odd"]) (kl := 12) hX nf tb__law_written hc
        (fun _ _ _ _ _ _ _ _ _ _ u1 hX nf => (de_call hX (c_read_clause.up u1) (da_cons (dv 0) da_nil)))
        (fun base' f sp u' V => c__law_error base' f sp u' V) da_nil (nscope_by (by decide +kernel)) (hb := fun _ _ _ _ _ us hl => match us, hl with | [], _ => rfl)) dstr)), (dv 5)⟩)) (de_lst da_nil)))))))))))) (fun ds M Q Ed hl hs => ?_)
  match ds, hl with
  | [], _ =>
    obtain ⟨tm, q⟩ := hs
    have hP := tm _ pm
    have ok1 : Cl.Ok cl1 := by decide
    have ok2 : Cl.Ok cl2 := by decide
    have ok3 : Cl.Ok cl3 := by decide
    refine ⟨rfl, rfl, .inl ⟨cl1, rfl, ok1, ⟨by decide +kernel, by decide +kernel⟩, onT_i (fun h => absurd h (by decide +kernel)) (fun _ => ?_)⟩⟩
    refine ⟨rfl, .inl ⟨cl2, rfl, ok2, rfl, .str (textC cl2), rfl, by decide +kernel, fun t e => by cases e; decide +kernel, .inl ⟨cl2, ok2, rfl, ⟨by decide +kernel, by decide +kernel⟩, onT_i (fun h => absurd h (by decide +kernel)) (fun _ => ?_)⟩⟩⟩
    refine ⟨rfl, .inl ⟨cl3, rfl, ok3, ⟨by decide +kernel, by decide +kernel⟩, onT_i (fun h => absurd h (by decide +kernel)) (fun _ => ?_)⟩⟩
    refine ⟨by decide +kernel, by decide +kernel, by decide +kernel, by decide +kernel, by decide +kernel, sl, ?_⟩
    refine ⟨by decide +kernel, by decide +kernel, by decide +kernel, by decide +kernel, sl, sl, ?_⟩
    refine ⟨sl, fun _ acc M' => acc = [] ∧ M' = M, ⟨rfl, rfl⟩, fun i d acc M' hd ⟨ha, hM⟩ => ?_, fun acc M' _ ⟨ha, hM⟩ => ?_⟩
    · subst ha; subst hM
      have hd : (oddsW.map D.str)[i]? = some d := hd
      rw [List.getElem?_map] at hd
      cases ht : oddsW[i]? with
      | none => rw [ht] at hd; cases hd
      | some t =>
        rw [ht] at hd; cases hd
        obtain ⟨h1, h2, h3⟩ := odds_no t (List.mem_of_getElem? ht)
        refine ⟨hP, fun g κ hg => ⟨updM_same, rfl, rfl, .inr ⟨κ, _, updM_same⟩, updM_same, rfl, .str t, rfl, h1, h2, .inr ⟨h3, 8, "InvalidText", by decide, rfl, rfl, ?_⟩⟩⟩
        refine fun M3 e3 => ?_
        cases e3.trans (delM_updM hg)
        exact ⟨⟨by decide +kernel, by decide +kernel⟩, rfl, rfl⟩
    · subst ha; subst hM
      exact ⟨sl, ⟨by decide +kernel, by decide +kernel⟩, q⟩

abbrev s_law : Stmt := topS 53
theorem sc_law : FnScope ["script", "k", "vat", "one", "text", "turn", "at", "words", "sign", "spot", "some", "bent", "due", "odd"] ["script"] (defScope s_law) := ⟨rfl, rfl, rfl, by decide +kernel, rfl, by decide +kernel, by decide +kernel⟩
def litsB : List Str := ["from", "free", "ends", "stops", "steps", "landing", "release", "yes", "no"]
theorem num_all {Q : Str → Prop} (h : ∀ n ∈ List.range 10, Q (numS ((n : Nat) : Int))) : ∀ i : Int, 0 ≤ i → i ≤ 9 → Q (numS i) := fun i h0 h9 => by
  have := h i.toNat (List.mem_range.mpr (by omega))
  rwa [show ((i.toNat : Nat) : Int) = i by omega] at this
theorem body_all {c : Cl} (hc : c.Ok) {Q : Str → Prop} (lit : ∀ x ∈ litsB, Q x) (num : ∀ n ∈ List.range 10, Q (numS ((n : Nat) : Int))) : ∀ w ∈ bodyW c, Q w := by
  have num := num_all num
  have hs : ∀ b, Q (startS b) := fun b => by cases b <;> exact lit _ (by simp [litsB, startS])
  have hy : ∀ b, Q (yn b) := fun b => by cases b <;> exact lit _ (by simp [litsB, yn])
  have hst : ∀ st : List (Int × Int), (∀ p ∈ st, (1 ≤ p.1 ∧ p.1 ≤ 6) ∧ 0 ≤ p.2 ∧ p.2 ≤ 5) → ∀ x ∈ stepsW st, Q x := fun st => by
    induction st with
    | nil => exact fun _ x hx => by cases hx
    | cons p r ih =>
      intro hp x hx
      have h1 := hp p (by simp)
      have hx : x ∈ numS p.1 :: numS p.2 :: stepsW r := hx
      rcases List.mem_cons.mp hx with rfl | hx
      · exact num _ (by omega) (by omega)
      · rcases List.mem_cons.mp hx with rfl | hx
        · exact num _ (by omega) (by omega)
        · exact ih (fun q hq => hp q (by simp [hq])) x hx
  intro w hx
  unfold bodyW at hx
  simp only [List.mem_cons] at hx
  rcases hx with rfl | rfl | rfl | rfl | rfl | rfl | rfl | rfl | rfl | rfl | rfl | hx
  · exact lit _ (by simp [litsB])
  · exact hs _
  · exact lit _ (by simp [litsB])
  · exact num _ hc.free.1 (by have := hc.free.2; omega)
  · exact lit _ (by simp [litsB])
  · exact hy _
  · exact hy _
  · exact lit _ (by simp [litsB])
  · exact hy _
  · exact hy _
  · exact lit _ (by simp [litsB])
  · exact hst _ hc.step w hx
theorem words_all {c : Cl} (hc : c.Ok) {Q : Str → Prop} (lit : ∀ x ∈ litsB, Q x) (wh : Q "whole") (num : ∀ n ∈ List.range 10, Q (numS ((n : Nat) : Int))) : ∀ w ∈ wordsC c, Q w := by
  intro w hx
  unfold wordsC at hx
  rcases List.mem_append.mp hx with hx | hx
  · exact body_all hc lit num w hx
  · cases hw : c.whole with
    | false => rw [hw] at hx; cases hx
    | true => rw [hw] at hx; rw [List.mem_singleton.mp hx]; exact wh
theorem words_fine {c : Cl} (hc : c.Ok) : ∀ w ∈ wordsC c, (PyData.strOk w = true ∧ w.length ≤ 7) ∧ (32 ∉ TL.tl w ∧ 10 ∉ TL.tl w) ∧ w ≠ "" :=
  words_all hc (by decide +kernel) (by decide +kernel) (by decide +kernel)
theorem words_ne (c : Cl) : wordsC c ≠ [] := by simp [wordsC, bodyW]
theorem tl_text (c : Cl) : TL.tl (textC c) = TL.joinL [32] ((wordsC c).map TL.tl) := by
  unfold textC
  rw [TL.join_eq, TL.tl_join]
  have e32 : TL.tl (" " : Str) = [32] := by decide +kernel
  rw [e32]
theorem no_text {W : List Str} {x : Str} (hx : TL.tl x = TL.joinL [32] (W.map TL.tl)) (hne : W ≠ []) (h32 : ∀ w ∈ W, 32 ∉ TL.tl w) (no : ∀ c, c.Ok → wordsC c ≠ W) : ∀ c, c.Ok → x ≠ textC c := fun c hc e => by
  refine no c hc ?_
  rw [← split_text hc, ← e]
  have : x = Txt.join " " W := TL.ext_tl (by
    rw [TL.join_eq, TL.tl_join]
    have e32 : TL.tl (" " : Str) = [32] := by decide +kernel
    rw [e32, hx])
  rw [this]
  exact TL.split_join (s := 32) (S := []) (by decide +kernel) (by decide +kernel) hne h32
theorem no_nl (c : Cl) : ∀ c', c'.Ok → textC c ++ "\n" ≠ textC c' := fun c' hc' e => by
  have h : 10 ∈ TL.tl (textC c') := by
    rw [← e, TL.tl_append]
    exact List.mem_append_right _ (by decide +kernel)
  rw [tl_text] at h
  rcases joinL_mem _ _ h with h | ⟨p, hp, h⟩
  · cases h
  · obtain ⟨w, hw, rfl⟩ := List.mem_map.mp hp
    exact (words_fine hc' w hw).2.1.2 h
theorem no_sp {c : Cl} (hc : c.Ok) : ∀ c', c'.Ok → textC c ++ " " ≠ textC c' := no_text (W := wordsC c ++ [("" : Str)])
  (by rw [TL.tl_append, tl_text, List.map_append]; exact (join_end _ _ (by simp [words_ne])).symm) (by simp)
  (fun w hw => by
    rcases List.mem_append.mp hw with h | h
    · exact (words_fine hc w h).2.1.1
    · rw [List.mem_singleton.mp h]; decide +kernel)
  fun c' hc' e => (words_fine hc' "" (by rw [e]; simp)).2.2 rfl
theorem no_fr {c : Cl} (hc : c.Ok) : ∀ c', c'.Ok → " " ++ textC c ≠ textC c' := no_text (W := ("" : Str) :: wordsC c)
  (by
    rw [TL.tl_append, tl_text]
    cases h : wordsC c with
    | nil => exact absurd h (words_ne c)
    | cons w r => rfl) (by simp)
  (fun w hw => by
    rcases List.mem_cons.mp hw with h | h
    · rw [h]; decide +kernel
    · exact (words_fine hc w h).2.1.1)
  fun c' hc' e => (words_fine hc' "" (by rw [e]; simp)).2.2 rfl
theorem no_ww {c : Cl} (hc : c.Ok) : ∀ c', c'.Ok → textC c ++ " whole whole" ≠ textC c' := no_text (W := wordsC c ++ [("whole" : Str)] ++ [("whole" : Str)])
  (by
    rw [TL.tl_append, tl_text, List.map_append, List.map_append]
    have e : TL.tl (" whole whole" : Str) = (32 :: TL.tl ("whole" : Str)) ++ (32 :: TL.tl ("whole" : Str)) := by decide +kernel
    rw [e]
    show _ = TL.joinL [32] ((wordsC c).map TL.tl ++ [TL.tl "whole"] ++ [TL.tl "whole"])
    rw [join_end _ _ (by simp), join_end _ _ (by simp [words_ne]), List.append_assoc]) (by simp)
  (fun w hw => by
    rcases List.mem_append.mp hw with h | h
    · rcases List.mem_append.mp h with h | h
      · exact (words_fine hc w h).2.1.1
      · rw [List.mem_singleton.mp h]; decide +kernel
    · rw [List.mem_singleton.mp h]; decide +kernel)
  fun c' hc' e => by
    have h := (restOf_words hc').1
    rw [e] at h
    have hw : wholeOf (wordsC c ++ [("whole" : Str)] ++ [("whole" : Str)]) = true := by unfold wholeOf; rw [List.getLast?_append]; rfl
    unfold restOf at h
    rw [hw] at h
    have h : (wordsC c ++ [("whole" : Str)] ++ [("whole" : Str)]).dropLast = bodyW c' := h
    rw [List.dropLast_concat] at h
    have hm : ("whole" : Str) ∈ bodyW c' := by rw [← h]; simp
    exact body_all hc' (Q := fun w => w ≠ "whole") (by decide +kernel) (by decide +kernel) _ hm rfl
/-- a text of true signs, at most n long -/
def Tx (n : Nat) (t : Str) : Prop := PyData.strOk t = true ∧ t.length ≤ n
theorem Tx.app {n m : Nat} {x y : Str} (h : Tx n x) (g : Tx m y) : Tx (n + m) (x ++ y) :=
  ⟨(strOk_iff _).mpr fun c hc => by
    rw [TL.tl_append] at hc
    rcases List.mem_append.mp hc with hc | hc
    · exact (strOk_iff x).mp h.1 c hc
    · exact (strOk_iff y).mp g.1 c hc, by rw [len_app]; exact Nat.add_le_add h.2 g.2⟩
theorem Tx.cut {n : Nat} {z : Str} (h : Tx n z) (lo hi : Option Int) : Tx n (cutS z lo hi) := by
  have e : TL.tl (cutS z lo hi) = ((TL.tl z).drop (HT.sIx z.length 0 lo)).take (HT.sIx z.length z.length hi - HT.sIx z.length 0 lo) := rfl
  refine ⟨(strOk_iff _).mpr fun c hc => ?_, ?_⟩
  · rw [e] at hc
    exact (strOk_iff z).mp h.1 c (List.mem_of_mem_drop (List.mem_of_mem_take hc))
  · rw [TL.len_tl, e, List.length_take, List.length_drop, ← TL.len_tl]
    have := h.2
    omega
theorem joinL_len {n : Nat} : ∀ L : List (List Nat), (∀ p ∈ L, p.length ≤ n) → (TL.joinL [32] L).length ≤ L.length * (n + 1)
  | [], _ => Nat.zero_le _
  | [p], h => by
    have := h p (by simp)
    show p.length ≤ 1 * (n + 1)
    omega
  | p :: q :: r, h => by
    have h1 := h p (by simp)
    have h2 := joinL_len (q :: r) fun x hx => h x (by simp [List.mem_cons.mp hx])
    show (p ++ ([32] ++ TL.joinL [32] (q :: r))).length ≤ (r.length + 1 + 1) * (n + 1)
    have h2 : (TL.joinL [32] (q :: r)).length ≤ (r.length + 1) * (n + 1) := h2
    rw [List.length_append, List.length_append, List.length_singleton, Nat.succ_mul (r.length + 1)]
    omega
theorem Tx.join {ws : List Str} (h : ∀ w ∈ ws, Tx 10 w) (l : ws.length ≤ 40) : Tx 440 (Txt.join " " ws) := by
  have e : TL.tl (Txt.join " " ws) = TL.joinL [32] (ws.map TL.tl) := by
    rw [TL.join_eq, TL.tl_join]
    have e32 : TL.tl (" " : Str) = [32] := by decide +kernel
    rw [e32]
  refine ⟨(strOk_iff _).mpr fun c hc => ?_, ?_⟩
  · rw [e] at hc
    rcases joinL_mem _ _ hc with rfl | ⟨p, hp, hq⟩
    · decide
    · obtain ⟨w, hw, rfl⟩ := List.mem_map.mp hp
      exact (strOk_iff w).mp (h w hw).1 c hq
  · have := joinL_len (n := 10) (ws.map TL.tl) fun p hp => by
      obtain ⟨w, hw, rfl⟩ := List.mem_map.mp hp
      rw [← TL.len_tl]; exact (h w hw).2
    rw [TL.len_tl, e]
    rw [List.length_map] at this
    omega
theorem sum_len : ∀ {ws : List Str}, (∀ w ∈ ws, Tx 10 w) → (ws.map (·.length)).sum ≤ 10 * ws.length
  | [], _ => Nat.le_refl _
  | w :: r, h => by
    have h1 := (h w (by simp)).2
    have h2 := sum_len (ws := r) fun x hx => h x (by simp [hx])
    show w.length + (r.map (·.length)).sum ≤ 10 * (r.length + 1)
    omega
def cutW (W : List Str) (lo hi : Option Int) : List Str := (W.drop (HT.sIx W.length 0 lo)).take (HT.sIx W.length W.length hi - HT.sIx W.length 0 lo)
theorem cutD_map (W : List Str) (lo hi : Option Int) : cutD (W.map D.str) lo hi = (cutW W lo hi).map D.str := by
  unfold cutD cutW
  rw [List.length_map, List.map_take, List.map_drop]
theorem cutW_mem {W : List Str} {lo hi : Option Int} {w : Str} (h : w ∈ cutW W lo hi) : w ∈ W := List.mem_of_mem_drop (List.mem_of_mem_take h)
theorem cutW_len (W : List Str) (lo hi : Option Int) : (cutW W lo hi).length ≤ W.length := by
  unfold cutW
  rw [List.length_take, List.length_drop]
  omega
theorem strs_two (W : List Str) (l1 h1 l2 h2 : Option Int) : strsD (cutD (W.map D.str) l1 h1 ++ cutD (W.map D.str) l2 h2) = some (cutW W l1 h1 ++ cutW W l2 h2) := by
  rw [cutD_map, cutD_map, ← List.map_append]; exact strsD_map _
theorem strs_three (W : List Str) (x : Str) (l1 h1 l2 h2 : Option Int) : strsD (cutD (W.map D.str) l1 h1 ++ [.str x] ++ cutD (W.map D.str) l2 h2) = some (cutW W l1 h1 ++ [x] ++ cutW W l2 h2) := by
  rw [cutD_map, cutD_map, show [D.str x] = [x].map D.str from rfl, ← List.map_append, ← List.map_append]; exact strsD_map _
def Odd (v : D) : Prop := D.fit 64 v = true ∧ (∀ t, v = .str t → t.length ≤ 100000) ∧ ∀ c : Cl, c.Ok → v ≠ .str (textC c)
theorem odd_str {t : Str} {n : Nat} (h : Tx n t) (hn : n ≤ 100000) (no : ∀ c, c.Ok → t ≠ textC c) : Odd (.str t) := ⟨h.1, fun t' e => by cases e; exact Nat.le_trans h.2 hn, fun c hc e => no c hc (D.str.inj e)⟩
theorem isText_no {t : Str} (h : (match readL t with | .non => true | _ => false) = true) : ∀ c, c.Ok → t ≠ textC c := fun c hc e => by
  rw [e, readL_yes hc] at h
  cases h
def sp_law (Ps : List Addr) : DSpec := spLawT Ps nmL
theorem ok_law {f : Addr} {fd : FuncData} (F : Fun K "law" "law" s_law f fd) (hm : mg "law" = some (.ref f)) {cc_law PP_law : Addr} (cd : CodeAt K mg "law" cc_law) (tb_law : TabB base mg cc_law PP_law) (pm : PP_law ∈ Ps) (c__law_error : ∀ (base' : Heap) (f : Addr) (sp : DSpec), Up K mg base base' → FnV P w K mg base' 13 0 f sp → DFn P w K mg base' 14 "_law_error" 1 (G_error K ex f sp)) (c__law_told : ∀ (base' : Heap) (f : Addr) (sp : DSpec), Up K mg base base' → FnV P w K mg base' 13 0 f sp → DFn P w K mg base' 14 "_law_told" 1 (G_told K ex f sp)) (c__law_all_refused : ∀ (base' : Heap) (f : Addr) (sp : DSpec), Up K mg base base' → FnV P w K mg base' 12 1 f sp → DFn P w K mg base' 15 "_law_all_refused" 3 (G_all K ex PP__law_all_refused nmL f sp)) (pm_all : PP__law_all_refused ∈ Ps) (ue : Up K mg base base) (b_len : mg "len" = none) (b_max : mg "max" = none) (b_min : mg "min" = none) (b_range : mg "range" = none) (c_clause_text : DFn P w K mg base 7 "clause_text" 1 (sp_clause_text ex)) (c_read_clause : DFn P w K mg base 6 "read_clause" 1 (sp_read_clause ex)) (c__law_vat : DFn P w K mg base 2 "_law_vat" 2 sp__law_vat) (c__law_under : DFn P w K mg base 2 "_law_under" 2 sp__law_under) (c__law_some : DFn P w K mg base 3 "_law_some" 2 sp__law_some) (c__law_clause : DFn P w K mg base 4 "_law_clause" 1 sp__law_clause) (c__law_bad_clauses : DFn P w K mg base 3 "_law_bad_clauses" 0 sp__law_bad_clauses) (c__law_text : DFn P w K mg base 2 "_law_text" 1 sp__law_text) (c__law_reading : DFn P w K mg base 5 "_law_reading" 1 sp__law_reading) (c__law_written : DFn P w K mg base 15 "_law_written" 0 (sp__law_written ex Ps)) : FnOk P w K mg base (L2N.CX P w) 16 f fd ["script"] (DSp K 1 (sp_law Ps)) := by
  obtain ⟨f_clause_text, m_clause_text, k_clause_text, v_clause_text⟩ := FnV.of c_clause_text
  refine fn_coreC (k := 15) F hm cd sc_law (fun cdv A outer s H E hc hX => (dss_cons (ds_for hX (di_rng1 b_range (da_cons (de_max2 hX b_max (da_cons dint (da_cons (de_min2 hX b_min (da_cons dint (da_cons (de_len b_len (da_cons (dv 0) da_nil)) da_nil))) da_nil))) da_nil)) (dg_nm hX 1) (dss_cons (ds_set hX 2 (de_call hX c__law_vat (da_cons (dv 0) (da_cons (dv 1) da_nil))))
      (dss_cons (ds_set hX 3 (de_call hX c__law_clause (da_cons (dv 2) da_nil)))
      (dss_cons (ds_set hX 4 (de_call hX c__law_text (da_cons (dv 3) da_nil)))
      (dss_cons (ds_if (DW.dt (dw_or (dt_ne hX (de_call hX c_clause_text (da_cons (dv 3) da_nil)) (dv 4)) (dw_or1 (dt_ne hX (de_call hX c_read_clause (da_cons (dv 4) da_nil)) (dv 3))))) (dss_one (ds_ret dbl)) dss_nil)
      (dss_cons (ds_for hX (di_rng1 b_range (da_cons dint da_nil)) (dg_nm hX 5) (dss_cons (ds_par hX 6 7 (da_cons (de_call hX c__law_under (da_cons (dv 2) (da_cons (de_add (de_len b_len (da_cons (dv 4) da_nil)) dint) da_nil))) (da_cons (de_split (dv 4) dstr) da_nil)))
      (dss_cons (ds_set hX 8 (de_call hX c__law_some (da_cons (dv 2) (da_cons (de_lst (da_cons dstr (da_cons dstr (da_cons dstr (da_cons dstr (da_cons dstr (da_cons dstr (da_cons dstr (da_cons dstr (da_cons dstr (da_cons dstr da_nil))))))))))) da_nil))))
      (dss_cons (ds_set hX 9 (de_call hX c__law_under (da_cons (dv 2) (da_cons (de_len b_len (da_cons (dv 7) da_nil)) da_nil))))
      (dss_cons (ds_set hX 10 (de_lst (da_cons (de_add (de_add (de_cutS (dv 4) do_none (do_some (dv 6))) (dv 8)) (de_cutS (dv 4) (do_some (dv 6)) do_none)) (da_cons (de_add (de_cutS (dv 4) do_none (do_some (dv 6))) (de_cutS (dv 4) (do_some (de_add (dv 6) dint)) do_none)) (da_cons (de_join dstr (de_add (de_cut (dv 7) do_none (do_some (dv 9))) (de_cut (dv 7) (do_some (de_add (dv 9) dint)) do_none))) da_nil)))))
      (dss_cons (ds_set hX 11 (de_call hX c__law_some (da_cons (dv 2) (da_cons (de_add (dv 10) (de_lst (da_cons (de_join dstr (de_add (de_add (de_cut (dv 7) do_none (do_some (dv 9))) (de_lst (da_cons (dv 8) da_nil))) (de_cut (dv 7) (do_some (de_add (dv 9) dint)) do_none))) (da_cons (de_add (dv 4) (dv 8)) da_nil)))) da_nil))))
      (dss_cons (ds_set hX 12 (de_call hX c__law_reading (da_cons (dv 11) da_nil)))
      (dss_one (ds_if (dt_ne hX (de_callL (nm := nmL) (ps := []) (fr := ["bent"]) (js := [11]) (Nl := ["bent"]) (kl := 12) hX nfc_cx tb_law hc
        (fun _ _ _ _ _ _ _ _ _ _ u1 hX nf => (de_call hX (c_read_clause.up u1) (da_cons (dv 0) da_nil)))
        (fun base' f sp u' V => c__law_told base' f sp u' V) da_nil (nscope_by (by decide +kernel)) (hb := fun _ _ _ _ _ us hl => match us, hl with | [], _ => rfl)) (de_if (dt_isnot (dv 12) dnon) (de_tup (da_cons (dv 12) (da_cons dstr da_nil))) (de_tup (da_cons dnon (da_cons dstr da_nil))))) (dss_one (ds_ret dbl)) dss_nil)))))))))
      (dss_cons (ds_for hX (di_seq (de_lst (da_cons dnon (da_cons dint (da_cons dstr (da_cons dstr (da_cons (de_add (dv 4) dstr) (da_cons (de_add (dv 4) dstr) (da_cons (de_add dstr (dv 4)) (da_cons (de_tup (da_cons (dv 4) da_nil)) (da_cons (de_add (dv 4) dstr) da_nil))))))))))) (dg_nm hX 13) (dss_one (ds_if (dt_ne hX (de_callL (nm := nmL) (ps := []) (fr := ["odd"]) (js := [13]) (Nl := ["odd"]) (kl := 12) hX nfc_cx tb_law hc
        (fun _ _ _ _ _ _ _ _ _ _ u1 hX nf => (de_call hX (c_read_clause.up u1) (da_cons (dv 0) da_nil)))
        (fun base' f sp u' V => c__law_error base' f sp u' V) da_nil (nscope_by (by decide +kernel)) (hb := fun _ _ _ _ _ us hl => match us, hl with | [], _ => rfl)) dstr) (dss_one (ds_ret dbl)) dss_nil)))
      (dss_one (ds_if (dt_not (dt_val (de_call hX (c__law_all_refused base f_clause_text (sp_clause_text ex) ue (v_clause_text.mono (by decide))) (da_cons (de_fnv m_clause_text) (da_cons (de_call0 hX c__law_bad_clauses) (da_cons dstr da_nil)))))) (dss_one (ds_ret dbl)) dss_nil)))))))))
      (dss_one (ds_ret (de_call0 hX c__law_written))))) (fun ds M Q Ed hl hs => ?_)
  have big : sizeLine = 16777216 := rfl
  obtain ⟨ns, rfl, hn, tm, q⟩ := hs
  refine ⟨⟨by repeat' split <;> omega, by repeat' split <;> omega⟩, ?_⟩
  refine ⟨fun i δ' M' => (∃ x1 x2 x3 x4 x5 x6 x7 x8 x9 x10 x11 x12 x13, δ' = ⟨[some (.fro (ns.map D.int)), x1, x2, x3, x4, x5, x6, x7, x8, x9, x10, x11, x12, x13], Ed⟩) ∧ TM Ps nmL M', ⟨⟨_, _, _, _, _, _, _, _, _, _, _, _, _, rfl⟩, tm⟩, fun i d δ' M' hd ⟨⟨x1, x2, x3, x4, x5, x6, x7, x8, x9, x10, x11, x12, x13, e1⟩, tm⟩ => ?_, fun δ' M' ⟨⟨x1, x2, x3, x4, x5, x6, x7, x8, x9, x10, x11, x12, x13, e1⟩, tm⟩ => ?_⟩
  · subst e1
    obtain ⟨hi, rfl⟩ := rngD_get hd
    refine ⟨rfl, ns, _, rfl, by omega, fun p a b hp => ?_⟩
    have tm := tm.new (o := vatO a b) hp
    refine ⟨rfl, p, rfl, .upd, fun c M2 hc e2 => ⟨rfl, c, rfl, hc, ?_⟩⟩
    have tok : PyData.strOk (textC c) = true := textC_fit hc
    have tlen : (textC c).length ≤ 200 := by
      rw [← text_eq c]
      have fl := fold_len c.steps (headS c) hc.step
      have hh := headS_len hc
      have := hc.len.2
      unfold endS
      cases c.whole with
      | true =>
        show (c.steps.foldl addS (headS c) ++ " whole").length ≤ 200
        rw [len_app]
        have : (" whole" : Str).length = 6 := by decide +kernel
        omega
      | false => show (c.steps.foldl addS (headS c)).length ≤ 200; omega
    have fT : D.fit 64 (.str (textC c)) = true := tok
    have fC : D.fit 64 c.d = true := fit_cl hc
    refine ⟨rfl, .inl ⟨c, rfl, hc, ⟨fT, fT⟩, onT_i (fun h => absurd h ?_) (fun _ => ?_)⟩⟩
    · rw [eqv_self 64 _ fT]; decide
    refine ⟨rfl, .str (textC c), rfl, fT, fun t e => by cases e; omega, .inl ⟨c, hc, rfl, ⟨fC, fC⟩, onT_i (fun h => absurd h ?_) (fun _ => ?_)⟩⟩
    · rw [eqv_self 64 _ fC]; decide
    refine ⟨⟨by decide, by decide⟩, fun i δ' M' => (∃ x5 x6 x7 x8 x9 x10 x11 x12 x13, δ' = ⟨[some (.fro (ns.map D.int)), _, some (.ref p), some c.d, some (.str (textC c)), x5, x6, x7, x8, x9, x10, x11, x12, x13], Ed⟩) ∧ VatAt M' p ∧ TM Ps nmL M', ⟨⟨_, _, _, _, _, _, _, _, _, rfl⟩, e2.1, tm.ex .upd e2⟩, fun i d δ' M' hd ⟨⟨x5, x6, x7, x8, x9, x10, x11, x12, x13, e1⟩, hv, tm⟩ => ?_, fun δ' M' ⟨⟨x5, x6, x7, x8, x9, x10, x11, x12, x13, e1⟩, hv, tm⟩ => ?_⟩
    · subst e1
      obtain ⟨hi, rfl⟩ := rngD_get hd
      refine ⟨by omega, rfl, p, ((textC c).length : Int) + 1, rfl, ⟨by omega, by omega⟩, hv, fun a M3 a0 a1 e3 => ?_⟩
      refine ⟨⟨by decide +kernel, by omega⟩, ?_⟩
      rw [split_text hc]
      refine ⟨sl, rfl, p, _, rfl, few, e3.1, fun y M4 hy e4 => ?_⟩
      obtain ⟨sg, rfl, sok, slen⟩ : ∃ sg : Str, y = .str sg ∧ PyData.strOk sg = true ∧ sg.length ≤ 10 := by
        simp only [List.mem_cons, List.not_mem_nil, or_false] at hy
        rcases hy with rfl | rfl | rfl | rfl | rfl | rfl | rfl | rfl | rfl | rfl <;> exact ⟨_, rfl, by decide +kernel, by decide +kernel⟩
      have wl : ((wordsC c).map D.str).length ≤ 18 ∧ 13 ≤ ((wordsC c).map D.str).length := by
        have lb := bodyW_len c
        have l1 := hc.len.1
        have l2 := hc.len.2
        rw [List.length_map]
        unfold wordsC
        rw [List.length_append, lb]
        cases c.whole
        · show 11 + 2 * c.steps.length + 0 ≤ 18 ∧ 13 ≤ 11 + 2 * c.steps.length + 0; omega
        · show 11 + 2 * c.steps.length + 1 ≤ 18 ∧ 13 ≤ 11 + 2 * c.steps.length + 1; omega
      refine ⟨rfl, p, (((wordsC c).map D.str).length : Int), rfl, ⟨by omega, by omega⟩, e4.1, fun sp M5 s0 s1 e5 => ?_⟩
      have tx : Tx 200 (textC c) := ⟨tok, tlen⟩
      have ts : Tx 10 sg := ⟨sok, slen⟩
      have tw : ∀ w ∈ wordsC c, Tx 10 w := fun w hw => ⟨(words_fine hc w hw).1.1, by have := (words_fine hc w hw).1.2; omega⟩
      have wl2 : (wordsC c).length ≤ 18 := by have := wl.1; rwa [List.length_map] at this
      have t1 := ((tx.cut none (some a)).app ts).app (tx.cut (some a) none)
      have t2 := (tx.cut none (some a)).app (tx.cut (some (a + 1)) none)
      have c1 := cutW_len (wordsC c) none (some sp)
      have c2 := cutW_len (wordsC c) (some (sp + 1)) none
      have w3 : ∀ w ∈ cutW (wordsC c) none (some sp) ++ cutW (wordsC c) (some (sp + 1)) none, Tx 10 w := fun w hw => by
        rcases List.mem_append.mp hw with h | h <;> exact tw w (cutW_mem h)
      have w4 : ∀ w ∈ cutW (wordsC c) none (some sp) ++ [sg] ++ cutW (wordsC c) (some (sp + 1)) none, Tx 10 w := fun w hw => by
        rcases List.mem_append.mp hw with h | h
        · rcases List.mem_append.mp h with h | h
          · exact tw w (cutW_mem h)
          · rw [List.mem_singleton.mp h]; exact ts
        · exact tw w (cutW_mem h)
      have l3 : (cutW (wordsC c) none (some sp) ++ cutW (wordsC c) (some (sp + 1)) none).length ≤ 40 := by rw [List.length_append]; omega
      have l4 : (cutW (wordsC c) none (some sp) ++ [sg] ++ cutW (wordsC c) (some (sp + 1)) none).length ≤ 40 := by rw [List.length_append, List.length_append, List.length_singleton]; omega
      have s3 := sum_len w3
      have s4 := sum_len w4
      have q1 := (tx.cut none (some a)).2
      have q2 := (tx.cut (some a) none).2
      have q3 := (tx.cut (some (a + 1)) none).2
      have q4 := ((tx.cut none (some a)).app ts).2
      have e1b : (" " : Str).length = 1 := by decide +kernel
      refine ⟨by omega, by omega, by omega, by omega, by omega, by omega, by omega, by rw [cutD_map, cutD_map, List.length_map, List.length_map]; omega, ?_⟩
      refine onO_i rfl <| onO_i (strs_two (wordsC c) none (some sp) (some (sp + 1)) none) ⟨by rw [e1b]; omega, sl, ?_⟩
      refine ⟨sl, by rw [cutD_map, List.length_map]; show _ + 1 ≤ sizeLine; omega, by rw [cutD_map, cutD_map, List.length_append, List.length_map, List.length_map]; show _ + 1 + _ ≤ sizeLine; omega, ?_⟩
      refine onO_i rfl <| onO_i (strs_three (wordsC c) sg none (some sp) (some (sp + 1)) none) ⟨by rw [e1b]; omega, by omega, sl, sl, rfl, p, _, rfl, few, e5.1, fun y M6 hy e6 => ?_⟩
      obtain ⟨bt, rfl, tb⟩ : ∃ bt : Str, y = .str bt ∧ Tx 1000 bt := by
        simp only [List.mem_append, List.mem_cons, List.not_mem_nil, or_false] at hy
        have up : ∀ {n : Nat} {t : Str}, n ≤ 1000 → Tx n t → Tx 1000 t := fun h k => ⟨k.1, Nat.le_trans k.2 h⟩
        rcases hy with (rfl | rfl | rfl) | (rfl | rfl)
        · exact ⟨_, rfl, up (by decide) t1⟩
        · exact ⟨_, rfl, up (by decide) t2⟩
        · exact ⟨_, rfl, up (by decide) (Tx.join w3 l3)⟩
        · exact ⟨_, rfl, up (by decide) (Tx.join w4 l4)⟩
        · exact ⟨_, rfl, up (by decide) (tx.app ts)⟩
      have tm6 := (((tm.ex hv e3).ex e3.1 e4).ex e4.1 e5).ex e5.1 e6
      have hP := tm6 _ pm
      have bl := tb.2
      refine ⟨rfl, bt, rfl, tb.1, by omega, ?_⟩
      obtain ⟨r, er⟩ : ∃ r, r = readL bt := ⟨_, rfl⟩
      rw [← er]
      refine ⟨hP, fun g κ hg => ⟨updM_same, rfl, rfl, .inr ⟨κ, _, updM_same⟩, updM_same, rfl, .str bt, rfl, tb.1, fun t e => by cases e; omega, ?_⟩⟩
      by_cases hex : ∃ c' : Cl, c'.Ok ∧ bt = textC c'
      · obtain ⟨c', hc', rfl⟩ := hex
        refine .inl ⟨c', hc', rfl, sl, fun M3 e3 => ?_⟩
        cases e3.trans (delM_updM hg)
        rw [readL_yes hc'] at er
        subst er
        have fT2 : D.fit 64 (.tup [c'.d, .str ""]) = true := by
          show (D.fit 63 c'.d && (PyData.strOk "" && true)) = true
          rw [fit_up (sp_cl hc').1 (by decide : (3 : Nat) ≤ 63), show PyData.strOk ("" : Str) = true by decide +kernel]; rfl
        refine ⟨sl, ⟨fT2, fT2⟩, onT_i (fun h => absurd h ?_) (fun _ => ?_)⟩
        · rw [eqv_self 64 _ fT2]; decide
        exact ⟨⟨_, _, _, _, _, _, _, _, _, rfl⟩, e6.1, tm6⟩
      · have no : ∀ c', c'.Ok → bt ≠ textC c' := fun c' hc' e => hex ⟨c', hc', e⟩
        rw [readL_no no] at er
        subst er
        refine .inr ⟨fun c' hc' e => no c' hc' (D.str.inj e), 8, "InvalidText", by decide, rfl, rfl, fun M3 e3 => ?_⟩
        cases e3.trans (delM_updM hg)
        refine ⟨sl, ⟨by decide +kernel, by decide +kernel⟩, onT_i (fun h => absurd h (by decide +kernel)) (fun _ => ?_)⟩
        exact ⟨⟨_, _, _, _, _, _, _, _, _, rfl⟩, e6.1, tm6⟩
    · subst e1
      have hP := tm _ pm
      have hA := tm _ pm_all
      have tx : Tx 200 (textC c) := ⟨tok, tlen⟩
      have n1 : Tx 1 "\n" := by constructor <;> decide +kernel
      have n2 : Tx 1 " " := by constructor <;> decide +kernel
      have n3 : Tx 12 " whole whole" := by constructor <;> decide +kernel
      have o1 := odd_str (tx.app n1) (by decide) (no_nl c)
      have o2 := odd_str (tx.app n2) (by decide) (no_sp hc)
      have o3 := odd_str (n2.app tx) (by decide) (no_fr hc)
      have o4 := odd_str (tx.app n3) (by decide) (no_ww hc)
      have o5 : Odd (.str "") := odd_str (n := 0) (by constructor <;> decide +kernel) (by decide) (isText_no (by decide +kernel))
      have o6 : Odd (.str "from") := odd_str (n := 4) (by constructor <;> decide +kernel) (by decide) (isText_no (by decide +kernel))
      have o7 : Odd .non := ⟨rfl, fun _ e => (by cases e), fun _ _ e => (by cases e)⟩
      have o8 : Odd (.int 5) := ⟨rfl, fun _ e => (by cases e), fun _ _ e => (by cases e)⟩
      have o9 : Odd (.tup [.str (textC c)]) := ⟨by show (PyData.strOk (textC c) && true) = true; rw [tok]; rfl, fun _ e => (by cases e), fun _ _ e => (by cases e)⟩
      have l1 := n1.2
      have l2 := n2.2
      have l3 := n3.2
      refine ⟨by omega, by omega, by omega, sl, by omega, sl, ?_⟩
      refine ⟨fun i δ' M2 => (∃ x, δ' = ⟨[some (.fro (ns.map D.int)), _, some (.ref p), some c.d, some (.str (textC c)), x5, x6, x7, x8, x9, x10, x11, x12, x], Ed⟩) ∧ M2 = M', ⟨⟨_, rfl⟩, rfl⟩, fun i d δ' M2 hd ⟨⟨x, e1⟩, eM⟩ => ?_, fun δ' M2 ⟨⟨x, e1⟩, eM⟩ => ?_⟩
      · subst e1; subst eM
        have od : Odd d := by
          have hd := List.mem_of_getElem? hd
          simp only [List.mem_cons, List.not_mem_nil, or_false] at hd
          rcases hd with rfl | rfl | rfl | rfl | rfl | rfl | rfl | rfl | rfl
          · exact o7
          · exact o8
          · exact o5
          · exact o6
          · exact o1
          · exact o2
          · exact o3
          · exact o9
          · exact o4
        refine ⟨hP, fun g κ hg => ⟨updM_same, rfl, rfl, .inr ⟨κ, _, updM_same⟩, updM_same, rfl, d, rfl, od.1, od.2.1, .inr ⟨od.2.2, 8, "InvalidText", by decide, rfl, rfl, fun M3 e3 => ?_⟩⟩⟩
        cases e3.trans (delM_updM hg)
        exact ⟨⟨by decide +kernel, by decide +kernel⟩, onT_i (fun h => absurd h (by decide +kernel)) (fun _ => ⟨⟨_, rfl⟩, rfl⟩)⟩
      · subst e1; subst eM
        refine ⟨rfl, rfl, _, badClauses, "clause value", rfl, rfl, Nat.le_of_ble_eq_true rfl, by decide +kernel, .inl k_clause_text, hA, fun o ho g κ s Q' Ed' hg hE => ?_, ?_⟩
        · have ⟨h1, h2⟩ := badC_no o ho
          exact .inr ⟨o, rfl, fit_up h1 (by decide), h2, hE 0 _ (by decide) rfl (by decide +kernel)⟩
        · exact ⟨⟨_, _, _, _, _, _, _, _, _, _, _, _, _, rfl⟩, tm⟩
  · subst e1
    exact ⟨rfl, tm, q _⟩


end
end Bx

set_option Elab.async false
set_option linter.all false
set_option maxRecDepth 100000
set_option maxHeartbeats 4000000
namespace Bx
open PySem PySem.Spec L2 L2H LamX NdefX
open PyProof.Rows hiding St
section
variable {P : Program} {w : World} {K : PySem.W.Frag} {mg : Str → Option Value} {base : Heap} {ex : Str → Value} {as Ps : List Addr} {B : Addr}
theorem all_end {fa : Addr} {h : Heap} (KX : K.In h) (G : h.Ns mainGlobals mg) (hfa : mg "law" = some (.ref fa)) (t_is_whole : Here K mg "is_whole" ["value", "low", "high"] s_is_whole) (t_are_truths : Here K mg "are_truths" ["value"] s_are_truths) (t_rises : Here K mg "rises" ["numbers"] s_rises) (t_is_step : Here K mg "is_step" ["value"] s_is_step) (t_are_steps : Here K mg "are_steps" ["value"] s_are_steps) (t_is_good : Here K mg "is_good" ["value"] s_is_good) (t_need_clause : Here K mg "need_clause" ["clause"] s_need_clause) (t_truths_text : Here K mg "truths_text" ["truths"] s_truths_text) (t_text_of : Here K mg "text_of" ["clause"] s_text_of) (t_figure_of : Here K mg "figure_of" ["word"] s_figure_of) (t_clause_in : Here K mg "clause_in" ["words"] s_clause_in) (t_clause_text : Here K mg "clause_text" ["clause"] s_clause_text) (t_read_clause : Here K mg "read_clause" ["value"] s_read_clause) (t__law_vat : Here K mg "_law_vat" ["script", "k"] s__law_vat) (t__law_under : Here K mg "_law_under" ["vat", "many"] s__law_under) (t__law_some : Here K mg "_law_some" ["vat", "things"] s__law_some) (t__law_is_whole : Here K mg "_law_is_whole" ["value", "low", "high"] s__law_is_whole) (t__law_are_bools : Here K mg "_law_are_bools" ["value"] s__law_are_bools) (t__law_are_steps : Here K mg "_law_are_steps" ["value"] s__law_are_steps) (t__law_is_clause : Here K mg "_law_is_clause" ["value"] s__law_is_clause) (t__law_clause : Here K mg "_law_clause" ["vat"] s__law_clause) (t__law_names : Here K mg "_law_names" ["e"] s__law_names) (t__law_error : Here K mg "_law_error" ["call"] s__law_error) (t__law_told : Here K mg "_law_told" ["call"] s__law_told) (t__law_all_refused : Here K mg "_law_all_refused" ["call", "odds", "name"] s__law_all_refused) (t__law_known : Here K mg "_law_known" [] s__law_known) (t__law_bad_clauses : Here K mg "_law_bad_clauses" [] s__law_bad_clauses) (t__law_text : Here K mg "_law_text" ["clause"] s__law_text) (t__law_reading : Here K mg "_law_reading" ["text"] s__law_reading) (t__law_written : Here K mg "_law_written" [] s__law_written) (t_law : Here K mg "law" ["script"] s_law) (b_ValueError : mg "ValueError" = none) (b_abs : mg "abs" = none) (b_all : mg "all" = none) (b_bool : mg "bool" = none) (b_int : mg "int" = none) (b_isinstance : mg "isinstance" = none) (b_len : mg "len" = none) (b_list : mg "list" = none) (b_max : mg "max" = none) (b_min : mg "min" = none) (b_range : mg "range" = none) (b_set : mg "set" = none) (b_sorted : mg "sorted" = none) (b_str : mg "str" = none) (b_tuple : mg "tuple" = none) (b_zip : mg "zip" = none) (x_InvalidClause : ErrAt K mg ex "InvalidClause") (x_InvalidText : ErrAt K mg ex "InvalidText") (g_MOST_FIRST : IntAt mg "MOST_FIRST" 6) (g_MOST_FREE : IntAt mg "MOST_FREE" 6) (g_MOST_PRICE : IntAt mg "MOST_PRICE" 5) (g_MOST_STEPS : IntAt mg "MOST_STEPS" 3) (g_WORDS : DicAt K w mg "WORDS" [("yes", .bl true), ("no", .bl false)]) (er : Errs K mg ex as B) {cc__law_all_refused PP__law_all_refused : Addr} (o__law_all_refused : TabOf K mg h "_law_all_refused" cc__law_all_refused PP__law_all_refused) {cc__law_written PP__law_written : Addr} (o__law_written : TabOf K mg h "_law_written" cc__law_written PP__law_written) {cc_law PP_law : Addr} (o_law : TabOf K mg h "law" cc_law PP_law) :
    ∃ (fd : FuncData) (cs : List (Addr × Addr)) (nm : Nat → Nat → Str), (∀ p ∈ cs, h.get? p.2 = some { cls := .none, data := .fields #[] } ∧ K.lookup p.2 = none ∧ PySem.W.CodeHd h p.1 p.2) ∧ (∀ (s : Shared) (u : Value), BindsTo s fd ⟨[u], []⟩ [("script", u)]) ∧
      ∀ base : Heap, Mod K mg base → (∀ p ∈ cs, LamX.TabB base mg p.1 p.2) → FnOk P w K mg base (L2N.CX P w) 16 fa fd ["script"] (DSp K 1 (spLawT (cs.map (·.2)) nm)) := by
  obtain ⟨f, fd, F, hm, _⟩ := t_law
  have e := hfa.symm.trans hm
  cases e
  refine ⟨fd, [(cc__law_all_refused, PP__law_all_refused), (cc__law_written, PP__law_written), (cc_law, PP_law)], nmL, fun p hp => ?_, ?_, fun base mod TB => ?_⟩
  · simp only [List.mem_cons, List.not_mem_nil, or_false] at hp
    rcases hp with e | e | e
    · subst e; exact ⟨o__law_all_refused.get, o__law_all_refused.out, o__law_all_refused.hd⟩
    · subst e; exact ⟨o__law_written.get, o__law_written.out, o__law_written.hd⟩
    · subst e; exact ⟨o_law.get, o_law.out, o_law.hd⟩
  · obtain ⟨oc, od, kV, doc, pm, an, cdv, ct, osl, rfl, _, _⟩ := F.ex
    exact fun s v => .of_eq rfl
  have tb__law_all_refused := TB (cc__law_all_refused, PP__law_all_refused) (by simp)
  have tb__law_written := TB (cc__law_written, PP__law_written) (by simp)
  have tb_law := TB (cc_law, PP_law) (by simp)
  have ue := Up.refl mod
  have c_is_whole := ok_is_whole (P := P) (w := w) (base := base) (T := t_is_whole) (b_bool := b_bool) (b_int := b_int) (b_isinstance := b_isinstance)
  have c_are_truths := ok_are_truths (P := P) (w := w) (base := base) (T := t_are_truths) (b_all := b_all) (b_bool := b_bool) (b_isinstance := b_isinstance) (b_len := b_len) (b_tuple := b_tuple)
  have c_rises := ok_rises (P := P) (w := w) (base := base) (T := t_rises) (b_all := b_all) (b_zip := b_zip)
  have c_is_step := ok_is_step (P := P) (w := w) (base := base) (T := t_is_step) (b_isinstance := b_isinstance) (b_len := b_len) (b_tuple := b_tuple) (g_MOST_FIRST := g_MOST_FIRST) (g_MOST_PRICE := g_MOST_PRICE) (c_is_whole := c_is_whole)
  have c_are_steps := ok_are_steps (P := P) (w := w) (base := base) (T := t_are_steps) (b_all := b_all) (b_isinstance := b_isinstance) (b_len := b_len) (b_tuple := b_tuple) (g_MOST_STEPS := g_MOST_STEPS) (c_rises := c_rises) (c_is_step := c_is_step)
  have c_is_good := ok_is_good (P := P) (w := w) (base := base) (T := t_is_good) (b_bool := b_bool) (b_isinstance := b_isinstance) (b_len := b_len) (b_str := b_str) (b_tuple := b_tuple) (g_MOST_FREE := g_MOST_FREE) (c_is_whole := c_is_whole) (c_are_truths := c_are_truths) (c_are_steps := c_are_steps)
  have c_need_clause := ok_need_clause (P := P) (w := w) (base := base) (T := t_need_clause) (x_InvalidClause := x_InvalidClause) (c_is_good := c_is_good)
  have c_truths_text := ok_truths_text (P := P) (w := w) (base := base) (T := t_truths_text)
  have c_text_of := ok_text_of (P := P) (w := w) (base := base) (T := t_text_of) (c_truths_text := c_truths_text)
  have c_figure_of := ok_figure_of (P := P) (w := w) (base := base) (T := t_figure_of) (b_int := b_int) (b_len := b_len)
  have c_clause_in := ok_clause_in (P := P) (w := w) (base := base) (T := t_clause_in) (b_len := b_len) (b_range := b_range) (b_tuple := b_tuple) (g_WORDS := g_WORDS) (c_figure_of := c_figure_of)
  have c_clause_text := ok_clause_text (P := P) (w := w) (base := base) (T := t_clause_text) (c_need_clause := c_need_clause) (c_text_of := c_text_of)
  have c_read_clause := ok_read_clause (P := P) (w := w) (base := base) (T := t_read_clause) (b_isinstance := b_isinstance) (b_str := b_str) (x_InvalidText := x_InvalidText) (c_is_good := c_is_good) (c_text_of := c_text_of) (c_clause_in := c_clause_in)
  have c__law_vat := ok__law_vat (P := P) (w := w) (base := base) (T := t__law_vat) (b_abs := b_abs) (b_int := b_int) (b_len := b_len)
  have c__law_under := ok__law_under (P := P) (w := w) (base := base) (T := t__law_under) (b_int := b_int)
  have c__law_some := ok__law_some (P := P) (w := w) (base := base) (T := t__law_some) (b_len := b_len) (c__law_under := c__law_under)
  have c__law_is_whole := ok__law_is_whole (P := P) (w := w) (base := base) (T := t__law_is_whole) (b_bool := b_bool) (b_int := b_int) (b_isinstance := b_isinstance)
  have c__law_are_bools := ok__law_are_bools (P := P) (w := w) (base := base) (T := t__law_are_bools) (b_bool := b_bool) (b_isinstance := b_isinstance) (b_len := b_len) (b_tuple := b_tuple)
  have c__law_are_steps := ok__law_are_steps (P := P) (w := w) (base := base) (T := t__law_are_steps) (b_isinstance := b_isinstance) (b_len := b_len) (b_set := b_set) (b_sorted := b_sorted) (b_tuple := b_tuple) (c__law_is_whole := c__law_is_whole)
  have c__law_is_clause := ok__law_is_clause (P := P) (w := w) (base := base) (T := t__law_is_clause) (b_bool := b_bool) (b_isinstance := b_isinstance) (b_len := b_len) (b_str := b_str) (b_tuple := b_tuple) (c__law_is_whole := c__law_is_whole) (c__law_are_bools := c__law_are_bools) (c__law_are_steps := c__law_are_steps)
  have c__law_clause := ok__law_clause (P := P) (w := w) (base := base) (T := t__law_clause) (b_len := b_len) (b_range := b_range) (b_tuple := b_tuple) (b_zip := b_zip) (c__law_under := c__law_under) (c__law_some := c__law_some)
  have n__law_names := fun (base' : Heap) => ok__law_names (P := P) (w := w) (base := base') (T := t__law_names) (er := er) (b_isinstance := b_isinstance) (b_zip := b_zip) (b_ValueError := b_ValueError)
  have c__law_error := fun (base' : Heap) (f : Addr) (sp : DSpec) (_ : Up K mg base base') (V : FnV P w K mg base' 13 0 f sp) => ok__law_error (P := P) (w := w) (base := base') (T := t__law_error) (er := er) (nm := n__law_names base') V
  have c__law_told := fun (base' : Heap) (f : Addr) (sp : DSpec) (_ : Up K mg base base') (V : FnV P w K mg base' 13 0 f sp) => ok__law_told (P := P) (w := w) (base := base') (T := t__law_told) (er := er) (nm := n__law_names base') V
  have c__law_all_refused := fun (base' : Heap) (f : Addr) (sp : DSpec) (u : Up K mg base base') (V : FnV P w K mg base' 12 1 f sp) => ok__law_all_refused (P := P) (w := w) (base := base') (ex := ex) (T := t__law_all_refused) (cd := o__law_all_refused.code) (tb__law_all_refused := tabB_up tb__law_all_refused u) (c__law_error := fun base2 f2 sp2 u2 V2 => c__law_error base2 f2 sp2 (u.trans u2) V2) V
  have c__law_known := ok__law_known (P := P) (w := w) (base := base) (T := t__law_known)
  have c__law_bad_clauses := ok__law_bad_clauses (P := P) (w := w) (base := base) (T := t__law_bad_clauses) (b_list := b_list) (c__law_known := c__law_known)
  have c__law_text := ok__law_text (P := P) (w := w) (base := base) (T := t__law_text) (b_str := b_str)
  have c__law_reading := ok__law_reading (P := P) (w := w) (base := base) (T := t__law_reading) (b_int := b_int) (b_len := b_len) (b_list := b_list) (b_range := b_range) (b_tuple := b_tuple) (c__law_is_clause := c__law_is_clause)
  have c__law_written := ok__law_written (P := P) (w := w) (base := base) (T := t__law_written) (Ps := [PP__law_all_refused, PP__law_written, PP_law]) (c_clause_text := c_clause_text) (c_read_clause := c_read_clause) (c__law_known := c__law_known) (c__law_error := c__law_error) (cd := o__law_written.code) (tb__law_written := tb__law_written) (pm := by simp)
  exact ok_law (P := P) (w := w) (base := base) (Ps := [PP__law_all_refused, PP__law_written, PP_law]) F hm (b_len := b_len) (b_max := b_max) (b_min := b_min) (b_range := b_range) (c_clause_text := c_clause_text) (c_read_clause := c_read_clause) (c__law_vat := c__law_vat) (c__law_under := c__law_under) (c__law_some := c__law_some) (c__law_clause := c__law_clause) (c__law_bad_clauses := c__law_bad_clauses) (c__law_text := c__law_text) (c__law_reading := c__law_reading) (c__law_written := c__law_written) (c__law_error := c__law_error) (c__law_told := c__law_told) (c__law_all_refused := c__law_all_refused) (pm_all := by simp) (ue := ue) (cd := o_law.code) (tb_law := tb_law) (pm := by simp)
end
end Bx
set_option maxHeartbeats 0 in
theorem PySem.Challenge.cw_boxdays_k10_texts_holds : PySem.Challenge.rw_boxdays_k10_texts.Holds := by
  w_on; o_law; k_head; (case hw => w_witness2)
  k_fill
  refine Bx.walk_ofTX (l := PySem.Challenge.rw_boxdays_k10_texts) (k := 16) (x := "script") rfl rfl ⟨rfl, by decide, by decide⟩ (fun w h Y => PySem.W.km_in_of Y) ?F
  case F =>
    intro w mg fa h KX G XX TT hmg
    refine' Bx.all_end (P := PySem.Challenge.rw_boxdays_k10_texts.prog) (w := w) (ex := Bx.exOf mg) (as := [_, _, _, _, _, _, _, _, _, _, _, _, _]) KX G hmg ?t_is_whole ?t_are_truths ?t_rises ?t_is_step ?t_are_steps ?t_is_good ?t_need_clause ?t_truths_text ?t_text_of ?t_figure_of ?t_clause_in ?t_clause_text ?t_read_clause ?t__law_vat ?t__law_under ?t__law_some ?t__law_is_whole ?t__law_are_bools ?t__law_are_steps ?t__law_is_clause ?t__law_clause ?t__law_names ?t__law_error ?t__law_told ?t__law_all_refused ?t__law_known ?t__law_bad_clauses ?t__law_text ?t__law_reading ?t__law_written ?t_law ?b_ValueError ?b_abs ?b_all ?b_bool ?b_int ?b_isinstance ?b_len ?b_list ?b_max ?b_min ?b_range ?b_set ?b_sorted ?b_str ?b_tuple ?b_zip ?x_InvalidClause ?x_InvalidText ?g_MOST_FIRST ?g_MOST_FREE ?g_MOST_PRICE ?g_MOST_STEPS ?g_WORDS ?er ?o__law_all_refused ?o__law_written ?o_law
    (case t_is_whole => refine' Bx.here_mk KX G ?a ?l ?c ?k ?b; (case a => k_is); (case l => k_is); (case c => k_is); (case k => k_is); (case b => exact fun _ _ _ _ _ _ us hl => match us, hl with | [_, _, _], _ => rfl))
    (case t_are_truths => refine' Bx.here_mk KX G ?a ?l ?c ?k ?b; (case a => k_is); (case l => k_is); (case c => k_is); (case k => k_is); (case b => exact fun _ _ _ _ _ _ us hl => match us, hl with | [_], _ => rfl))
    (case t_rises => refine' Bx.here_mk KX G ?a ?l ?c ?k ?b; (case a => k_is); (case l => k_is); (case c => k_is); (case k => k_is); (case b => exact fun _ _ _ _ _ _ us hl => match us, hl with | [_], _ => rfl))
    (case t_is_step => refine' Bx.here_mk KX G ?a ?l ?c ?k ?b; (case a => k_is); (case l => k_is); (case c => k_is); (case k => k_is); (case b => exact fun _ _ _ _ _ _ us hl => match us, hl with | [_], _ => rfl))
    (case t_are_steps => refine' Bx.here_mk KX G ?a ?l ?c ?k ?b; (case a => k_is); (case l => k_is); (case c => k_is); (case k => k_is); (case b => exact fun _ _ _ _ _ _ us hl => match us, hl with | [_], _ => rfl))
    (case t_is_good => refine' Bx.here_mk KX G ?a ?l ?c ?k ?b; (case a => k_is); (case l => k_is); (case c => k_is); (case k => k_is); (case b => exact fun _ _ _ _ _ _ us hl => match us, hl with | [_], _ => rfl))
    (case t_need_clause => refine' Bx.here_mk KX G ?a ?l ?c ?k ?b; (case a => k_is); (case l => k_is); (case c => k_is); (case k => k_is); (case b => exact fun _ _ _ _ _ _ us hl => match us, hl with | [_], _ => rfl))
    (case t_truths_text => refine' Bx.here_mk KX G ?a ?l ?c ?k ?b; (case a => k_is); (case l => k_is); (case c => k_is); (case k => k_is); (case b => exact fun _ _ _ _ _ _ us hl => match us, hl with | [_], _ => rfl))
    (case t_text_of => refine' Bx.here_mk KX G ?a ?l ?c ?k ?b; (case a => k_is); (case l => k_is); (case c => k_is); (case k => k_is); (case b => exact fun _ _ _ _ _ _ us hl => match us, hl with | [_], _ => rfl))
    (case t_figure_of => refine' Bx.here_mk KX G ?a ?l ?c ?k ?b; (case a => k_is); (case l => k_is); (case c => k_is); (case k => k_is); (case b => exact fun _ _ _ _ _ _ us hl => match us, hl with | [_], _ => rfl))
    (case t_clause_in => refine' Bx.here_mk KX G ?a ?l ?c ?k ?b; (case a => k_is); (case l => k_is); (case c => k_is); (case k => k_is); (case b => exact fun _ _ _ _ _ _ us hl => match us, hl with | [_], _ => rfl))
    (case t_clause_text => refine' Bx.here_mk KX G ?a ?l ?c ?k ?b; (case a => k_is); (case l => k_is); (case c => k_is); (case k => k_is); (case b => exact fun _ _ _ _ _ _ us hl => match us, hl with | [_], _ => rfl))
    (case t_read_clause => refine' Bx.here_mk KX G ?a ?l ?c ?k ?b; (case a => k_is); (case l => k_is); (case c => k_is); (case k => k_is); (case b => exact fun _ _ _ _ _ _ us hl => match us, hl with | [_], _ => rfl))
    (case t__law_vat => refine' Bx.here_mk KX G ?a ?l ?c ?k ?b; (case a => k_is); (case l => k_is); (case c => k_is); (case k => k_is); (case b => exact fun _ _ _ _ _ _ us hl => match us, hl with | [_, _], _ => rfl))
    (case t__law_under => refine' Bx.here_mk KX G ?a ?l ?c ?k ?b; (case a => k_is); (case l => k_is); (case c => k_is); (case k => k_is); (case b => exact fun _ _ _ _ _ _ us hl => match us, hl with | [_, _], _ => rfl))
    (case t__law_some => refine' Bx.here_mk KX G ?a ?l ?c ?k ?b; (case a => k_is); (case l => k_is); (case c => k_is); (case k => k_is); (case b => exact fun _ _ _ _ _ _ us hl => match us, hl with | [_, _], _ => rfl))
    (case t__law_is_whole => refine' Bx.here_mk KX G ?a ?l ?c ?k ?b; (case a => k_is); (case l => k_is); (case c => k_is); (case k => k_is); (case b => exact fun _ _ _ _ _ _ us hl => match us, hl with | [_, _, _], _ => rfl))
    (case t__law_are_bools => refine' Bx.here_mk KX G ?a ?l ?c ?k ?b; (case a => k_is); (case l => k_is); (case c => k_is); (case k => k_is); (case b => exact fun _ _ _ _ _ _ us hl => match us, hl with | [_], _ => rfl))
    (case t__law_are_steps => refine' Bx.here_mk KX G ?a ?l ?c ?k ?b; (case a => k_is); (case l => k_is); (case c => k_is); (case k => k_is); (case b => exact fun _ _ _ _ _ _ us hl => match us, hl with | [_], _ => rfl))
    (case t__law_is_clause => refine' Bx.here_mk KX G ?a ?l ?c ?k ?b; (case a => k_is); (case l => k_is); (case c => k_is); (case k => k_is); (case b => exact fun _ _ _ _ _ _ us hl => match us, hl with | [_], _ => rfl))
    (case t__law_clause => refine' Bx.here_mk KX G ?a ?l ?c ?k ?b; (case a => k_is); (case l => k_is); (case c => k_is); (case k => k_is); (case b => exact fun _ _ _ _ _ _ us hl => match us, hl with | [_], _ => rfl))
    (case t__law_names => refine' Bx.here_mk KX G ?a ?l ?c ?k ?b; (case a => k_is); (case l => k_is); (case c => k_is); (case k => k_is); (case b => exact fun _ _ _ _ _ _ us hl => match us, hl with | [_], _ => rfl))
    (case t__law_error => refine' Bx.here_mk KX G ?a ?l ?c ?k ?b; (case a => k_is); (case l => k_is); (case c => k_is); (case k => k_is); (case b => exact fun _ _ _ _ _ _ us hl => match us, hl with | [_], _ => rfl))
    (case t__law_told => refine' Bx.here_mk KX G ?a ?l ?c ?k ?b; (case a => k_is); (case l => k_is); (case c => k_is); (case k => k_is); (case b => exact fun _ _ _ _ _ _ us hl => match us, hl with | [_], _ => rfl))
    (case t__law_all_refused => refine' Bx.here_mk KX G ?a ?l ?c ?k ?b; (case a => k_is); (case l => k_is); (case c => k_is); (case k => k_is); (case b => exact fun _ _ _ _ _ _ us hl => match us, hl with | [_, _, _], _ => rfl))
    (case t__law_known => refine' Bx.here_mk KX G ?a ?l ?c ?k ?b; (case a => k_is); (case l => k_is); (case c => k_is); (case k => k_is); (case b => exact fun _ _ _ _ _ _ us hl => match us, hl with | [], _ => rfl))
    (case t__law_bad_clauses => refine' Bx.here_mk KX G ?a ?l ?c ?k ?b; (case a => k_is); (case l => k_is); (case c => k_is); (case k => k_is); (case b => exact fun _ _ _ _ _ _ us hl => match us, hl with | [], _ => rfl))
    (case t__law_text => refine' Bx.here_mk KX G ?a ?l ?c ?k ?b; (case a => k_is); (case l => k_is); (case c => k_is); (case k => k_is); (case b => exact fun _ _ _ _ _ _ us hl => match us, hl with | [_], _ => rfl))
    (case t__law_reading => refine' Bx.here_mk KX G ?a ?l ?c ?k ?b; (case a => k_is); (case l => k_is); (case c => k_is); (case k => k_is); (case b => exact fun _ _ _ _ _ _ us hl => match us, hl with | [_], _ => rfl))
    (case t__law_written => refine' Bx.here_mk KX G ?a ?l ?c ?k ?b; (case a => k_is); (case l => k_is); (case c => k_is); (case k => k_is); (case b => exact fun _ _ _ _ _ _ us hl => match us, hl with | [], _ => rfl))
    (case t_law => refine' Bx.here_mk KX G ?a ?l ?c ?k ?b; (case a => k_is); (case l => k_is); (case c => k_is); (case k => k_is); (case b => exact fun _ _ _ _ _ _ us hl => match us, hl with | [_], _ => rfl))
    (case b_ValueError => exact PySem.W.mg_none_of KX G (by k_is))
    (case b_abs => exact PySem.W.mg_none_of KX G (by k_is))
    (case b_all => exact PySem.W.mg_none_of KX G (by k_is))
    (case b_bool => exact PySem.W.mg_none_of KX G (by k_is))
    (case b_int => exact PySem.W.mg_none_of KX G (by k_is))
    (case b_isinstance => exact PySem.W.mg_none_of KX G (by k_is))
    (case b_len => exact PySem.W.mg_none_of KX G (by k_is))
    (case b_list => exact PySem.W.mg_none_of KX G (by k_is))
    (case b_max => exact PySem.W.mg_none_of KX G (by k_is))
    (case b_min => exact PySem.W.mg_none_of KX G (by k_is))
    (case b_range => exact PySem.W.mg_none_of KX G (by k_is))
    (case b_set => exact PySem.W.mg_none_of KX G (by k_is))
    (case b_sorted => exact PySem.W.mg_none_of KX G (by k_is))
    (case b_str => exact PySem.W.mg_none_of KX G (by k_is))
    (case b_tuple => exact PySem.W.mg_none_of KX G (by k_is))
    (case b_zip => exact PySem.W.mg_none_of KX G (by k_is))
    (case x_InvalidClause => refine' Bx.err_mk KX G ?xa ?xq ?xk ?xs ?xt; (case xa => k_is); (case xq => k_exc); (case xk => k_is); (case xs => k_is); (case xt => k_is))
    (case x_InvalidText => refine' Bx.err_mk KX G ?xa ?xq ?xk ?xs ?xt; (case xa => k_is); (case xq => k_exc); (case xk => k_is); (case xs => k_is); (case xt => k_is))
    (case g_MOST_FIRST => exact ⟨_, PySem.W.mg_of KX G (by k_is)⟩)
    (case g_MOST_FREE => exact ⟨_, PySem.W.mg_of KX G (by k_is)⟩)
    (case g_MOST_PRICE => exact ⟨_, PySem.W.mg_of KX G (by k_is)⟩)
    (case g_MOST_STEPS => exact ⟨_, PySem.W.mg_of KX G (by k_is)⟩)
    (case g_WORDS => refine' Bx.dic_mk KX G ?kda ?kdl ?kdk ?kdw ?kdr; (case kda => k_is); (case kdl => k_is); (case kdk => k_keys); (case kdw => decide); (case kdr => exact ⟨⟨_, rfl⟩, rfl, ⟨⟨_, rfl⟩, rfl, (rfl)⟩⟩))
    (case er => refine' Bx.errs_mk KX G (Bx.ns13 ?_ ?_ ?_ ?_ ?_ ?_ ?_ ?_ ?_ ?_ ?_ ?_ ?_) ?_ ⟨?_, ?_, ?_⟩ ?_ ?_ ?_ ⟨⟨⟨?_, ?_, ?_⟩, ⟨?_, ?_, ?_, ?_, ?_, ?_⟩, ?_, ⟨?_, ⟨?_, ⟨?_, ⟨?_, ⟨?_, ⟨?_, ⟨?_, ⟨?_, ⟨?_, ⟨?_, ⟨?_, ⟨?_, ⟨?_, trivial⟩⟩⟩⟩⟩⟩⟩⟩⟩⟩⟩⟩⟩⟩, ⟨⟨⟨?_, ?_, ?_⟩, ⟨?_, ?_, ?_, ?_, ?_, ?_⟩, ?_, ⟨?_, ⟨?_, ⟨?_, ⟨?_, ⟨?_, ⟨?_, ⟨?_, ⟨?_, ⟨?_, ⟨?_, ⟨?_, ⟨?_, ⟨?_, trivial⟩⟩⟩⟩⟩⟩⟩⟩⟩⟩⟩⟩⟩⟩, ⟨⟨⟨?_, ?_, ?_⟩, ⟨?_, ?_, ?_, ?_, ?_, ?_⟩, ?_, ⟨?_, ⟨?_, ⟨?_, ⟨?_, ⟨?_, ⟨?_, ⟨?_, ⟨?_, ⟨?_, ⟨?_, ⟨?_, ⟨?_, ⟨?_, trivial⟩⟩⟩⟩⟩⟩⟩⟩⟩⟩⟩⟩⟩⟩, ⟨⟨⟨?_, ?_, ?_⟩, ⟨?_, ?_, ?_, ?_, ?_, ?_⟩, ?_, ⟨?_, ⟨?_, ⟨?_, ⟨?_, ⟨?_, ⟨?_, ⟨?_, ⟨?_, ⟨?_, ⟨?_, ⟨?_, ⟨?_, ⟨?_, trivial⟩⟩⟩⟩⟩⟩⟩⟩⟩⟩⟩⟩⟩⟩, ⟨⟨⟨?_, ?_, ?_⟩, ⟨?_, ?_, ?_, ?_, ?_, ?_⟩, ?_, ⟨?_, ⟨?_, ⟨?_, ⟨?_, ⟨?_, ⟨?_, ⟨?_, ⟨?_, ⟨?_, ⟨?_, ⟨?_, ⟨?_, ⟨?_, trivial⟩⟩⟩⟩⟩⟩⟩⟩⟩⟩⟩⟩⟩⟩, ⟨⟨⟨?_, ?_, ?_⟩, ⟨?_, ?_, ?_, ?_, ?_, ?_⟩, ?_, ⟨?_, ⟨?_, ⟨?_, ⟨?_, ⟨?_, ⟨?_, ⟨?_, ⟨?_, ⟨?_, ⟨?_, ⟨?_, ⟨?_, ⟨?_, trivial⟩⟩⟩⟩⟩⟩⟩⟩⟩⟩⟩⟩⟩⟩, ⟨⟨⟨?_, ?_, ?_⟩, ⟨?_, ?_, ?_, ?_, ?_, ?_⟩, ?_, ⟨?_, ⟨?_, ⟨?_, ⟨?_, ⟨?_, ⟨?_, ⟨?_, ⟨?_, ⟨?_, ⟨?_, ⟨?_, ⟨?_, ⟨?_, trivial⟩⟩⟩⟩⟩⟩⟩⟩⟩⟩⟩⟩⟩⟩, ⟨⟨⟨?_, ?_, ?_⟩, ⟨?_, ?_, ?_, ?_, ?_, ?_⟩, ?_, ⟨?_, ⟨?_, ⟨?_, ⟨?_, ⟨?_, ⟨?_, ⟨?_, ⟨?_, ⟨?_, ⟨?_, ⟨?_, ⟨?_, ⟨?_, trivial⟩⟩⟩⟩⟩⟩⟩⟩⟩⟩⟩⟩⟩⟩, ⟨⟨⟨?_, ?_, ?_⟩, ⟨?_, ?_, ?_, ?_, ?_, ?_⟩, ?_, ⟨?_, ⟨?_, ⟨?_, ⟨?_, ⟨?_, ⟨?_, ⟨?_, ⟨?_, ⟨?_, ⟨?_, ⟨?_, ⟨?_, ⟨?_, trivial⟩⟩⟩⟩⟩⟩⟩⟩⟩⟩⟩⟩⟩⟩, ⟨⟨⟨?_, ?_, ?_⟩, ⟨?_, ?_, ?_, ?_, ?_, ?_⟩, ?_, ⟨?_, ⟨?_, ⟨?_, ⟨?_, ⟨?_, ⟨?_, ⟨?_, ⟨?_, ⟨?_, ⟨?_, ⟨?_, ⟨?_, ⟨?_, trivial⟩⟩⟩⟩⟩⟩⟩⟩⟩⟩⟩⟩⟩⟩, ⟨⟨⟨?_, ?_, ?_⟩, ⟨?_, ?_, ?_, ?_, ?_, ?_⟩, ?_, ⟨?_, ⟨?_, ⟨?_, ⟨?_, ⟨?_, ⟨?_, ⟨?_, ⟨?_, ⟨?_, ⟨?_, ⟨?_, ⟨?_, ⟨?_, trivial⟩⟩⟩⟩⟩⟩⟩⟩⟩⟩⟩⟩⟩⟩, ⟨⟨⟨?_, ?_, ?_⟩, ⟨?_, ?_, ?_, ?_, ?_, ?_⟩, ?_, ⟨?_, ⟨?_, ⟨?_, ⟨?_, ⟨?_, ⟨?_, ⟨?_, ⟨?_, ⟨?_, ⟨?_, ⟨?_, ⟨?_, ⟨?_, trivial⟩⟩⟩⟩⟩⟩⟩⟩⟩⟩⟩⟩⟩⟩, ⟨⟨⟨?_, ?_, ?_⟩, ⟨?_, ?_, ?_, ?_, ?_, ?_⟩, ?_, ⟨?_, ⟨?_, ⟨?_, ⟨?_, ⟨?_, ⟨?_, ⟨?_, ⟨?_, ⟨?_, ⟨?_, ⟨?_, ⟨?_, ⟨?_, trivial⟩⟩⟩⟩⟩⟩⟩⟩⟩⟩⟩⟩⟩⟩, trivial⟩⟩⟩⟩⟩⟩⟩⟩⟩⟩⟩⟩⟩ rfl ?_ <;> first | k_is | decide)
    (case o__law_all_refused => refine' Bx.tab_mk TT KX G ?ta ?tl ?tc ?td ?te ?tf ?tg; (case ta => k_is); (case tl => k_is); (case tc => rfl); (case td => k_is); (case te => rfl); (case tf => k_is); (case tg => decide +kernel))
    (case o__law_written => refine' Bx.tab_mk TT KX G ?ta ?tl ?tc ?td ?te ?tf ?tg; (case ta => k_is); (case tl => k_is); (case tc => rfl); (case td => k_is); (case te => rfl); (case tf => k_is); (case tg => decide +kernel))
    (case o_law => refine' Bx.tab_mk TT KX G ?ta ?tl ?tc ?td ?te ?tf ?tg; (case ta => k_is); (case tl => k_is); (case tc => rfl); (case td => k_is); (case te => rfl); (case tf => k_is); (case tg => decide +kernel))



