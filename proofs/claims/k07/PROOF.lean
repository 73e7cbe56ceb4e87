import PyProof.Rows.All
import Wide.All
import OpenK.AllK
import Wide.FinOn
import PyProof.EqAt
import PyProof.EqKinds
import PyProof.TupleCall
import HandS.ForMost
import HandS.ForExc
import HandS.IsInst
import HandS.TupAny
import HandS.TupMul
import HandS.Conv
import HandS.Flow
import HandS.Deep
import HandS.Lambda
import HandS.Nested
import HandS.ExcCtx
import KE.KeyNested
import HandS.Style
import HandS.Zip
import HandS.Ends
import HandS.SetFor
import HandS.Strs
import HandS.ExcOwn
import HandS.Hot
import HandS.HotCalls
import HandS.ExcIs
import HandS.Text
import HandS.EndTab
import PySem.Challenge.RW_boxdays_k07_whole_foes
set_option Elab.async false
set_option linter.all false
set_option maxRecDepth 100000
set_option maxHeartbeats 2000000
/-! The data layer: expressions and statements over plain data, above the hand layer's readings. -/
namespace Bx
open PySem PySem.Spec L2
open PyProof.Rows hiding St

/-! ### data -/
/-- plain data; ref: an object that may change, kept in the memory -/
inductive D where
  | non | bl (b : Bool) | int (i : Int) | str (x : Str) | tup (xs : List D) | lst (xs : List D) | fro (xs : List D) | ref (a : Addr)
  deriving Inhabited
mutual
/-- a key of a dict: whole numbers, truth values, None, tuples of such -/
def nk : D → Option NestedKey
  | .non => some .none
  | .bl b => some (.num (if b = true then 1 else 0))
  | .int i => some (.num i)
  | .tup ds => (nks ds).map .tup
  | _ => none
def nks : List D → Option (List NestedKey)
  | [] => some []
  | d :: ds => match nk d, nks ds with
    | some k, some ks => some (k :: ks)
    | _, _ => none
end
mutual
def nkHash : NestedKey → Int
  | .none => reduceHash 0xFCA86420
  | .num i => hashInt i
  | .text _ => 0
  | .tup ks => reduceHash (Builtin.Tuple.tupleHashOf (nkHashes ks))
def nkHashes : List NestedKey → List Int
  | [] => []
  | k :: ks => nkHash k :: nkHashes ks
end
/-- a dict with such keys: what its object is -/
def NDO (d : Addr) (gs : List (NestedKey × Addr × V)) : HO := .ext fun h => (d == sysModules) = false ∧ gs.length ≤ sizeLine ∧ ∃ xs : List (NestedKey × Addr × Value), Paired (fun (p : NestedKey × Addr × V) (q : NestedKey × Addr × Value) => q.1 = p.1 ∧ q.2.1 = p.2.1 ∧ RelV p.2.2 q.2.2) gs xs ∧
  ∃ o es ep, h.get? d = some o ∧ o.ExactDict ∧ o.data = .dict es ep ∧ es.toList = xs.map (fun x => ⟨nkHash x.1, .ref x.2.1, x.2.2⟩) ∧ (xs.map (·.1)).Nodup
/-- a lambda's words, the cells that it captured, its code object -/
structure LF where
  qual : Str
  params : Arguments
  body : Expr
  scope : Scope
  cl : List (Str × Addr)
  c : Addr
/-- a lambda made: its words, the values of its maker's slots -/
structure Clo where
  F : LF
  σ : L2.St
/-- the object at f is the lambda F -/
def LamO (f : Addr) (F : LF) : HO := .ext fun h => ∃ pm ctv : Value, h.get? f = some (PySem.W.kla_obj "<lambda>" F.qual F.params F.body F.scope F.cl pm F.c ctv)
/-- an object that may change; a lambda (s: the data of its maker's slots); a table of code objects -/
inductive MO where
  | lst (xs : List D)
  | ins (C dx : Addr) (fs : List (Str × D))
  | dK (kvs : List (Key × D))
  | dN (kvs : List (D × D))
  | clo (κ : Clo) (s : List (Option D))
  | tab (nm : Nat → Nat → Str)
abbrev Mem := Addr → Option MO
def updM (M : Mem) (a : Addr) (o : MO) : Mem := fun b => if b = a then some o else M b
theorem updM_same {M : Mem} {a : Addr} {o : MO} : updM M a o a = some o := if_pos rfl
theorem updM_ne {M : Mem} {a b : Addr} {o : MO} (h : b ≠ a) : updM M a o b = M b := if_neg h
theorem updM_updM {M : Mem} {a : Addr} {o u : MO} : updM (updM M a o) a u = updM M a u := by
  funext b; unfold updM; split <;> rfl
def delM (M : Mem) (a : Addr) : Mem := fun b => if b = a then none else M b
theorem delM_updM {M : Mem} {a : Addr} {o : MO} (h : M a = none) : delM (updM M a o) a = M := by
  funext b; unfold delM updM
  by_cases e : b = a
  · rw [if_pos e, e, h]
  · rw [if_neg e, if_neg e]

/-- the barred addresses: hidden ones, and those of objects that may change -/
def Bar (F : Addr → Prop) (M : Mem) (a : Addr) : Prop := F a ∨ ∃ o, M a = some o
/-- a list that stands still: the script, a list of the module's own -/
def SqF (K : PySem.W.Frag) (B : Addr → Prop) (H : Hp) (a : Addr) (xs : List V) : Prop := (H a = some (.lst xs) ∧ ¬ B a) ∨ (∃ o, H a = some (.frz o (.lst xs))) ∨
  ∃ (o : Obj) (its : Array Value) (n : Nat), K.lookup a = some o ∧ o.cls = .type "list" ∧ o.dict = none ∧ o.data = .seq its n ∧ its.size ≤ sizeLine ∧ Vals xs its.toList
theorem SqF.sql {K : PySem.W.Frag} {B : Addr → Prop} {H : Hp} {a : Addr} {xs : List V} (h : SqF K B H a xs) : SqL K H a xs := by
  rcases h with h | h | h
  · exact .inl (.inl h.1)
  · exact .inl (.inr h)
  · exact .inr h
mutual
inductive Rep (K : PySem.W.Frag) (B : Addr → Prop) (H : Hp) : V → D → Prop
  | non : Rep K B H .non .non
  | bl (b : Bool) : Rep K B H (.bl b) (.bl b)
  | int (i : Int) : Rep K B H (.int i) (.int i)
  | str (x : Str) : Rep K B H (.str x) (.str x)
  | tup {a : Addr} {xs : List V} {ds : List D} : SqT K H a xs → RepAll K B H xs ds → Rep K B H (.ref a) (.tup ds)
  | lst {a : Addr} {xs : List V} {ds : List D} : H a = some (.lst xs) → ¬ B a → RepAll K B H xs ds → Rep K B H (.ref a) (.lst ds)
  | fro {a : Addr} {xs : List V} {ds : List D} : SqF K B H a xs → RepAll K B H xs ds → Rep K B H (.ref a) (.fro ds)
  | ref (a : Addr) : Rep K B H (.ref a) (.ref a)
inductive RepAll (K : PySem.W.Frag) (B : Addr → Prop) (H : Hp) : List V → List D → Prop
  | nil : RepAll K B H [] []
  | cons {v : V} {vs : List V} {d : D} {ds : List D} : Rep K B H v d → RepAll K B H vs ds → RepAll K B H (v :: vs) (d :: ds)
end
def RepS (K : PySem.W.Frag) (B : Addr → Prop) (H : Hp) (σ : St) (δ : List (Option D)) : Prop :=
  σ.length = δ.length ∧ ∀ (i : Nat) (d : D), δ[i]? = some (some d) → ∃ v, σ[i]? = some (some v) ∧ Rep K B H v d
/-- an object that is no tuple -/
def NoTup (o : HO) : Prop := (∀ xs, o ≠ .tup xs) ∧ ∀ ob u, o ≠ .frz ob u
def RepO (K : PySem.W.Frag) (B : Addr → Prop) (H : Hp) (a : Addr) : MO → Prop
  | .lst ds => ∃ vs, H a = some (.lst vs) ∧ RepAll K B H vs ds
  | .ins C dx fs => ∃ gs, H a = some (.ins C dx gs) ∧ gs.map (·.1) = fs.map (·.1) ∧ RepAll K B H (gs.map (·.2)) (fs.map (·.2))
  | .dK kvs => ∃ gs, H a = some (.dK gs) ∧ gs.map (·.1) = kvs.map (·.1) ∧ RepAll K B H (gs.map (·.2)) (kvs.map (·.2))
  | .dN kvs => ∃ gs : List (NestedKey × Addr × V), H a = some (NDO a gs) ∧ RepAll K B H (gs.map fun g => V.ref g.2.1) (kvs.map (·.1)) ∧ RepAll K B H (gs.map (·.2.2)) (kvs.map (·.2)) ∧ kvs.map (fun p => nk p.1) = gs.map (fun g => some g.1) ∧ ∀ g ∈ gs, g.1.depth ≤ 8
  | .clo κ s => H a = some (LamO a κ.F) ∧ H κ.F.c = some (LamX.CodeO κ.F.c κ.F.qual) ∧ ¬ B κ.F.c ∧ RepS K B H κ.σ s
  | .tab nm => ∃ ps : Array Value, H a = some (.tbl ps) ∧ TriplesOk ps.toList ∧ ∀ (pos : Pos) (cv : Value), codeAmong pos ps.toList = some cv → ∃ c, cv = .ref c ∧ H c = some (LamX.CodeO c (nm pos.line pos.col)) ∧ ¬ B c
/-- the memory stands in the heap; the hidden objects are there -/
structure Wd (K : PySem.W.Frag) (F : Addr → Prop) (M : Mem) (H : Hp) : Prop where
  mem : ∀ a o, M a = some o → RepO K (Bar F M) H a o
  hid : ∀ a, F a → M a = none ∧ ∃ o, H a = some o ∧ NoTup o
/-- from one state to a later one -/
structure Ext (F : Addr → Prop) (M : Mem) (H : Hp) (M' : Mem) (H' : Hp) : Prop where
  keep : ∀ a o, H a = some o → (F a ∨ M a = none) → H' a = some o
  bar : ∀ a o, M' a = some o → (∃ o, M a = some o) ∨ H a = none
theorem Ext.refl (F : Addr → Prop) (M : Mem) (H : Hp) : Ext F M H M H := ⟨fun _ _ h _ => h, fun _ o h => .inl ⟨o, h⟩⟩
theorem Wd.tup {K : PySem.W.Frag} {F : Addr → Prop} {M : Mem} {H : Hp} (w : Wd K F M H) {a : Addr} {o : HO} (h : H a = some o) (n : ¬ NoTup o) : ¬ Bar F M a := by
  rintro (hf | ⟨m, hm⟩)
  · obtain ⟨_, u, e, nt⟩ := w.hid a hf
    rw [h] at e; cases e; exact n nt
  · have := w.mem a m hm
    cases m with
    | lst ds => obtain ⟨vs, e, _⟩ := this; rw [h] at e; cases e; exact n ⟨fun _ z => (by cases z), fun _ _ z => (by cases z)⟩
    | ins C dx fs => obtain ⟨gs, e, _⟩ := this; rw [h] at e; cases e; exact n ⟨fun _ z => (by cases z), fun _ _ z => (by cases z)⟩
    | dK kvs => obtain ⟨gs, e, _⟩ := this; rw [h] at e; cases e; exact n ⟨fun _ z => (by cases z), fun _ _ z => (by cases z)⟩
    | dN kvs => obtain ⟨gs, e, _⟩ := this; rw [h] at e; unfold NDO at e; cases e; exact n ⟨fun _ z => (by cases z), fun _ _ z => (by cases z)⟩
    | clo κ s => obtain ⟨e, _⟩ := this; rw [h] at e; unfold LamO at e; cases e; exact n ⟨fun _ z => (by cases z), fun _ _ z => (by cases z)⟩
    | tab nm => obtain ⟨ps, e, _⟩ := this; rw [h] at e; cases e; exact n ⟨fun _ z => (by cases z), fun _ _ z => (by cases z)⟩
theorem not_noTup_tup {xs : List V} : ¬ NoTup (.tup xs) := fun h => h.1 xs rfl
theorem not_noTup_frz {o : Obj} {u : HO} : ¬ NoTup (.frz o u) := fun h => h.2 o u rfl
theorem bar_none {F : Addr → Prop} {M : Mem} {a : Addr} (h : ¬ Bar F M a) : M a = none := by
  cases e : M a with
  | none => rfl
  | some o => exact absurd (.inr ⟨o, e⟩) h
theorem Ext.trans {F : Addr → Prop} {M M1 M2 : Mem} {H H1 H2 : Hp} {K : PySem.W.Frag} (w1 : Wd K F M1 H1) (a : Ext F M H M1 H1) (b : Ext F M1 H1 M2 H2) : Ext F M H M2 H2 where
  keep := fun c o h q => b.keep c o (a.keep c o h q) (by
    rcases q with q | q
    · exact .inl q
    · cases e : M1 c with
      | none => exact .inr rfl
      | some u =>
        rcases a.bar c u e with ⟨o', z⟩ | z
        · rw [q] at z; cases z
        · rw [h] at z; cases z)
  bar := fun c o h => by
    rcases b.bar c o h with ⟨u, z⟩ | z
    · exact a.bar c u z
    · cases e : H c with
      | none => exact .inr rfl
      | some u =>
        cases e2 : M c with
        | some m => exact .inl ⟨m, rfl⟩
        | none => rw [a.keep c u e (.inr e2)] at z; cases z
theorem SqT.ext {K : PySem.W.Frag} {F : Addr → Prop} {M M' : Mem} {H H' : Hp} {a : Addr} {xs : List V} (w : Wd K F M H) (e : Ext F M H M' H') (h : SqT K H a xs) : SqT K H' a xs := by
  rcases h with (h | ⟨o, h⟩) | h
  · exact .inl (.inl (e.keep _ _ h (.inr (bar_none (w.tup h not_noTup_tup)))))
  · exact .inl (.inr ⟨o, e.keep _ _ h (.inr (bar_none (w.tup h not_noTup_frz)))⟩)
  · exact .inr h
theorem Ext.nbar {F : Addr → Prop} {M M' : Mem} {H H' : Hp} {a : Addr} (e : Ext F M H M' H') (n : ¬ Bar F M a) (h : ∃ o, H a = some o) : ¬ Bar F M' a := by
  rintro (z | ⟨o, z⟩)
  · exact n (.inl z)
  · rcases e.bar a o z with z | z
    · exact n (.inr z)
    · obtain ⟨u, h⟩ := h; rw [h] at z; cases z
theorem SqT.st {K : PySem.W.Frag} {H H' : Hp} {a : Addr} {xs : List V} (k : ∀ a o, H a = some o → ¬ NoTup o → H' a = some o) (h : SqT K H a xs) : SqT K H' a xs := by
  rcases h with (h | ⟨o, h⟩) | h
  · exact .inl (.inl (k _ _ h not_noTup_tup))
  · exact .inl (.inr ⟨o, k _ _ h not_noTup_frz⟩)
  · exact .inr h
theorem SqF.ext {K : PySem.W.Frag} {F : Addr → Prop} {M M' : Mem} {H H' : Hp} {a : Addr} {xs : List V} (w : Wd K F M H) (e : Ext F M H M' H') (h : SqF K (Bar F M) H a xs) : SqF K (Bar F M') H' a xs := by
  rcases h with ⟨h, n⟩ | ⟨o, h⟩ | h
  · exact .inl ⟨e.keep _ _ h (.inr (bar_none n)), e.nbar n ⟨_, h⟩⟩
  · exact .inr (.inl ⟨o, e.keep _ _ h (.inr (bar_none (w.tup h not_noTup_frz)))⟩)
  · exact .inr (.inr h)
theorem SqF.st {K : PySem.W.Frag} {B B' : Addr → Prop} {H H' : Hp} {a : Addr} {xs : List V} (k : ∀ a o, H a = some o → (¬ B a ∨ ¬ NoTup o) → H' a = some o) (n : ∀ a, (∃ o, H a = some o) → ¬ B a → ¬ B' a) (h : SqF K B H a xs) : SqF K B' H' a xs := by
  rcases h with ⟨h, m⟩ | ⟨o, h⟩ | h
  · exact .inl ⟨k _ _ h (.inl m), n _ ⟨_, h⟩ m⟩
  · exact .inr (.inl ⟨o, k _ _ h (.inr not_noTup_frz)⟩)
  · exact .inr (.inr h)
theorem SqF.anti {K : PySem.W.Frag} {B B' : Addr → Prop} {H : Hp} {a : Addr} {xs : List V} (s : ∀ a, B' a → B a) (h : SqF K B H a xs) : SqF K B' H a xs := by
  rcases h with ⟨h, m⟩ | h
  · exact .inl ⟨h, fun z => m (s _ z)⟩
  · exact .inr h
mutual
/-- what data lean on: tuples and still lists, and lists that aren't barred -/
theorem Rep.st {K : PySem.W.Frag} {B B' : Addr → Prop} {H H' : Hp} (k : ∀ a o, H a = some o → (¬ B a ∨ ¬ NoTup o) → H' a = some o) (n : ∀ a, (∃ o, H a = some o) → ¬ B a → ¬ B' a) : ∀ (d : D) (v : V), Rep K B H v d → Rep K B' H' v d
  | .non, _, h => by cases h; exact .non
  | .bl _, _, h => by cases h; exact .bl _
  | .int _, _, h => by cases h; exact .int _
  | .str _, _, h => by cases h; exact .str _
  | .ref _, _, h => by cases h; exact .ref _
  | .tup ds, _, h => by
    cases h with
    | tup hs ha => exact .tup (SqT.st (fun a o h z => k a o h (.inr z)) hs) (RepAll.st k n ds _ ha)
  | .lst ds, _, h => by
    cases h with
    | lst hs nb ha => exact .lst (k _ _ hs (.inl nb)) (n _ ⟨_, hs⟩ nb) (RepAll.st k n ds _ ha)
  | .fro ds, _, h => by
    cases h with
    | fro hs ha => exact .fro (SqF.st k n hs) (RepAll.st k n ds _ ha)
theorem RepAll.st {K : PySem.W.Frag} {B B' : Addr → Prop} {H H' : Hp} (k : ∀ a o, H a = some o → (¬ B a ∨ ¬ NoTup o) → H' a = some o) (n : ∀ a, (∃ o, H a = some o) → ¬ B a → ¬ B' a) : ∀ (ds : List D) (vs : List V), RepAll K B H vs ds → RepAll K B' H' vs ds
  | [], _, h => by cases h; exact .nil
  | d :: ds, _, h => by
    cases h with
    | cons h1 h2 => exact .cons (Rep.st k n d _ h1) (RepAll.st k n ds _ h2)
end
theorem Ext.kst {K : PySem.W.Frag} {F : Addr → Prop} {M M' : Mem} {H H' : Hp} (w : Wd K F M H) (e : Ext F M H M' H') : ∀ a o, H a = some o → (¬ Bar F M a ∨ ¬ NoTup o) → H' a = some o := fun a o h q => e.keep a o h (.inr (bar_none (by
  rcases q with q | q
  · exact q
  · exact w.tup h q)))
theorem Ext.nst {F F' : Addr → Prop} {M M' : Mem} {H H' : Hp} (e : Ext F M H M' H') (hF : ∀ a, F' a → Bar F M a ∨ H a = none) : ∀ a, (∃ o, H a = some o) → ¬ Bar F M a → ¬ Bar F' M' a := fun a h n => by
  rintro (z | ⟨o, z⟩)
  · rcases hF a z with z | z
    · exact n z
    · obtain ⟨u, h⟩ := h; rw [h] at z; cases z
  · rcases e.bar a o z with z | z
    · exact n (.inr z)
    · obtain ⟨u, h⟩ := h; rw [h] at z; cases z
theorem Rep.extF {K : PySem.W.Frag} {F F' : Addr → Prop} {M M' : Mem} {H H' : Hp} (w : Wd K F M H) (e : Ext F M H M' H') (hF : ∀ a, F' a → Bar F M a ∨ H a = none) (d : D) (v : V) (h : Rep K (Bar F M) H v d) : Rep K (Bar F' M') H' v d := Rep.st (e.kst w) (e.nst hF) d v h
theorem RepAll.extF {K : PySem.W.Frag} {F F' : Addr → Prop} {M M' : Mem} {H H' : Hp} (w : Wd K F M H) (e : Ext F M H M' H') (hF : ∀ a, F' a → Bar F M a ∨ H a = none) (ds : List D) (vs : List V) (h : RepAll K (Bar F M) H vs ds) : RepAll K (Bar F' M') H' vs ds := RepAll.st (e.kst w) (e.nst hF) ds vs h
theorem Rep.ext {K : PySem.W.Frag} {F : Addr → Prop} {M M' : Mem} {H H' : Hp} (w : Wd K F M H) (e : Ext F M H M' H') (d : D) (v : V) (h : Rep K (Bar F M) H v d) : Rep K (Bar F M') H' v d := Rep.extF w e (fun _ h => .inl (.inl h)) d v h
theorem RepAll.ext {K : PySem.W.Frag} {F : Addr → Prop} {M M' : Mem} {H H' : Hp} (w : Wd K F M H) (e : Ext F M H M' H') (ds : List D) (vs : List V) (h : RepAll K (Bar F M) H vs ds) : RepAll K (Bar F M') H' vs ds := RepAll.extF w e (fun _ h => .inl (.inl h)) ds vs h
mutual
theorem Rep.anti {K : PySem.W.Frag} {B B' : Addr → Prop} {H : Hp} (s : ∀ a, B' a → B a) : ∀ (d : D) (v : V), Rep K B H v d → Rep K B' H v d
  | .non, _, h => by cases h; exact .non
  | .bl _, _, h => by cases h; exact .bl _
  | .int _, _, h => by cases h; exact .int _
  | .str _, _, h => by cases h; exact .str _
  | .ref _, _, h => by cases h; exact .ref _
  | .tup ds, _, h => by
    cases h with
    | tup hs ha => exact .tup hs (RepAll.anti s ds _ ha)
  | .lst ds, _, h => by
    cases h with
    | lst hs n ha => exact .lst hs (fun z => n (s _ z)) (RepAll.anti s ds _ ha)
  | .fro ds, _, h => by
    cases h with
    | fro hs ha => exact .fro (SqF.anti s hs) (RepAll.anti s ds _ ha)
theorem RepAll.anti {K : PySem.W.Frag} {B B' : Addr → Prop} {H : Hp} (s : ∀ a, B' a → B a) : ∀ (ds : List D) (vs : List V), RepAll K B H vs ds → RepAll K B' H vs ds
  | [], _, h => by cases h; exact .nil
  | d :: ds, _, h => by
    cases h with
    | cons h1 h2 => exact .cons (Rep.anti s d _ h1) (RepAll.anti s ds _ h2)
end
theorem RepAll.length {K : PySem.W.Frag} {B : Addr → Prop} {H : Hp} : ∀ {vs : List V} {ds : List D}, RepAll K B H vs ds → vs.length = ds.length
  | _, [], h => by cases h; rfl
  | _, _ :: ds, h => by
    cases h with
    | cons _ h2 => exact congrArg (· + 1) (RepAll.length h2)
theorem RepAll.get {K : PySem.W.Frag} {B : Addr → Prop} {H : Hp} : ∀ {vs : List V} {ds : List D} {i : Nat} {d : D}, RepAll K B H vs ds → ds[i]? = some d → ∃ v, vs[i]? = some v ∧ Rep K B H v d
  | _, [], _, _, _, e => by simp at e
  | _, x :: ds, 0, d, h, e => by
    cases h with
    | cons h1 h2 => simp at e; subst e; exact ⟨_, rfl, h1⟩
  | _, x :: ds, i + 1, d, h, e => by
    cases h with
    | cons h1 h2 =>
      obtain ⟨v, a, b⟩ := RepAll.get (i := i) (d := d) h2 (by simpa using e)
      exact ⟨v, by simpa using a, b⟩
theorem RepAll.append {K : PySem.W.Frag} {B : Addr → Prop} {H : Hp} : ∀ {vs us : List V} {ds es : List D}, RepAll K B H vs ds → RepAll K B H us es → RepAll K B H (vs ++ us) (ds ++ es)
  | _, _, [], _, h, g => by cases h; exact g
  | _, _, _ :: ds, _, h, g => by
    cases h with
    | cons h1 h2 => exact .cons h1 (RepAll.append h2 g)
theorem RepAll.drop {K : PySem.W.Frag} {B : Addr → Prop} {H : Hp} : ∀ (n : Nat) {vs : List V} {ds : List D}, RepAll K B H vs ds → RepAll K B H (vs.drop n) (ds.drop n)
  | 0, _, _, h => h
  | n + 1, _, [], h => by cases h; exact .nil
  | n + 1, _, _ :: ds, h => by
    cases h with
    | cons _ h2 => exact RepAll.drop n h2
theorem RepAll.take {K : PySem.W.Frag} {B : Addr → Prop} {H : Hp} : ∀ (n : Nat) {vs : List V} {ds : List D}, RepAll K B H vs ds → RepAll K B H (vs.take n) (ds.take n)
  | 0, _, _, h => .nil
  | n + 1, _, [], h => by cases h; exact .nil
  | n + 1, _, _ :: ds, h => by
    cases h with
    | cons h1 h2 => exact .cons h1 (RepAll.take n h2)
theorem RepAll.reverse {K : PySem.W.Frag} {B : Addr → Prop} {H : Hp} : ∀ {vs : List V} {ds : List D}, RepAll K B H vs ds → RepAll K B H vs.reverse ds.reverse
  | _, [], h => by cases h; exact .nil
  | _, _ :: ds, h => by
    cases h with
    | cons h1 h2 => rw [List.reverse_cons, List.reverse_cons]; exact RepAll.append (RepAll.reverse h2) (.cons h1 .nil)
theorem RepAll.set {K : PySem.W.Frag} {B : Addr → Prop} {H : Hp} {v : V} {d : D} (r : Rep K B H v d) : ∀ {vs : List V} {ds : List D} (i : Nat), RepAll K B H vs ds → RepAll K B H (vs.set i v) (ds.set i d)
  | _, [], _, h => by cases h; exact .nil
  | _, _ :: ds, 0, h => by
    cases h with
    | cons _ h2 => exact .cons r h2
  | _, _ :: ds, i + 1, h => by
    cases h with
    | cons h1 h2 => exact .cons h1 (RepAll.set r i h2)

/-! ### slots, wishes -/
/-- the slots' data, and what is wanted of an exception -/
structure DSt where
  s : List (Option D)
  x : Value → Mem → Prop
abbrev DK := D → Mem → Prop
abbrev DTE := DSt → Mem → DK → Prop
abbrev DTT := DSt → Mem → (Bool → Mem → Prop) → Prop
abbrev DTA := DSt → Mem → (List D → Mem → Prop) → Prop
structure DEnds where
  nx : DSt → Mem → Prop
  rt : DK
  bk : DSt → Mem → Prop := fun _ _ => False
  ct : DSt → Mem → Prop := fun _ _ => False
abbrev DTS := DEnds → DSt → Mem → Prop
theorem RepS.ext {K : PySem.W.Frag} {F : Addr → Prop} {M M' : Mem} {H H' : Hp} {σ : St} {δ : List (Option D)} (w : Wd K F M H) (e : Ext F M H M' H') (r : RepS K (Bar F M) H σ δ) : RepS K (Bar F M') H' σ δ :=
  ⟨r.1, fun i d h => let ⟨v, a, b⟩ := r.2 i d h; ⟨v, a, Rep.ext w e d v b⟩⟩
theorem RepS.st {K : PySem.W.Frag} {B B' : Addr → Prop} {H H' : Hp} (k : ∀ a o, H a = some o → (¬ B a ∨ ¬ NoTup o) → H' a = some o) (n : ∀ a, (∃ o, H a = some o) → ¬ B a → ¬ B' a) {σ : St} {δ : List (Option D)} (r : RepS K B H σ δ) : RepS K B' H' σ δ :=
  ⟨r.1, fun i d h => let ⟨v, a, b⟩ := r.2 i d h; ⟨v, a, Rep.st k n d v b⟩⟩
theorem RepS.anti {K : PySem.W.Frag} {B B' : Addr → Prop} {H : Hp} (s : ∀ a, B' a → B a) {σ : St} {δ : List (Option D)} (r : RepS K B H σ δ) : RepS K B' H σ δ :=
  ⟨r.1, fun i d h => let ⟨v, a, b⟩ := r.2 i d h; ⟨v, a, Rep.anti s d v b⟩⟩
theorem RepS.set {K : PySem.W.Frag} {B : Addr → Prop} {H : Hp} {σ : St} {δ : List (Option D)} {v : V} {d : D} (r : RepS K B H σ δ) (h : Rep K B H v d) (i : Nat) : RepS K B H (σ.set i (some v)) (δ.set i (some d)) := by
  refine ⟨by rw [List.length_set, List.length_set, r.1], fun j e q => ?_⟩
  by_cases hj : i = j
  · subst hj
    have hl : i < δ.length := by
      have := (List.getElem?_eq_some_iff.mp q).1
      rwa [List.length_set] at this
    rw [List.getElem?_set_self hl] at q
    cases q
    exact ⟨v, by rw [List.getElem?_set_self (by rw [r.1]; exact hl)], h⟩
  · rw [List.getElem?_set_ne hj] at q
    rw [List.getElem?_set_ne hj]
    exact r.2 j e q
/-- the state: slots, memory, heap -/
structure Sm (K : PySem.W.Frag) (F : Addr → Prop) (H : Hp) (σ : St) (δ : List (Option D)) (M : Mem) : Prop where
  sl : RepS K (Bar F M) H σ δ
  wd : Wd K F M H
theorem Sm.ext {K : PySem.W.Frag} {F : Addr → Prop} {M M' : Mem} {H H' : Hp} {σ : St} {δ : List (Option D)} (s : Sm K F H σ δ M) (w : Wd K F M' H') (e : Ext F M H M' H') : Sm K F H' σ δ M' := ⟨s.sl.ext s.wd e, w⟩

/-- an exception of the class C with a dict of its own is wished for as .int C -/
def XOk (x : Value → Mem → Prop) (cls : Value) (dd : Option Addr) (H : Hp) (M : Mem) : Prop :=
  (dd = none ∧ x cls M) ∨ ∃ (C d : Addr) (fs : List (Str × V)), cls = .ref C ∧ dd = some d ∧ H d = some (.xd fs) ∧ x (.int (C : Nat) 0) M
def LkX (K : PySem.W.Frag) (E : XK) (F : Addr → Prop) (M : Mem) (H : Hp) (x : Value → Mem → Prop) : Prop :=
  ∀ cls dd H' M', Wd K F M' H' → Ext F M H M' H' → XOk x cls dd H' M' → E cls dd H'
theorem xok_no {cls : Value} {dd : Option Addr} {H : Hp} {M : Mem} (h : XOk (fun _ _ => False) cls dd H M) : False := by
  rcases h with ⟨_, z⟩ | ⟨_, _, _, _, _, _, z⟩ <;> exact z
def liftE (K : PySem.W.Frag) (E : XK) (w : DTE) : TE := fun σ H Q' => ∃ F δ M Q, Sm K F H σ δ.s M ∧ LkX K E F M H δ.x ∧ w δ M Q ∧
  ∀ v H' d M', Rep K (Bar F M') H' v d → Wd K F M' H' → Ext F M H M' H' → Q d M' → Q' v H'
def liftT (K : PySem.W.Frag) (E : XK) (w : DTT) : TT := fun σ H Q' => ∃ F δ M Q, Sm K F H σ δ.s M ∧ LkX K E F M H δ.x ∧ w δ M Q ∧
  ∀ b H' M', Wd K F M' H' → Ext F M H M' H' → Q b M' → Q' b H'
def liftA (K : PySem.W.Frag) (E : XK) (w : DTA) : TA := fun σ H Q' => ∃ F δ M Q, Sm K F H σ δ.s M ∧ LkX K E F M H δ.x ∧ w δ M Q ∧
  ∀ vs H' ds M', RepAll K (Bar F M') H' vs ds → Wd K F M' H' → Ext F M H M' H' → Q ds M' → Q' vs H'
/-- a state's wish behind a statement -/
def LkN (K : PySem.W.Frag) (E : XK) (F : Addr → Prop) (M : Mem) (H : Hp) (x : Value → Mem → Prop) (n : DSt → Mem → Prop) (m : St → Hp → Prop) : Prop :=
  ∀ σ' H' δ' M', Sm K F H' σ' δ'.s M' → Ext F M H M' H' → δ'.x = x → n δ' M' → m σ' H'
structure LkD (K : PySem.W.Frag) (E : XK) (F : Addr → Prop) (M : Mem) (H : Hp) (x : Value → Mem → Prop) (Dd : DEnds) (Dh : Ends) : Prop where
  nx : LkN K E F M H x Dd.nx Dh.nx
  rt : ∀ v H' d M', Rep K (Bar F M') H' v d → Wd K F M' H' → Ext F M H M' H' → Dd.rt d M' → Dh.rt v H'
  bk : LkN K E F M H x Dd.bk Dh.bk
  ct : LkN K E F M H x Dd.ct Dh.ct
def liftS (K : PySem.W.Frag) (E : XK) (w : DTS) : TS := fun Dh σ H => ∃ F δ M Dd, Sm K F H σ δ.s M ∧ LkX K E F M H δ.x ∧ LkD K E F M H δ.x Dd Dh ∧ w Dd δ M
theorem LkX.ext {K : PySem.W.Frag} {E : XK} {F : Addr → Prop} {M M' : Mem} {H H' : Hp} {x : Value → Mem → Prop} (l : LkX K E F M H x) (w : Wd K F M' H') (e : Ext F M H M' H') : LkX K E F M' H' x :=
  fun cls dd H2 M2 w2 e2 q => l cls dd H2 M2 w2 (Ext.trans w e e2) q
theorem LkN.ext {K : PySem.W.Frag} {E : XK} {F : Addr → Prop} {M M' : Mem} {H H' : Hp} {x : Value → Mem → Prop} {n : DSt → Mem → Prop} {m : St → Hp → Prop} (l : LkN K E F M H x n m) (w : Wd K F M' H') (e : Ext F M H M' H') : LkN K E F M' H' x n m :=
  fun σ2 H2 δ2 M2 s e2 ex q => l σ2 H2 δ2 M2 s (Ext.trans w e e2) ex q
theorem LkD.ext {K : PySem.W.Frag} {E : XK} {F : Addr → Prop} {M M' : Mem} {H H' : Hp} {x : Value → Mem → Prop} {Dd : DEnds} {Dh : Ends} (l : LkD K E F M H x Dd Dh) (w : Wd K F M' H') (e : Ext F M H M' H') : LkD K E F M' H' x Dd Dh :=
  ⟨l.nx.ext w e, fun v H2 d M2 r w2 e2 q => l.rt v H2 d M2 r w2 (Ext.trans w e e2) q, l.bk.ext w e, l.ct.ext w e⟩

/-! ### judgements -/
abbrev DE (X : Cx) (E : XK) (e : Expr) (w : DTE) : Prop := PE X e (liftE X.K E w)
abbrev DT (X : Cx) (E : XK) (e : Expr) (w : DTT) : Prop := PT X e (liftT X.K E w)
abbrev DW (X : Cx) (E : XK) (e : Expr) (w : DTT) : Prop := PW X e (liftT X.K E w)
abbrev DA (X : Cx) (E : XK) (es : List Expr) (w : DTA) : Prop := PA X es (liftA X.K E w)
abbrev DS (X : Cx) (E : XK) (st : Stmt) (w : DTS) : Prop := PS X st (liftS X.K E w)
abbrev DSs (X : Cx) (E : XK) (st : List Stmt) (w : DTS) : Prop := PSs X st (liftS X.K E w)
theorem pe_mono {X : Cx} {e : Expr} {t t' : TE} (h : PE X e t) (m : ∀ σ H Q, t' σ H Q → t σ H Q) : PE X e t' := ⟨fun pins s σ H Q I q => h.run pins s σ H Q I (m σ H Q q)⟩
theorem pt_mono {X : Cx} {e : Expr} {t t' : TT} (h : PT X e t) (m : ∀ σ H Q, t' σ H Q → t σ H Q) : PT X e t' := ⟨fun pins s σ H Q I q => h.run pins s σ H Q I (m σ H Q q)⟩
theorem pw_mono {X : Cx} {e : Expr} {t t' : TT} (h : PW X e t) (m : ∀ σ H Q, t' σ H Q → t σ H Q) : PW X e t' := ⟨fun W pins s σ H Q I q => h.run W pins s σ H Q I (m σ H Q q)⟩
theorem pa_mono {X : Cx} {e : List Expr} {t t' : TA} (h : PA X e t) (m : ∀ σ H Q, t' σ H Q → t σ H Q) : PA X e t' := ⟨fun pos pins s σ H Q I q => h.run pos pins s σ H Q I (m σ H Q q)⟩
theorem ps_mono {X : Cx} {e : Stmt} {t t' : TS} (h : PS X e t) (m : ∀ D σ H, t' D σ H → t D σ H) : PS X e t' := ⟨fun pins s σ H D I q => h.run pins s σ H D I (m D σ H q)⟩
theorem pss_mono {X : Cx} {e : List Stmt} {t t' : TS} (h : PSs X e t) (m : ∀ D σ H, t' D σ H → t D σ H) : PSs X e t' := ⟨fun pins s σ H D I q => h.run pins s σ H D I (m D σ H q)⟩

/-- what a body's context has -/
structure DX (X : Cx) (E : XK) (k : Nat) : Prop where
  calm : X.calm = true
  po : PassesOwn (model X.prog X.w) X.A X.env X.xe
  pass : Passes (L2N.CX X.prog X.w) X E
  tk : L2N.Takes X fun cls d _ H => E cls d H
  nd : X.N.Nodup
  room : Room k X.A
abbrev E0 : XK := fun _ _ _ => False
theorem takes_false {X : Cx} : L2N.Takes X (fun _ _ _ _ => False) := fun _ _ x => by
  obtain ⟨_, _, _, _, _, _, _, _, _, _, _, _, _, _, _, _, z⟩ := x
  exact z.elim
theorem DX.blk {X : Cx} {E : XK} {k : Nat} (h : DX X E k) (s : Shared) (H : Hp) (scope : Scope) (cenv : Env) (fp : List Addr) : DX (X.blk s H scope cenv fp) E0 k where
  calm := h.calm
  po := PassesOwn.never
  pass := L2N.passes_call takes_false fun _ _ _ _ z => z
  tk := takes_false
  nd := h.nd
  room := h.room
theorem DX.mono {X : Cx} {E : XK} {j k : Nat} (h : DX X E k) (l : j ≤ k) : DX X E j := ⟨h.calm, h.po, h.pass, h.tk, h.nd, h.room.mono l⟩
/-- the built-in names are the built-ins -/
def Blt (mg : Str → Option Value) (x : Str) : Prop := mg x = none

section
variable {X : Cx} {E : XK} {k : Nat} {a b c e : Expr} {wa wb wc : DTE} {pos : Pos}

/-! ### names, constants -/
def wVar (i : Nat) : DTE := fun δ M Q => match δ.s[i]? with | some (some d) => Q d M | _ => False
theorem dv (i : Nat) {x : Str} {pos : Pos} (hN : X.N[i]? = some x := by rfl) (hv : Vis X.env.scope x := by first | exact Or.inl rfl | exact Or.inr (Or.inl rfl) | exact Or.inr (Or.inr rfl)) (hd : (x == ("__debug__" : Str)) = false := by decide)
    (hcd : (x == ("__classdict__" : Str)) = false := by decide) : DE X E (.Name x pos) (wVar i) := by
  refine pe_mono (pv i hN hv hd hcd) fun σ H Q' h => ?_
  obtain ⟨F, δ, M, Q, sm, lx, hw, lk⟩ := h
  unfold wVar at hw
  split at hw
  · rename_i d hd
    obtain ⟨v, h1, r⟩ := sm.sl.2 i d hd
    exact ⟨v, h1, lk v H d M r sm.wd (.refl _ _ _) hw⟩
  · exact hw.elim
def wC (d : D) : DTE := fun _ M Q => Q d M
theorem dc_of {v : V} {d : D} (h : PE X e (tC v)) (r : ∀ K B H, Rep K B H v d) : DE X E e (wC d) :=
  pe_mono h fun σ H Q' ⟨F, δ, M, Q, sm, lx, hw, lk⟩ => lk v H d M (r _ _ _) sm.wd (.refl _ _ _) hw
theorem dint {i j pos} : DE X E (.Constant (.int i) j pos) (wC (.int i)) := dc_of pe_int fun _ _ _ => .int _
theorem dbl {b j pos} : DE X E (.Constant (.bool b) j pos) (wC (.bl b)) := dc_of pe_bl fun _ _ _ => .bl _
theorem dnon {j pos} : DE X E (.Constant .none j pos) (wC .non) := dc_of pe_non fun _ _ _ => .non
theorem dstr {x j pos} : DE X E (.Constant (.str x) j pos) (wC (.str x)) := dc_of pe_str fun _ _ _ => .str _
/-- a global constant -/
theorem dglob {x : Str} {pos : Pos} {u : Value} {v : V} {d : D} (hg : Gl X x) (hm : X.mg x = some u) (r : RelV v u) (rd : ∀ K B H, Rep K B H v d) (hdb : (x == ("__debug__" : Str)) = false := by decide) : DE X E (.Name x pos) (wC d) := dc_of (pe_glob hg hm r hdb) rd

/-! ### argument lists -/
def wNil : DTA := fun _ M Q => Q [] M
def wCons (wa : DTE) (wr : DTA) : DTA := fun δ M Q => wa δ M fun d M1 => wr δ M1 fun ds M2 => Q (d :: ds) M2
theorem da_nil : DA X E [] wNil := pa_mono pa_nil fun σ H Q' ⟨F, δ, M, Q, sm, lx, hw, lk⟩ => lk [] H [] M .nil sm.wd (.refl _ _ _) hw
theorem da_cons {es : List Expr} {wr : DTA} (ha : DE X E e wa) (hr : DA X E es wr) (hs : starEach (e :: es) X.env = (false, eval e X.env) :: starEach es X.env := by rfl) : DA X E (e :: es) (wCons wa wr) := by
  refine pa_mono (pa_cons ha hr hs) fun σ H Q' ⟨F, δ, M, Q, sm, lx, hw, lk⟩ => ?_
  refine ⟨F, δ, M, _, sm, lx, hw, fun v H1 d M1 r1 w1 e1 q1 => ?_⟩
  refine ⟨F, δ, M1, _, sm.ext w1 e1, lx.ext w1 e1, q1, fun vs H2 ds M2 r2 w2 e2 q2 => ?_⟩
  exact lk (v :: vs) H2 (d :: ds) M2 (.cons (Rep.ext w1 e2 d v r1) r2) w2 (Ext.trans w1 e1 e2) q2

/-! ### two and one operands, by values -/
abbrev DR2 := D → D → Mem → DK → Prop
/-- what the reading r of an operation gives for data -/
def OkR (K : PySem.W.Frag) (r : R2) (w : DR2) : Prop := ∀ F M H x y d1 d2 (Q : DK) (Q' : VK), Wd K F M H → Rep K (Bar F M) H x d1 → Rep K (Bar F M) H y d2 → w d1 d2 M Q →
  (∀ v H' d M', Rep K (Bar F M') H' v d → Wd K F M' H' → Ext F M H M' H' → Q d M' → Q' v H') → r x y H Q'
def wOp (w : DR2) (wa wb : DTE) : DTE := fun δ M Q => wa δ M fun x M1 => wb δ M1 fun y M2 => w x y M2 Q
theorem lift_op {K : PySem.W.Frag} {r : R2} {w : DR2} (ok : OkR K r w) {σ : St} {H : Hp} {Q' : VK} (h : liftE K E (wOp w wa wb) σ H Q') : tOp r (liftE K E wa) (liftE K E wb) σ H Q' := by
  obtain ⟨F, δ, M, Q, sm, lx, hw, lk⟩ := h
  refine ⟨F, δ, M, _, sm, lx, hw, fun v H1 d M1 r1 w1 e1 q1 => ?_⟩
  refine ⟨F, δ, M1, _, sm.ext w1 e1, lx.ext w1 e1, q1, fun u H2 d2 M2 r2 w2 e2 q2 => ?_⟩
  exact ok F M2 H2 v u d d2 Q Q' w2 (Rep.ext w1 e2 d v r1) r2 q2 fun v' H' d' M' r3 w3 e3 q3 => lk v' H' d' M' r3 w3 (Ext.trans w1 e1 (Ext.trans w2 e2 e3)) q3
theorem de_op {op : Operator} {r : R2} {w : DR2} (ho : OpR X (binaryOp op) r) (ok : OkR X.K r w) (ha : DE X E a wa) (hb : DE X E b wb) : DE X E (.BinOp a op b pos) (wOp w wa wb) :=
  pe_mono (pe_op ho ha hb) fun _ _ _ h => lift_op ok h
theorem de_cmp {op : CmpOp} {r : R2} {w : DR2} (ho : OpR X (compareOp op) r) (ok : OkR X.K r w) (ha : DE X E a wa) (hb : DE X E b wb) (hm : behindInMarks op b = false) : DE X E (.Compare a [op] [b] pos) (wOp w wa wb) :=
  pe_mono (pe_cmpR ho ha hb hm) fun _ _ _ h => lift_op ok h
/-- a value as a test -/
def wTest (w : DTE) : DTT := fun δ M Q => w δ M fun d M1 => match d with | .bl k => Q k M1 | _ => False
theorem lift_test {K : PySem.W.Frag} {w : DTE} {σ : St} {H : Hp} {Q' : Bool → Hp → Prop} (h : liftT K E (wTest w) σ H Q') : tTest (liftE K E w) σ H Q' := by
  obtain ⟨F, δ, M, Q, sm, lx, hw, lk⟩ := h
  refine ⟨F, δ, M, _, sm, lx, hw, fun v H1 d M1 r1 w1 e1 q1 => ?_⟩
  cases d with
  | bl k => cases r1; exact ⟨k, rfl, lk k H1 M1 w1 e1 q1⟩
  | _ => exact (show False from q1).elim
theorem dt_cmp {op : CmpOp} {r : R2} {w : DR2} (ho : OpR X (compareOp op) r) (ok : OkR X.K r w) (ha : DE X E a wa) (hb : DE X E b wb) (hm : behindInMarks op b = false) : DT X E (.Compare a [op] [b] pos) (wTest (wOp w wa wb)) :=
  pt_mono (pt_cmpR ho ha hb hm) fun σ H Q' h => by
    obtain ⟨F, δ, M, Q, sm, lx, hw, lk⟩ := lift_test h
    exact lift_op ok ⟨F, δ, M, Q, sm, lx, hw, lk⟩
end
end Bx

set_option Elab.async false
set_option linter.all false
set_option maxRecDepth 100000
set_option maxHeartbeats 2000000
namespace Bx
open PySem PySem.Spec L2
open PyProof.Rows hiding St

/-! ### equality of data -/
mutual
/-- == -/
def D.eqv : D → D → Bool
  | .non, .non => true
  | .bl a, .bl b => a == b
  | .bl a, .int j => (if a then 1 else 0) == j
  | .int i, .bl b => i == (if b then 1 else 0)
  | .int i, .int j => i == j
  | .str x, .str y => x == y
  | .lst xs, .lst ys => D.eqvAll xs ys
  | .tup xs, .tup ys => D.eqvAll xs ys
  | _, _ => false
def D.eqvAll : List D → List D → Bool
  | [], [] => true
  | x :: xs, y :: ys => D.eqv x y && D.eqvAll xs ys
  | _, _ => false
end
mutual
/-- no ref, texts of true signs, at most n deep -/
def D.fit : Nat → D → Bool
  | _, .non | _, .bl _ | _, .int _ => true
  | _, .str x => PyData.strOk x
  | n + 1, .tup xs | n + 1, .lst xs => D.fitAll n xs
  | _, _ => false
def D.fitAll : Nat → List D → Bool
  | _, [] => true
  | n, x :: xs => D.fit n x && D.fitAll n xs
end
mutual
def D.py : D → PyData
  | .non => .none
  | .bl b => .bool b
  | .int i => .int i
  | .str x => .str x
  | .tup xs => .tuple (D.pyAll xs)
  | .lst xs => .list (D.pyAll xs)
  | .fro xs => .list (D.pyAll xs)
  | .ref _ => .none
def D.pyAll : List D → List PyData
  | [] => []
  | x :: xs => D.py x :: D.pyAll xs
end
mutual
theorem D.py_fit : ∀ (n : Nat) (d : D), D.fit n d = true → (D.py d).canLay0 = true ∧ (D.py d).depth ≤ n
  | n, .non, _ => by simp [D.py, PyData.canLay0, PyData.depth]
  | n, .bl _, _ => by simp [D.py, PyData.canLay0, PyData.depth]
  | n, .int _, _ => by simp [D.py, PyData.canLay0, PyData.depth]
  | n, .str x, h => by
    have h' : PyData.strOk x = true := by simpa [D.fit] using h
    simp [D.py, PyData.canLay0, PyData.depth, h']
  | n + 1, .tup xs, h => by
    have h' := D.py_fitAll n xs (by simpa [D.fit] using h)
    simp only [D.py, PyData.canLay0, PyData.depth]
    exact ⟨h'.1, by omega⟩
  | n + 1, .lst xs, h => by
    have h' := D.py_fitAll n xs (by simpa [D.fit] using h)
    simp only [D.py, PyData.canLay0, PyData.depth]
    exact ⟨h'.1, by omega⟩
  | 0, .tup xs, h => by simp [D.fit] at h
  | 0, .lst xs, h => by simp [D.fit] at h
  | 0, .fro xs, h => by simp [D.fit] at h
  | n + 1, .fro xs, h => by simp [D.fit] at h
  | 0, .ref xs, h => by simp [D.fit] at h
  | n + 1, .ref xs, h => by simp [D.fit] at h
theorem D.py_fitAll : ∀ (n : Nat) (ds : List D), D.fitAll n ds = true → PyData.canLayAll0 (D.pyAll ds) = true ∧ PyData.depthAll (D.pyAll ds) ≤ n
  | n, [], _ => by simp [D.pyAll, PyData.canLayAll0, PyData.depthAll]
  | n, x :: xs, h => by
    have h' : D.fit n x = true ∧ D.fitAll n xs = true := by simpa [D.fitAll] using h
    have h1 := D.py_fit n x h'.1
    have h2 := D.py_fitAll n xs h'.2
    simp only [D.pyAll, PyData.canLayAll0, PyData.depthAll, h1.1, h2.1, Bool.and_self, true_and]
    omega
end
mutual
theorem D.eqv_py : ∀ (n : Nat) (x y : D), D.fit n x = true → D.fit n y = true → PyData.eqv (D.py x) (D.py y) = D.eqv x y
  | n, .non, y, hx, hy => by cases y <;> first | (simp [D.py, D.eqv, PyData.eqv]; done) | (cases n <;> simp [D.fit] at hy)
  | n, .bl b, y, hx, hy => by cases y <;> first | (simp [D.py, D.eqv, PyData.eqv]; done) | (cases n <;> simp [D.fit] at hy)
  | n, .int b, y, hx, hy => by cases y <;> first | (simp [D.py, D.eqv, PyData.eqv]; done) | (cases n <;> simp [D.fit] at hy)
  | n, .str b, y, hx, hy => by cases y <;> first | (simp [D.py, D.eqv, PyData.eqv]; done) | (cases n <;> simp [D.fit] at hy)
  | 0, .tup xs, y, hx, hy => by simp [D.fit] at hx
  | 0, .lst xs, y, hx, hy => by simp [D.fit] at hx
  | n + 1, .tup xs, y, hx, hy => by
    cases y with
    | tup ys =>
      simp only [D.py, D.eqv, PyData.eqv]
      exact D.eqv_pyAll n xs ys (by simpa [D.fit] using hx) (by simpa [D.fit] using hy)
    | _ => first | (simp [D.py, D.eqv, PyData.eqv]; done) | simp [D.fit] at hy
  | n + 1, .lst xs, y, hx, hy => by
    cases y with
    | lst ys =>
      simp only [D.py, D.eqv, PyData.eqv]
      exact D.eqv_pyAll n xs ys (by simpa [D.fit] using hx) (by simpa [D.fit] using hy)
    | _ => first | (simp [D.py, D.eqv, PyData.eqv]; done) | simp [D.fit] at hy
  | n, .fro xs, y, hx, hy => by cases n <;> simp [D.fit] at hx
  | n, .ref xs, y, hx, hy => by cases n <;> simp [D.fit] at hx
theorem D.eqv_pyAll : ∀ (n : Nat) (xs ys : List D), D.fitAll n xs = true → D.fitAll n ys = true → PyData.eqvAll (D.pyAll xs) (D.pyAll ys) = D.eqvAll xs ys
  | n, [], [], _, _ => by simp [D.pyAll, D.eqvAll, PyData.eqvAll]
  | n, [], y :: ys, _, _ => by simp [D.pyAll, D.eqvAll, PyData.eqvAll]
  | n, x :: xs, [], _, _ => by simp [D.pyAll, D.eqvAll, PyData.eqvAll]
  | n, x :: xs, y :: ys, hx, hy => by
    have hx' : D.fit n x = true ∧ D.fitAll n xs = true := by simpa [D.fitAll] using hx
    have hy' : D.fit n y = true ∧ D.fitAll n ys = true := by simpa [D.fitAll] using hy
    simp only [D.pyAll, D.eqvAll, PyData.eqvAll, D.eqv_py n x y hx'.1 hy'.1, D.eqv_pyAll n xs ys hx'.2 hy'.2]
end
theorem D.shaped {d : D} (h : D.fit 64 d = true) : SeqAt.shaped (D.py d) = true := by
  obtain ⟨a, b⟩ := D.py_fit 64 d h
  unfold SeqAt.shaped
  rw [a, decide_eq_true b]; rfl
mutual
theorem Rep.dp {K : PySem.W.Frag} {B : Addr → Prop} {H : Hp} : ∀ (n : Nat) (d : D) (v : V), D.fit n d = true → Rep K B H v d → Dp K H v (D.py d)
  | n, .non, _, _, h => by cases h; simp only [D.py]; exact .non
  | n, .bl b, _, _, h => by cases h; simp only [D.py]; exact .bl b
  | n, .int b, _, _, h => by cases h; simp only [D.py]; exact .int b
  | n, .str b, _, _, h => by cases h; simp only [D.py]; exact .str b
  | n + 1, .tup ds, _, hf, h => by
    cases h with
    | tup hs ha => simp only [D.py]; exact .tup hs (RepAll.dp n ds _ (by simpa [D.fit] using hf) ha)
  | n + 1, .lst ds, _, hf, h => by
    cases h with
    | lst hs _ ha => simp only [D.py]; exact .lst (.of hs) (RepAll.dp n ds _ (by simpa [D.fit] using hf) ha)
  | 0, .tup xs, _, h, _ => by simp [D.fit] at h
  | 0, .lst xs, _, h, _ => by simp [D.fit] at h
  | n, .fro xs, _, h, _ => by cases n <;> simp [D.fit] at h
  | n, .ref xs, _, h, _ => by cases n <;> simp [D.fit] at h
theorem RepAll.dp {K : PySem.W.Frag} {B : Addr → Prop} {H : Hp} : ∀ (n : Nat) (ds : List D) (vs : List V), D.fitAll n ds = true → RepAll K B H vs ds → DpAll K H vs (D.pyAll ds)
  | n, [], _, _, h => by cases h; simp only [D.pyAll]; exact .nil
  | n, d :: ds, _, hf, h => by
    have hf' : D.fit n d = true ∧ D.fitAll n ds = true := by simpa [D.fitAll] using hf
    cases h with
    | cons h1 h2 => simp only [D.pyAll]; exact .cons (Rep.dp n d _ hf'.1 h1) (RepAll.dp n ds _ hf'.2 h2)
end

/-! ### new objects -/
theorem Wd.fresh {K : PySem.W.Frag} {F : Addr → Prop} {M : Mem} {H : Hp} {p : Addr} (w : Wd K F M H) (n : H p = none) : ¬ Bar F M p := by
  rintro (hf | ⟨m, hm⟩)
  · obtain ⟨_, u, e, _⟩ := w.hid p hf
    rw [n] at e; cases e
  · have := w.mem p m hm
    cases m with
    | lst ds => obtain ⟨vs, e, _⟩ := this; rw [n] at e; cases e
    | ins C dx fs => obtain ⟨gs, e, _⟩ := this; rw [n] at e; cases e
    | dK kvs => obtain ⟨gs, e, _⟩ := this; rw [n] at e; cases e
    | dN kvs => obtain ⟨gs, e, _⟩ := this; rw [n] at e; cases e
    | clo κ s => obtain ⟨e, _⟩ := this; rw [n] at e; cases e
    | tab nm => obtain ⟨ps, e, _⟩ := this; rw [n] at e; cases e
theorem RepO.ext {K : PySem.W.Frag} {F : Addr → Prop} {M M' : Mem} {H H' : Hp} {a : Addr} {m : MO} (w : Wd K F M H) (e : Ext F M H M' H') (s : ∀ o, H a = some o → H' a = some o) (h : RepO K (Bar F M) H a m) : RepO K (Bar F M') H' a m := by
  cases m with
  | lst ds => obtain ⟨vs, q, r⟩ := h; exact ⟨vs, s _ q, RepAll.ext w e _ _ r⟩
  | ins C dx fs => obtain ⟨gs, q, e1, r⟩ := h; exact ⟨gs, s _ q, e1, RepAll.ext w e _ _ r⟩
  | dK kvs => obtain ⟨gs, q, e1, r⟩ := h; exact ⟨gs, s _ q, e1, RepAll.ext w e _ _ r⟩
  | dN kvs => obtain ⟨gs, q, r1, r2, e1, e2⟩ := h; exact ⟨gs, s _ q, RepAll.ext w e _ _ r1, RepAll.ext w e _ _ r2, e1, e2⟩
  | clo κ t => obtain ⟨q1, q2, q3, r⟩ := h; exact ⟨s _ q1, e.keep _ _ q2 (.inr (bar_none q3)), e.nbar q3 ⟨_, q2⟩, RepS.ext w e r⟩
  | tab nm =>
    obtain ⟨ps, q1, q2, q3⟩ := h
    refine ⟨ps, s _ q1, q2, fun pos cv hc => ?_⟩
    obtain ⟨c, e1, e2, e3⟩ := q3 pos cv hc
    exact ⟨c, e1, e.keep _ _ e2 (.inr (bar_none e3)), e.nbar e3 ⟨_, e2⟩⟩
theorem ext_laid {F : Addr → Prop} {M : Mem} {H : Hp} {p : Addr} {o : HO} (n : H p = none) : Ext F M H M (upd H p o) :=
  ⟨fun a u h _ => by rw [upd_ne (ne_of_none h n)]; exact h, fun a u h => .inl ⟨u, h⟩⟩
theorem Wd.laid {K : PySem.W.Frag} {F : Addr → Prop} {M : Mem} {H : Hp} {p : Addr} {o : HO} (w : Wd K F M H) (n : H p = none) : Wd K F M (upd H p o) where
  mem := fun a m h => RepO.ext w (ext_laid n) (fun u q => by rw [upd_ne (ne_of_none q n)]; exact q) (w.mem a m h)
  hid := fun a h => by
    obtain ⟨h1, u, e, nt⟩ := w.hid a h
    exact ⟨h1, u, by rw [upd_ne (ne_of_none e n)]; exact e, nt⟩
theorem Rep.newTup {K : PySem.W.Frag} {F : Addr → Prop} {M : Mem} {H : Hp} {p : Addr} {vs : List V} {ds : List D} (w : Wd K F M H) (n : H p = none) (r : RepAll K (Bar F M) H vs ds) : Rep K (Bar F M) (upd H p (.tup vs)) (.ref p) (.tup ds) :=
  .tup (SqT.of upd_same) (RepAll.ext w (ext_laid n) ds vs r)
theorem Rep.newLst {K : PySem.W.Frag} {F : Addr → Prop} {M : Mem} {H : Hp} {p : Addr} {vs : List V} {ds : List D} (w : Wd K F M H) (n : H p = none) (r : RepAll K (Bar F M) H vs ds) : Rep K (Bar F M) (upd H p (.lst vs)) (.ref p) (.lst ds) :=
  .lst upd_same (w.fresh n) (RepAll.ext w (ext_laid n) ds vs r)
/-- a new list that may change -/
theorem ext_laidM {F : Addr → Prop} {M : Mem} {H : Hp} {p : Addr} {o : HO} {m : MO} (n : H p = none) : Ext F M H (updM M p m) (upd H p o) :=
  ⟨fun a u h _ => by rw [upd_ne (ne_of_none h n)]; exact h, fun a u h => by
    by_cases e : a = p
    · subst e; exact .inr n
    · rw [updM_ne e] at h; exact .inl ⟨u, h⟩⟩
theorem Wd.noM {K : PySem.W.Frag} {F : Addr → Prop} {M : Mem} {H : Hp} {p : Addr} (w : Wd K F M H) (n : H p = none) : M p = none := bar_none (w.fresh n)
theorem Wd.laidM {K : PySem.W.Frag} {F : Addr → Prop} {M : Mem} {H : Hp} {p : Addr} {o : HO} {m : MO} (w : Wd K F M H) (n : H p = none) (r : RepO K (Bar F (updM M p m)) (upd H p o) p m) : Wd K F (updM M p m) (upd H p o) where
  mem := fun a u h => by
    by_cases e : a = p
    · subst e; rw [updM_same] at h; cases h; exact r
    · rw [updM_ne e] at h
      exact RepO.ext w (ext_laidM n) (fun u q => by rw [upd_ne (ne_of_none q n)]; exact q) (w.mem a u h)
  hid := fun a h => by
    obtain ⟨h1, u, e, nt⟩ := w.hid a h
    have ne := ne_of_none e n
    exact ⟨by rw [updM_ne ne]; exact h1, u, by rw [upd_ne ne]; exact e, nt⟩
/-- an object that may change is written -/
theorem ext_write {F : Addr → Prop} {M : Mem} {H : Hp} {p : Addr} {o : HO} {m m' : MO} (h : M p = some m) (nf : ¬ F p) : Ext F M H (updM M p m') (upd H p o) :=
  ⟨fun a u q r => by
    rw [upd_ne (fun e => by subst e; rcases r with r | r; exact nf r; rw [h] at r; cases r)]; exact q, fun a u q => by
    by_cases e : a = p
    · subst e; exact .inl ⟨m, h⟩
    · rw [updM_ne e] at q; exact .inl ⟨u, q⟩⟩
theorem Wd.nf {K : PySem.W.Frag} {F : Addr → Prop} {M : Mem} {H : Hp} {p : Addr} {m : MO} (w : Wd K F M H) (h : M p = some m) : ¬ F p := fun f => by
  rw [(w.hid p f).1] at h; cases h
theorem Wd.write {K : PySem.W.Frag} {F : Addr → Prop} {M : Mem} {H : Hp} {p : Addr} {o : HO} {m m' : MO} (w : Wd K F M H) (h : M p = some m) (r : RepO K (Bar F (updM M p m')) (upd H p o) p m') : Wd K F (updM M p m') (upd H p o) where
  mem := fun a u q => by
    by_cases e : a = p
    · subst e; rw [updM_same] at q; cases q; exact r
    · rw [updM_ne e] at q
      exact RepO.ext w (ext_write h (w.nf h)) (fun u z => by rw [upd_ne e]; exact z) (w.mem a u q)
  hid := fun a q => by
    obtain ⟨h1, u, e, nt⟩ := w.hid a q
    have ne : a ≠ p := fun z => by subst z; rw [h] at h1; cases h1
    exact ⟨by rw [updM_ne ne]; exact h1, u, by rw [upd_ne ne]; exact e, nt⟩

/-! ### sequences by values -/
def moL : Option MO → Option (List D)
  | some (.lst ds) => some ds
  | _ => none
theorem moL_some {o : Option MO} {ds : List D} (h : moL o = some ds) : o = some (.lst ds) := by
  unfold moL at h
  split at h
  · cases h; rfl
  · cases h
/-- the items of a list or tuple -/
def sq (M : Mem) : D → Option (List D)
  | .tup ds => some ds
  | .lst ds => some ds
  | .fro ds => some ds
  | .ref a => moL (M a)
  | _ => none
theorem Rep.sq {K : PySem.W.Frag} {F : Addr → Prop} {M : Mem} {H : Hp} {v : V} {d : D} {ds : List D} (w : Wd K F M H) (r : Rep K (Bar F M) H v d) (h : Bx.sq M d = some ds) :
    ∃ a xs, v = .ref a ∧ (SqL K H a xs ∨ SqT K H a xs) ∧ RepAll K (Bar F M) H xs ds := by
  cases d with
  | tup es => cases h; cases r with | tup hs ha => exact ⟨_, _, rfl, .inr hs, ha⟩
  | lst es => cases h; cases r with | lst hs _ ha => exact ⟨_, _, rfl, .inl (.of hs), ha⟩
  | fro es => cases h; cases r with | fro hs ha => exact ⟨_, _, rfl, .inl hs.sql, ha⟩
  | ref a =>
    cases r
    obtain ⟨vs, q, ra⟩ := w.mem a _ (moL_some h)
    exact ⟨_, _, rfl, .inl (.of q), ra⟩
  | _ => cases h
/-- of a list only -/
def sqL (M : Mem) : D → Option (List D)
  | .lst ds => some ds
  | .fro ds => some ds
  | .ref a => moL (M a)
  | _ => none
theorem Rep.sqL {K : PySem.W.Frag} {F : Addr → Prop} {M : Mem} {H : Hp} {v : V} {d : D} {ds : List D} (w : Wd K F M H) (r : Rep K (Bar F M) H v d) (h : Bx.sqL M d = some ds) :
    ∃ a xs, v = .ref a ∧ SqL K H a xs ∧ RepAll K (Bar F M) H xs ds := by
  cases d with
  | lst es => cases h; cases r with | lst hs _ ha => exact ⟨_, _, rfl, .of hs, ha⟩
  | fro es => cases h; cases r with | fro hs ha => exact ⟨_, _, rfl, hs.sql, ha⟩
  | ref a =>
    cases r
    obtain ⟨vs, q, ra⟩ := w.mem a _ (moL_some h)
    exact ⟨_, _, rfl, .of q, ra⟩
  | _ => cases h
theorem atI_rep {K : PySem.W.Frag} {B : Addr → Prop} {H : Hp} {vs : List V} {ds : List D} {i : Int} {d : D} (r : RepAll K B H vs ds) (h : atI ds i = some d) : ∃ v, atI vs i = some v ∧ Rep K B H v d := by
  unfold atI at h ⊢
  rw [r.length]
  cases e : ixN ds.length i with
  | none => rw [e] at h; cases h
  | some j =>
    rw [e] at h
    exact r.get h

section
variable {X : Cx} {E : XK} {k : Nat} {a b c e : Expr} {wa wb wc : DTE} {pos : Pos}

/-! ### arithmetic -/
theorem OkR.or {K : PySem.W.Frag} {r r' : R2} {w w' : DR2} (h : OkR K r w) (h' : OkR K r' w') : OkR K (fun x y H Q => r x y H Q ∨ r' x y H Q) (fun x y M Q => w x y M Q ∨ w' x y M Q) := by
  intro F M H x y d1 d2 Q Q' wd r1 r2 hw lk
  rcases hw with hw | hw
  · exact .inl (h F M H x y d1 d2 Q Q' wd r1 r2 hw lk)
  · exact .inr (h' F M H x y d1 d2 Q Q' wd r1 r2 hw lk)
theorem OkR.imp {K : PySem.W.Frag} {r : R2} {w w' : DR2} (h : OkR K r w) (m : ∀ x y M Q, w' x y M Q → w x y M Q) : OkR K r w' := fun F M H x y d1 d2 Q Q' wd r1 r2 hw lk => h F M H x y d1 d2 Q Q' wd r1 r2 (m _ _ _ _ hw) lk
/-- ints in, an int (or a bool) out -/
def wI (C : Int → Int → Prop) (g : Int → Int → D) : DR2 := fun x y M Q => match x, y with | .int i, .int j => C i j ∧ Q (g i j) M | _, _ => False
theorem okI {K : PySem.W.Frag} {C : Int → Int → Prop} {g : Int → Int → V} {gd : Int → Int → D} (hg : ∀ i j B H, Rep K B H (g i j) (gd i j)) : OkR K (rI C g) (wI C gd) := by
  intro F M H x y d1 d2 Q Q' wd r1 r2 hw lk
  cases d1 with
  | int i =>
    cases d2 with
    | int j => cases r1; cases r2; exact ⟨i, j, rfl, rfl, hw.1, lk _ H _ M (hg i j _ _) wd (.refl _ _ _) hw.2⟩
    | _ => exact (show False from hw).elim
  | _ => exact (show False from hw).elim
def wI0 (g : Int → Int → D) : DR2 := fun x y M Q => match x, y with | .int i, .int j => Q (g i j) M | _, _ => False
theorem okI0 {K : PySem.W.Frag} {g : Int → Int → V} {gd : Int → Int → D} (hg : ∀ i j B H, Rep K B H (g i j) (gd i j)) : OkR K (rI0 g) (wI0 gd) := by
  intro F M H x y d1 d2 Q Q' wd r1 r2 hw lk
  cases d1 with
  | int i =>
    cases d2 with
    | int j => cases r1; cases r2; exact ⟨i, j, rfl, rfl, lk _ H _ M (hg i j _ _) wd (.refl _ _ _) hw⟩
    | _ => exact (show False from hw).elim
  | _ => exact (show False from hw).elim
/-- + -/
def wAddV : DR2 := fun x y M Q => match x, y with
  | .int i, .int j => Q (.int (i + j)) M
  | .str i, .str j => i.length + j.length ≤ sizeLine ∧ Q (.str (i ++ j)) M
  | .tup i, .tup j => i.length + j.length ≤ sizeLine ∧ Q (.tup (i ++ j)) M
  | .lst i, .lst j => i.length + j.length ≤ sizeLine ∧ Q (.lst (i ++ j)) M
  | _, _ => False
def rAddV (K : PySem.W.Frag) : R2 := fun x y H Q => (rI0 (fun i j => .int (i + j)) x y H Q ∨ (∃ i j, x = .str i ∧ y = .str j ∧ i.length + j.length ≤ sizeLine ∧ Q (.str (i ++ j)) H)) ∨ (rCatA K x y H Q ∨ rCat x y H Q)
theorem op_addV : OpR X (binaryOp .Add) (rAddV X.K) := (op_add.or op_add_str).or (op_catA.or op_cat)
theorem ok_addV {K : PySem.W.Frag} : OkR K (rAddV K) wAddV := by
  intro F M H x y d1 d2 Q Q' wd r1 r2 hw lk
  cases d1 with
  | int i => cases d2 with
    | int j => cases r1; cases r2; exact .inl (.inl ⟨i, j, rfl, rfl, lk _ H _ M (.int _) wd (.refl _ _ _) hw⟩)
    | _ => exact (show False from hw).elim
  | str i => cases d2 with
    | str j => cases r1; cases r2; exact .inl (.inr ⟨i, j, rfl, rfl, hw.1, lk _ H _ M (.str _) wd (.refl _ _ _) hw.2⟩)
    | _ => exact (show False from hw).elim
  | tup i => cases d2 with
    | tup j =>
      cases r1 with
      | tup hs ha =>
        cases r2 with
        | @tup b ys _ ht hb =>
          refine .inr (.inl ⟨_, _, _, _, rfl, rfl, hs, ht, by rw [ha.length, hb.length]; exact hw.1, fun z => ?_, fun z1 z => ?_, fun z1 z2 p hp => ?_⟩)
          · subst z
            have z : i = [] := List.eq_nil_of_length_eq_zero (by rw [← ha.length]; rfl)
            subst z
            exact lk _ H _ M (.tup ht hb) wd (.refl _ _ _) hw.2
          · subst z
            have z : j = [] := List.eq_nil_of_length_eq_zero (by rw [← hb.length]; rfl)
            subst z
            have q := hw.2
            rw [List.append_nil] at q
            exact lk _ H _ M (.tup hs ha) wd (.refl _ _ _) q
          · exact lk _ _ _ M (.newTup wd hp (ha.append hb)) (wd.laid hp) (ext_laid hp) hw.2
    | _ => exact (show False from hw).elim
  | lst i => cases d2 with
    | lst j =>
      cases r1 with
      | lst hs _ ha =>
        cases r2 with
        | lst ht _ hb =>
          refine .inr (.inr ⟨_, _, _, _, rfl, rfl, hs, ht, by rw [ha.length, hb.length]; exact hw.1, fun p hp => ?_⟩)
          exact lk _ _ _ M (.newLst wd hp (ha.append hb)) (wd.laid hp) (ext_laid hp) hw.2
    | _ => exact (show False from hw).elim
  | _ => cases d2 <;> exact (show False from hw).elim
theorem de_add (ha : DE X E a wa) (hb : DE X E b wb) : DE X E (.BinOp a .Add b pos) (wOp wAddV wa wb) := de_op op_addV ok_addV ha hb
theorem de_sub (ha : DE X E a wa) (hb : DE X E b wb) : DE X E (.BinOp a .Sub b pos) (wOp (wI0 fun i j => .int (i - j)) wa wb) := de_op op_sub (okI0 fun _ _ _ _ => .int _) ha hb
/-- * : ints (one below 2 ^ 64), a tuple so many times -/
def wMulV : DR2 := fun x y M Q => match x, y with
  | .int i, .int j => CMul i j ∧ Q (.int (i * j)) M
  | .tup ds, .int j => (ds ≠ [] ∧ 2 ≤ j ∧ j ≤ 1000 ∧ ds.length ≤ 1000) ∧ Q (.tup (List.replicate j.toNat ds).flatten) M
  | .lst ds, .int j => (-(2 ^ 63) ≤ j ∧ j < 2 ^ 63 ∧ ds.length * j.toNat ≤ sizeLine) ∧ Q (.lst (List.replicate j.toNat ds).flatten) M
  | _, _ => False
theorem RepAll.rep {K : PySem.W.Frag} {B : Addr → Prop} {H : Hp} {vs : List V} {ds : List D} (r : RepAll K B H vs ds) : ∀ n : Nat, RepAll K B H (List.replicate n vs).flatten (List.replicate n ds).flatten
  | 0 => .nil
  | n + 1 => by
    rw [List.replicate_succ, List.replicate_succ, List.flatten_cons, List.flatten_cons]
    exact r.append (RepAll.rep r n)
theorem op_mulV : OpR X (binaryOp .Mult) (fun x y H Q => rI CMul (fun i j => .int (i * j)) x y H Q ∨ (rRepT X.K x y H Q ∨ rRep x y H Q)) := op_mul.or (op_repT.or op_rep)
theorem ok_mulV {K : PySem.W.Frag} : OkR K (fun x y H Q => rI CMul (fun i j => .int (i * j)) x y H Q ∨ (rRepT K x y H Q ∨ rRep x y H Q)) wMulV := by
  intro F M H x y d1 d2 Q Q' wd r1 r2 hw lk
  cases d1 with
  | int i => cases d2 with
    | int j => cases r1; cases r2; exact .inl ⟨i, j, rfl, rfl, hw.1, lk _ H _ M (.int _) wd (.refl _ _ _) hw.2⟩
    | _ => exact (show False from hw).elim
  | tup i => cases d2 with
    | int j =>
      cases r1 with
      | tup hs ha =>
        cases r2
        obtain ⟨⟨h0, h1, h2, h3⟩, q⟩ := hw
        refine .inr (.inl ⟨_, _, _, rfl, rfl, hs, fun z => ?_, h1, h2, by rw [ha.length]; exact h3, fun p hp => ?_⟩)
        · subst z
          exact h0 (List.eq_nil_of_length_eq_zero (by rw [← ha.length]; rfl))
        · exact lk _ _ _ M (.newTup wd hp (ha.rep _)) (wd.laid hp) (ext_laid hp) q
    | _ => exact (show False from hw).elim
  | lst i => cases d2 with
    | int j =>
      cases r1 with
      | lst hs _ ha =>
        cases r2
        obtain ⟨⟨h1, h2, h3⟩, q⟩ := hw
        refine .inr (.inr ⟨_, _, _, rfl, rfl, hs, h1, h2, by rw [ha.length]; exact h3, fun p hp => ?_⟩)
        exact lk _ _ _ M (.newLst wd hp (ha.rep _)) (wd.laid hp) (ext_laid hp) q
    | _ => exact (show False from hw).elim
  | _ => cases d2 <;> exact (show False from hw).elim
theorem de_mul (ha : DE X E a wa) (hb : DE X E b wb) : DE X E (.BinOp a .Mult b pos) (wOp wMulV wa wb) := de_op op_mulV ok_mulV ha hb
theorem de_mod (ha : DE X E a wa) (hb : DE X E b wb) : DE X E (.BinOp a .Mod b pos) (wOp (wI (fun _ j => 0 < j) fun i j => .int (i % j)) wa wb) := de_op op_mod (okI fun _ _ _ _ => .int _) ha hb
theorem de_fdiv (ha : DE X E a wa) (hb : DE X E b wb) : DE X E (.BinOp a .FloorDiv b pos) (wOp (wI CDiv fun i j => .int (i / j)) wa wb) := de_op op_fdiv (okI fun _ _ _ _ => .int _) ha hb
theorem de_pow (ha : DE X E a wa) (hb : DE X E b wb) : DE X E (.BinOp a .Pow b pos) (wOp (wI CPow fun i j => .int (i ^ j.toNat)) wa wb) := de_op op_pow (okI fun _ _ _ _ => .int _) ha hb
/-- - of an int -/
def wNeg (wa : DTE) : DTE := fun δ M Q => wa δ M fun x M1 => match x with | .int i => Q (.int (-i)) M1 | _ => False
theorem de_neg (ha : DE X E a wa) : DE X E (.UnaryOp .USub a pos) (wNeg wa) := by
  refine pe_mono (pe_un un_neg ha) fun σ H Q' ⟨F, δ, M, Q, sm, lx, hw, lk⟩ => ?_
  refine ⟨F, δ, M, _, sm, lx, hw, fun v H1 d M1 r1 w1 e1 q1 => ?_⟩
  cases d with
  | int i => cases r1; exact ⟨i, rfl, lk _ H1 _ M1 (.int _) w1 e1 q1⟩
  | _ => exact (show False from q1).elim

/-! ### comparisons -/
theorem de_lt (ha : DE X E a wa) (hb : DE X E b wb) : DE X E (.Compare a [.Lt] [b] pos) (wOp (wI0 fun i j => .bl (decide (i < j))) wa wb) := de_cmp op_lt (okI0 fun _ _ _ _ => .bl _) ha hb (nomark _)
theorem de_le (ha : DE X E a wa) (hb : DE X E b wb) : DE X E (.Compare a [.LtE] [b] pos) (wOp (wI0 fun i j => .bl (decide (i ≤ j))) wa wb) := de_cmp op_le (okI0 fun _ _ _ _ => .bl _) ha hb (nomark _)
theorem de_gt (ha : DE X E a wa) (hb : DE X E b wb) : DE X E (.Compare a [.Gt] [b] pos) (wOp (wI0 fun i j => .bl (decide (j < i))) wa wb) := de_cmp op_gt (okI0 fun _ _ _ _ => .bl _) ha hb (nomark _)
theorem de_ge (ha : DE X E a wa) (hb : DE X E b wb) : DE X E (.Compare a [.GtE] [b] pos) (wOp (wI0 fun i j => .bl (decide (j ≤ i))) wa wb) := de_cmp op_ge (okI0 fun _ _ _ _ => .bl _) ha hb (nomark _)
def wEqV : DR2 := fun x y M Q => (D.fit 64 x = true ∧ D.fit 64 y = true) ∧ Q (.bl (D.eqv x y)) M
def wNeV : DR2 := fun x y M Q => (D.fit 64 x = true ∧ D.fit 64 y = true) ∧ Q (.bl (!D.eqv x y)) M
theorem ok_eqV {K : PySem.W.Frag} : OkR K (rEqD K) wEqV := fun F M H x y d1 d2 Q Q' wd r1 r2 ⟨⟨h1, h2⟩, q⟩ lk =>
  ⟨D.py d1, D.py d2, Rep.dp 64 d1 x h1 r1, Rep.dp 64 d2 y h2 r2, D.shaped h1, D.shaped h2, lk _ H _ M (by rw [D.eqv_py 64 d1 d2 h1 h2]; exact .bl _) wd (.refl _ _ _) q⟩
theorem ok_neV {K : PySem.W.Frag} : OkR K (rNeD K) wNeV := fun F M H x y d1 d2 Q Q' wd r1 r2 ⟨⟨h1, h2⟩, q⟩ lk =>
  ⟨D.py d1, D.py d2, Rep.dp 64 d1 x h1 r1, Rep.dp 64 d2 y h2 r2, D.shaped h1, D.shaped h2, lk _ H _ M (by rw [D.eqv_py 64 d1 d2 h1 h2]; exact .bl _) wd (.refl _ _ _) q⟩
theorem de_eq (hX : DX X E k) (ha : DE X E a wa) (hb : DE X E b wb) : DE X E (.Compare a [.Eq] [b] pos) (wOp wEqV wa wb) := de_cmp (op_eqD hX.room.units) ok_eqV ha hb (nomark _)
theorem de_ne (hX : DX X E k) (ha : DE X E a wa) (hb : DE X E b wb) : DE X E (.Compare a [.NotEq] [b] pos) (wOp wNeV wa wb) := de_cmp (op_neD hX.room.units) ok_neV ha hb (nomark _)
theorem room_65 {A : Around} {k : Nat} (h : Room k A) : A.units + 65 < cLine := by have := h.un; omega
/-- in a list of data -/
def wInV (neg : Bool) : DR2 := fun x y M Q => match y with | .lst ds => (D.fit 63 x = true ∧ D.fitAll 63 ds = true) ∧ Q (.bl (neg != ds.any fun z => D.eqv z x)) M | _ => False
theorem D.fit_mono : ∀ (n m : Nat) (d : D), n ≤ m → D.fit n d = true → D.fit m d = true := by
  have key : ∀ (m n : Nat), n ≤ m → (∀ d, D.fit n d = true → D.fit m d = true) ∧ ∀ ds, D.fitAll n ds = true → D.fitAll m ds = true := by
    intro m
    induction m with
    | zero =>
      intro n h
      have : n = 0 := by omega
      subst this
      exact ⟨fun _ h => h, fun _ h => h⟩
    | succ m ih =>
      intro n h
      have one : ∀ d, D.fit n d = true → D.fit (m + 1) d = true := fun d hd => by
        cases d with
        | tup xs =>
          cases n with
          | zero => simp [D.fit] at hd
          | succ n => simp only [D.fit] at hd ⊢; exact (ih n (by omega)).2 xs hd
        | lst xs =>
          cases n with
          | zero => simp [D.fit] at hd
          | succ n => simp only [D.fit] at hd ⊢; exact (ih n (by omega)).2 xs hd
        | fro xs => cases n <;> simp [D.fit] at hd
        | ref xs => cases n <;> simp [D.fit] at hd
        | str x => cases n <;> simpa [D.fit] using hd
        | _ => simp [D.fit]
      refine ⟨one, fun ds => ?_⟩
      induction ds with
      | nil => intro _; simp [D.fitAll]
      | cons d ds ih2 =>
        intro hd
        have hd' : D.fit n d = true ∧ D.fitAll n ds = true := by simpa [D.fitAll] using hd
        simp only [D.fitAll, one d hd'.1, ih2 hd'.2, Bool.and_self]
  exact fun n m d h => (key m n h).1 d
theorem fit_lst {n : Nat} {ds : List D} (h : D.fitAll n ds = true) : D.fit (n + 1) (.lst ds) = true := by simpa [D.fit] using h
theorem any_py {n : Nat} {x : D} : ∀ {ds : List D}, D.fit n x = true → D.fitAll n ds = true → ((D.pyAll ds).any fun z => PyData.eqv z (D.py x)) = ds.any fun z => D.eqv z x
  | [], _, _ => by simp [D.pyAll]
  | d :: ds, h, hd => by
    have hd' : D.fit n d = true ∧ D.fitAll n ds = true := by simpa [D.fitAll] using hd
    simp only [D.pyAll, List.any_cons, D.eqv_py n d x hd'.1 h, any_py (ds := ds) h hd'.2]
theorem ok_inV {K : PySem.W.Frag} : OkR K (rInD K) (wInV false) := by
  intro F M H x y d1 d2 Q Q' wd r1 r2 hw lk
  cases d2 with
  | lst ds =>
    obtain ⟨⟨h1, h2⟩, q⟩ := hw
    have hl := fit_lst h2
    have e : D.py (.lst ds) = .list (D.pyAll ds) := by simp [D.py]
    refine ⟨D.py d1, D.pyAll ds, Rep.dp 63 d1 x h1 r1, e ▸ Rep.dp 64 _ y hl r2, D.shaped (D.fit_mono 63 64 _ (by decide) h1), e ▸ D.shaped hl, ?_⟩
    refine lk _ H _ M ?_ wd (.refl _ _ _) q
    rw [any_py h1 h2]
    simp only [Bool.false_bne]
    exact .bl _
  | _ => exact (show False from hw).elim
theorem ok_notInV {K : PySem.W.Frag} : OkR K (rNotInD K) (wInV true) := by
  intro F M H x y d1 d2 Q Q' wd r1 r2 hw lk
  cases d2 with
  | lst ds =>
    obtain ⟨⟨h1, h2⟩, q⟩ := hw
    have hl := fit_lst h2
    have e : D.py (.lst ds) = .list (D.pyAll ds) := by simp [D.py]
    refine ⟨D.py d1, D.pyAll ds, Rep.dp 63 d1 x h1 r1, e ▸ Rep.dp 64 _ y hl r2, D.shaped (D.fit_mono 63 64 _ (by decide) h1), e ▸ D.shaped hl, ?_⟩
    refine lk _ H _ M ?_ wd (.refl _ _ _) q
    rw [any_py h1 h2]
    simp only [Bool.true_bne]
    exact .bl _
  | _ => exact (show False from hw).elim
theorem de_inL (hX : DX X E k) (ha : DE X E a wa) (hb : DE X E b wb) (hm : behindInMarks .In b = false := by rfl) : DE X E (.Compare a [.In] [b] pos) (wOp (wInV false) wa wb) := de_cmp (op_inD (room_65 hX.room)) ok_inV ha hb hm
theorem de_notInL (hX : DX X E k) (ha : DE X E a wa) (hb : DE X E b wb) (hm : behindInMarks .NotIn b = false := by rfl) : DE X E (.Compare a [.NotIn] [b] pos) (wOp (wInV true) wa wb) := de_cmp (op_notInD (room_65 hX.room)) ok_notInV ha hb hm
/-- flat items -/
def D.flat : D → Bool
  | .non | .bl _ | .int _ | .str _ => true
  | _ => false
theorem Rep.flat {K : PySem.W.Frag} {B : Addr → Prop} {H : Hp} {v : V} {d : D} (r : Rep K B H v d) (h : d.flat = true) : flatV v = true := by
  cases d <;> first | (cases r; rfl) | simp [D.flat] at h
theorem RepAll.flat {K : PySem.W.Frag} {B : Addr → Prop} {H : Hp} : ∀ {vs : List V} {ds : List D}, RepAll K B H vs ds → ds.all D.flat = true → vs.all flatV = true
  | _, [], h, _ => by cases h; rfl
  | _, d :: ds, h, hf => by
    rw [List.all_cons, Bool.and_eq_true] at hf
    cases h with
    | cons h1 h2 => rw [List.all_cons, h1.flat hf.1, RepAll.flat h2 hf.2]; rfl
theorem eqV_rep {K : PySem.W.Frag} {B : Addr → Prop} {H : Hp} {v u : V} {d e : D} (r : Rep K B H v d) (q : Rep K B H u e) (hd : d.flat = true) (he : e.flat = true) : eqV v u = D.eqv d e := by
  cases d <;> first
    | (cases e <;> first
        | (cases r; cases q; simp [eqV, D.eqv]; done)
        | simp [D.flat] at he)
    | simp [D.flat] at hd
theorem inV_rep {K : PySem.W.Frag} {B : Addr → Prop} {H : Hp} {v : V} {d : D} (r : Rep K B H v d) (hd : d.flat = true) : ∀ {vs : List V} {ds : List D}, RepAll K B H vs ds → ds.all D.flat = true → inV v vs = ds.any fun z => D.eqv z d
  | _, [], h, _ => by cases h; simp [inV]
  | _, x :: ds, h, hf => by
    rw [List.all_cons, Bool.and_eq_true] at hf
    cases h with
    | cons h1 h2 =>
      have ih := inV_rep r hd h2 hf.2
      unfold inV at ih ⊢
      rw [List.any_cons, List.any_cons, ih]
      rw [eqV_rep h1 r hf.1 hd]
end
end Bx

set_option Elab.async false
set_option linter.all false
set_option maxRecDepth 100000
set_option maxHeartbeats 2000000
namespace Bx
open PySem PySem.Spec L2
open PyProof.Rows hiding St
section
variable {X : Cx} {E : XK} {k : Nat} {a b c e : Expr} {wa wb wc : DTE} {ta tb : DTT} {pos : Pos}

/-! ### and, or, not, tests -/
/-- by a truth value -/
def onT (b : Bool) (A B : Prop) : Prop := match b with | true => A | false => B
def onD (d : D) (A B : Prop) : Prop := match d with | .bl b => onT b A B | _ => False
theorem onT_i {b : Bool} {A B : Prop} (h1 : b = true → A) (h2 : b = false → B) : onT b A B := by
  cases b
  · exact h2 rfl
  · exact h1 rfl
theorem onD_i {b : Bool} {A B : Prop} (h1 : b = true → A) (h2 : b = false → B) : onD (.bl b) A B := onT_i h1 h2
def wAnd (wa wb : DTE) : DTE := fun δ M Q => wa δ M fun d M1 => onD d (wb δ M1 Q) (Q (.bl false) M1)
def wOr (wa wb : DTE) : DTE := fun δ M Q => wa δ M fun d M1 => onD d (Q (.bl true) M1) (wb δ M1 Q)
def wNot (wa : DTE) : DTE := fun δ M Q => wa δ M fun d M1 => match d with | .bl k => Q (.bl (!k)) M1 | _ => False
theorem de_one {op} (h : DE X E a wa) : DE X E (.BoolOp op [a] pos) wa := pe_one h
theorem de_and {rest : List Expr} (ha : DE X E a wa) (hb : DE X E (.BoolOp .And (b :: rest) pos) wb) : DE X E (.BoolOp .And (a :: b :: rest) pos) (wAnd wa wb) := by
  refine pe_mono (pe_and ha hb) fun σ H Q' ⟨F, δ, M, Q, sm, lx, hw, lk⟩ => ?_
  refine ⟨F, δ, M, _, sm, lx, hw, fun v H1 d M1 r1 w1 e1 q1 => ?_⟩
  cases d with
  | bl k =>
    cases r1
    refine ⟨k, rfl, ?_⟩
    cases k with
    | true => exact ite_tt ⟨F, δ, M1, Q, sm.ext w1 e1, lx.ext w1 e1, q1, fun v H' d M' r w e q => lk v H' d M' r w (Ext.trans w1 e1 e) q⟩
    | false => exact ite_ff (lk _ H1 _ M1 (.bl _) w1 e1 q1)
  | _ => exact (show False from q1).elim
theorem de_or {rest : List Expr} (ha : DE X E a wa) (hb : DE X E (.BoolOp .Or (b :: rest) pos) wb) : DE X E (.BoolOp .Or (a :: b :: rest) pos) (wOr wa wb) := by
  refine pe_mono (pe_or ha hb) fun σ H Q' ⟨F, δ, M, Q, sm, lx, hw, lk⟩ => ?_
  refine ⟨F, δ, M, _, sm, lx, hw, fun v H1 d M1 r1 w1 e1 q1 => ?_⟩
  cases d with
  | bl k =>
    cases r1
    refine ⟨k, rfl, ?_⟩
    cases k with
    | true => exact ite_tt (lk _ H1 _ M1 (.bl _) w1 e1 q1)
    | false => exact ite_ff ⟨F, δ, M1, Q, sm.ext w1 e1, lx.ext w1 e1, q1, fun v H' d M' r w e q => lk v H' d M' r w (Ext.trans w1 e1 e) q⟩
  | _ => exact (show False from q1).elim
theorem de_not (ha : DE X E a wa) : DE X E (.UnaryOp .Not a pos) (wNot wa) := by
  refine pe_mono (pe_not ha) fun σ H Q' ⟨F, δ, M, Q, sm, lx, hw, lk⟩ => ?_
  refine ⟨F, δ, M, _, sm, lx, hw, fun v H1 d M1 r1 w1 e1 q1 => ?_⟩
  cases d with
  | bl k => cases r1; exact ⟨k, rfl, lk _ H1 _ M1 (.bl _) w1 e1 q1⟩
  | _ => exact (show False from q1).elim
theorem dt_val (h : DE X E a wa) (he : ∀ whole, isTrue a X.env whole = (do let v ← whole; standAt a.pos; holding [v] (truthy v)) := by intro _; rfl) : DT X E a (wTest wa) :=
  pt_mono (pt_val h he) fun σ H Q' h => by
    have := lift_test h
    exact this
def wTNot (ta : DTT) : DTT := fun δ M Q => ta δ M fun c M1 => Q (!c) M1
theorem dt_not (ha : DT X E a ta) : DT X E (.UnaryOp .Not a pos) (wTNot ta) := by
  refine pt_mono (pt_not ha) fun σ H Q' ⟨F, δ, M, Q, sm, lx, hw, lk⟩ => ?_
  exact ⟨F, δ, M, _, sm, lx, hw, fun c H1 M1 w1 e1 q1 => lk _ H1 M1 w1 e1 q1⟩
def wTAnd (ta tb : DTT) : DTT := fun δ M Q => ta δ M fun c M1 => onT c (tb δ M1 Q) (Q false M1)
def wTOr (ta tb : DTT) : DTT := fun δ M Q => ta δ M fun c M1 => onT c (Q true M1) (tb δ M1 Q)
theorem dw_and1 (ha : DT X E a ta) : DW X E (.BoolOp .And [a] pos) ta := pw_and1 ha
theorem dw_or1 (ha : DT X E a ta) : DW X E (.BoolOp .Or [a] pos) ta := pw_or1 ha
theorem dw_and {rest : List Expr} (ha : DT X E a ta) (hb : DW X E (.BoolOp .And (b :: rest) pos) tb) : DW X E (.BoolOp .And (a :: b :: rest) pos) (wTAnd ta tb) := by
  refine pw_mono (pw_and ha hb) fun σ H Q' ⟨F, δ, M, Q, sm, lx, hw, lk⟩ => ?_
  refine ⟨F, δ, M, _, sm, lx, hw, fun c H1 M1 w1 e1 q1 => ?_⟩
  cases c with
  | true => exact ite_tt ⟨F, δ, M1, Q, sm.ext w1 e1, lx.ext w1 e1, q1, fun b H' M' w e q => lk b H' M' w (Ext.trans w1 e1 e) q⟩
  | false => exact ite_ff (lk _ H1 M1 w1 e1 q1)
theorem dw_or {rest : List Expr} (ha : DT X E a ta) (hb : DW X E (.BoolOp .Or (b :: rest) pos) tb) : DW X E (.BoolOp .Or (a :: b :: rest) pos) (wTOr ta tb) := by
  refine pw_mono (pw_or ha hb) fun σ H Q' ⟨F, δ, M, Q, sm, lx, hw, lk⟩ => ?_
  refine ⟨F, δ, M, _, sm, lx, hw, fun c H1 M1 w1 e1 q1 => ?_⟩
  cases c with
  | true => exact ite_tt (lk _ H1 M1 w1 e1 q1)
  | false => exact ite_ff ⟨F, δ, M1, Q, sm.ext w1 e1, lx.ext w1 e1, q1, fun b H' M' w e q => lk b H' M' w (Ext.trans w1 e1 e) q⟩
theorem DW.dt (h : DW X E a ta) : DT X E a ta := PW.pt h
def wIfE (tc : DTT) (wa wb : DTE) : DTE := fun δ M Q => tc δ M fun c M1 => onT c (wa δ M1 Q) (wb δ M1 Q)
theorem de_if {tc : DTT} (hc : DT X E c tc) (ha : DE X E a wa) (hb : DE X E b wb) : DE X E (.IfExp c a b pos) (wIfE tc wa wb) := by
  refine pe_mono (pe_ifExp hc ha hb) fun σ H Q' ⟨F, δ, M, Q, sm, lx, hw, lk⟩ => ?_
  refine ⟨F, δ, M, _, sm, lx, hw, fun c H1 M1 w1 e1 q1 => ?_⟩
  cases c with
  | true => exact ite_tt ⟨F, δ, M1, Q, sm.ext w1 e1, lx.ext w1 e1, q1, fun v H' d M' r w e q => lk v H' d M' r w (Ext.trans w1 e1 e) q⟩
  | false => exact ite_ff ⟨F, δ, M1, Q, sm.ext w1 e1, lx.ext w1 e1, q1, fun v H' d M' r w e q => lk v H' d M' r w (Ext.trans w1 e1 e) q⟩
theorem dt_if {c d f : Expr} {p : Pos} {tc : DTT} (hc : DT X E c tc) (ha : DE X E d wa) (hb : DE X E f wb) (he : ∀ whole, isTrue (.IfExp c d f p) X.env whole = (do let v ← whole; standAt (Expr.IfExp c d f p).pos; holding [v] (truthy v)) := by intro _; rfl) : DT X E (.IfExp c d f p) (wTest (wIfE tc wa wb)) := dt_val (de_if hc ha hb) he

/-- by an option -/
def onO {α : Type} (o : Option α) (Q : α → Prop) : Prop := match o with | some a => Q a | none => False
theorem onO_i {α : Type} {o : Option α} {a : α} {Q : α → Prop} (h : o = some a) (q : Q a) : onO o Q := by rw [h]; exact q
theorem onO_e {α : Type} {o : Option α} {Q : α → Prop} (h : onO o Q) : ∃ a, o = some a ∧ Q a := by
  cases o with
  | none => exact (show False from h).elim
  | some a => exact ⟨a, rfl, h⟩
/-! ### chains, is, in -/
def wChain (r r' : DR2) (wa wb wc : DTE) : DTE := fun δ M Q => wa δ M fun x M1 => wb δ M1 fun y M2 => r x y M2 fun z M3 => onD z (wc δ M3 fun u M4 => r' y u M4 Q) (Q (.bl false) M3)
theorem lift_chain {K : PySem.W.Frag} {r r' : R2} {w w' : DR2} (ok : OkR K r w) (ok' : OkR K r' w') {σ : L2.St} {H : Hp} {Q' : VK} (h : liftE K E (wChain w w' wa wb wc) σ H Q') : tChain r r' (liftE K E wa) (liftE K E wb) (liftE K E wc) σ H Q' := by
  obtain ⟨F, δ, M, Q, sm, lx, hw, lk⟩ := h
  refine ⟨F, δ, M, _, sm, lx, hw, fun v H1 d M1 r1 w1 e1 q1 => ?_⟩
  refine ⟨F, δ, M1, _, sm.ext w1 e1, lx.ext w1 e1, q1, fun u H2 d2 M2 r2 w2 e2 q2 => ?_⟩
  refine ok F M2 H2 v u d d2 _ _ w2 (Rep.ext w1 e2 d v r1) r2 q2 fun z H3 dz M3 r3 w3 e3 q3 => ?_
  have e13 := Ext.trans w1 e1 (Ext.trans w2 e2 e3)
  cases dz with
  | bl k =>
    cases r3
    refine ⟨k, rfl, ?_⟩
    cases k with
    | true =>
      refine ite_tt ⟨F, δ, M3, _, sm.ext w3 e13, lx.ext w3 e13, q3, fun y H4 d4 M4 r4 w4 e4 q4 => ?_⟩
      exact ok' F M4 H4 u y d2 d4 Q Q' w4 (Rep.ext w3 e4 _ _ (Rep.ext w2 e3 d2 u r2)) r4 q4 fun v' H' d' M' r5 w5 e5 q5 => lk v' H' d' M' r5 w5 (Ext.trans w3 e13 (Ext.trans w4 e4 e5)) q5
    | false => exact ite_ff (lk _ H3 _ M3 (.bl _) w3 e13 q3)
  | _ => exact (show False from q3).elim
theorem de_chain {op op' : CmpOp} {r r' : R2} {w w' : DR2} (ho : OpR X (compareOp op) r) (ok : OkR X.K r w) (ho' : OpR X (compareOp op') r') (ok' : OkR X.K r' w') (ha : DE X E a wa) (hb : DE X E b wb) (hc : DE X E c wc)
    (hm : lastMarks [op, op'] [b, c] = false := by with_unfolding_all rfl) : DE X E (.Compare a [op, op'] [b, c] pos) (wChain w w' wa wb wc) :=
  pe_mono (pe_chain ho ho' ha hb hc hm) fun _ _ _ h => lift_chain ok ok' h
theorem dt_chain {op op' : CmpOp} {r r' : R2} {w w' : DR2} (ho : OpR X (compareOp op) r) (ok : OkR X.K r w) (ho' : OpR X (compareOp op') r') (ok' : OkR X.K r' w') (ha : DE X E a wa) (hb : DE X E b wb) (hc : DE X E c wc)
    (hm : lastMarks [op, op'] [b, c] = false := by with_unfolding_all rfl) : DT X E (.Compare a [op, op'] [b, c] pos) (wTest (wChain w w' wa wb wc)) :=
  pt_mono (pt_chain ho ho' ha hb hc hm) fun σ H Q' h => lift_chain ok ok' (lift_test h)
abbrev kLe : DR2 := wI0 fun i j => .bl (decide (i ≤ j))
abbrev kLt : DR2 := wI0 fun i j => .bl (decide (i < j))
theorem de_lele (ha : DE X E a wa) (hb : DE X E b wb) (hc : DE X E c wc) (hm : lastMarks [.LtE, .LtE] [b, c] = false := by with_unfolding_all rfl) : DE X E (.Compare a [.LtE, .LtE] [b, c] pos) (wChain kLe kLe wa wb wc) :=
  de_chain op_le (okI0 fun _ _ _ _ => .bl _) op_le (okI0 fun _ _ _ _ => .bl _) ha hb hc hm
theorem de_ltle (ha : DE X E a wa) (hb : DE X E b wb) (hc : DE X E c wc) (hm : lastMarks [.Lt, .LtE] [b, c] = false := by with_unfolding_all rfl) : DE X E (.Compare a [.Lt, .LtE] [b, c] pos) (wChain kLt kLe wa wb wc) :=
  de_chain op_lt (okI0 fun _ _ _ _ => .bl _) op_le (okI0 fun _ _ _ _ => .bl _) ha hb hc hm
theorem de_ltlt (ha : DE X E a wa) (hb : DE X E b wb) (hc : DE X E c wc) (hm : lastMarks [.Lt, .Lt] [b, c] = false := by with_unfolding_all rfl) : DE X E (.Compare a [.Lt, .Lt] [b, c] pos) (wChain kLt kLt wa wb wc) :=
  de_chain op_lt (okI0 fun _ _ _ _ => .bl _) op_lt (okI0 fun _ _ _ _ => .bl _) ha hb hc hm
/-- a test out of a value -/
theorem dt_of (h : DE X E a wa) (he : ∀ whole, isTrue a X.env whole = (do let v ← whole; standAt a.pos; holding [v] (truthy v)) := by intro _; rfl) : DT X E a (wTest wa) := dt_val h he
/-- is None; is a truth value -/
def D.isNon : D → Bool | .non => true | _ => false
def wIs : DR2 := fun x y M Q => match y with | .non => Q (.bl x.isNon) M | .bl j => (match x with | .bl i => Q (.bl (decide (i = j))) M | _ => False) | _ => False
def wIsNot : DR2 := fun x y M Q => match y with | .non => Q (.bl (!x.isNon)) M | .bl j => (match x with | .bl i => Q (.bl (!decide (i = j))) M | _ => False) | _ => False
theorem Rep.isNon {K : PySem.W.Frag} {B : Addr → Prop} {H : Hp} {v : V} {d : D} (r : Rep K B H v d) : decide (v = .non) = d.isNon := by
  cases d <;> cases r <;> simp [D.isNon]
theorem ok_is {K : PySem.W.Frag} : OkR K (fun x y H Q => (y = .non ∧ Q (.bl (decide (x = .non))) H) ∨ rIsB x y H Q) wIs := by
  intro F M H x y d1 d2 Q Q' wd r1 r2 hw lk
  cases d2 with
  | non => cases r2; exact .inl ⟨rfl, lk _ H _ M (by rw [r1.isNon]; exact .bl _) wd (.refl _ _ _) hw⟩
  | bl j => cases d1 with
    | bl i => cases r1; cases r2; exact .inr ⟨i, j, rfl, rfl, lk _ H _ M (.bl _) wd (.refl _ _ _) hw⟩
    | _ => exact (show False from hw).elim
  | _ => exact (show False from hw).elim
theorem ok_isNot {K : PySem.W.Frag} : OkR K (fun x y H Q => (y = .non ∧ Q (.bl (!decide (x = .non))) H) ∨ rNotB x y H Q) wIsNot := by
  intro F M H x y d1 d2 Q Q' wd r1 r2 hw lk
  cases d2 with
  | non => cases r2; exact .inl ⟨rfl, lk _ H _ M (by rw [r1.isNon]; exact .bl _) wd (.refl _ _ _) hw⟩
  | bl j => cases d1 with
    | bl i => cases r1; cases r2; exact .inr ⟨i, j, rfl, rfl, lk _ H _ M (.bl _) wd (.refl _ _ _) hw⟩
    | _ => exact (show False from hw).elim
  | _ => exact (show False from hw).elim
theorem de_is (ha : DE X E a wa) (hb : DE X E b wb) : DE X E (.Compare a [.Is] [b] pos) (wOp wIs wa wb) := de_cmp (op_isN.or op_isBl) ok_is ha hb (nomark _)
theorem de_isnot (ha : DE X E a wa) (hb : DE X E b wb) : DE X E (.Compare a [.IsNot] [b] pos) (wOp wIsNot wa wb) := de_cmp (op_notN.or op_notBl) ok_isNot ha hb (nomark _)
/-- in a list or tuple of flat items; a text in a text -/
def wInF (neg : Bool) : DR2 := fun x y M Q => match sq M y with
  | some ds => (x.flat = true ∧ ds.all D.flat = true) ∧ Q (.bl (neg != ds.any fun z => D.eqv z x)) M
  | none => False
theorem ok_inF {K : PySem.W.Frag} {neg : Bool} : OkR K (rIn K neg) (wInF neg) := by
  intro F M H x y d1 d2 Q Q' wd r1 r2 hw lk
  unfold wInF at hw
  cases hs : sq M d2 with
  | none => rw [hs] at hw; exact hw.elim
  | some ds =>
    rw [hs] at hw
    obtain ⟨⟨h1, h2⟩, q⟩ := hw
    obtain ⟨p, xs, rfl, hq, ra⟩ := r2.sq wd hs
    refine ⟨p, xs, rfl, hq, r1.flat h1, ra.flat h2, ?_⟩
    rw [inV_rep r1 h1 ra h2]
    refine lk _ H _ M ?_ wd (.refl _ _ _) q
    cases neg
    · simp only [Bool.false_bne]; exact .bl _
    · simp only [Bool.true_bne]; exact .bl _
theorem de_inF (ha : DE X E a wa) (hb : DE X E b wb) (hm : behindInMarks .In b = false := by rfl) : DE X E (.Compare a [.In] [b] pos) (wOp (wInF false) wa wb) := de_cmp op_in_seq ok_inF ha hb hm
theorem de_notInF (ha : DE X E a wa) (hb : DE X E b wb) (hm : behindInMarks .NotIn b = false := by rfl) : DE X E (.Compare a [.NotIn] [b] pos) (wOp (wInF true) wa wb) := de_cmp op_notIn_seq ok_inF ha hb hm

/-! ### subscripts, slices, displays -/
def wIx : DR2 := fun x y M Q => match y with
  | .int i => (match x with
    | .str z => z.length ≤ sizeLine ∧ onO (atI z.cps.toList i) fun c => Q (.str ⟨#[c]⟩) M
    | x => onO (sq M x) fun ds => onO (atI ds i) fun d => Q d M)
  | _ => False
theorem ok_ix {K : PySem.W.Frag} : OkR K (rIx K) wIx := by
  intro F M H x y d1 d2 Q Q' wd r1 r2 hw lk
  have fin : ∀ {i : Int}, y = .int i → (onO (sq M d1) fun ds => onO (atI ds i) fun d => Q d M) → rIx K x y H Q' := fun {i} hy h => by
    subst hy
    obtain ⟨ds, hs, h⟩ := onO_e h
    obtain ⟨d, he, h⟩ := onO_e h
    obtain ⟨p, xs, rfl, hq, ra⟩ := r1.sq wd hs
    obtain ⟨v, hv, rv⟩ := atI_rep ra he
    rcases hq with hq | hq
    · exact .inl ⟨p, xs, i, v, rfl, rfl, hq, hv, lk v H d M rv wd (.refl _ _ _) h⟩
    · exact .inr (.inl ⟨p, xs, i, v, rfl, rfl, hq, hv, lk v H d M rv wd (.refl _ _ _) h⟩)
  cases d2 with
  | int i =>
    cases r2
    cases d1 with
    | str z =>
      cases r1
      obtain ⟨h1, h2⟩ := (show z.length ≤ sizeLine ∧ onO (atI z.cps.toList i) fun c => Q (.str ⟨#[c]⟩) M from hw)
      obtain ⟨c, he, h2⟩ := onO_e h2
      exact .inr (.inr ⟨z, i, c, rfl, rfl, h1, he, lk _ H _ M (.str _) wd (.refl _ _ _) h2⟩)
    | _ => exact fin rfl hw
  | _ => exact (show False from hw).elim
theorem de_ix (ha : DE X E a wa) (hb : DE X E b wb) (hs : PlainIx b := by intro _ _; rfl) : DE X E (.Subscript a b pos) (wOp wIx wa wb) := pe_mono (pe_ix ix_seq ha hb hs) fun _ _ _ h => lift_op ok_ix h
/-- a slice's part -/
abbrev DTO := DSt → Mem → (Option Int → Mem → Prop) → Prop
def liftO (K : PySem.W.Frag) (E : XK) (w : DTO) : TO := fun σ H Q' => ∃ F δ M Q, Sm K F H σ δ.s M ∧ LkX K E F M H δ.x ∧ w δ M Q ∧ ∀ o H' M', Wd K F M' H' → Ext F M H M' H' → Q o M' → Q' o H'
abbrev DO (X : Cx) (E : XK) (e : Option Expr) (w : DTO) : Prop := PO X e (liftO X.K E w)
theorem po_mono {X : Cx} {e : Option Expr} {t t' : TO} (h : PO X e t) (m : ∀ σ H Q, t' σ H Q → t σ H Q) : PO X e t' := ⟨fun pins s σ H Q I q => h.run pins s σ H Q I (m σ H Q q)⟩
def wNoPart : DTO := fun _ M Q => Q none M
def wPart (wa : DTE) : DTO := fun δ M Q => wa δ M fun d M1 => match d with | .int i => Q (some i) M1 | _ => False
theorem do_none : DO X E none wNoPart := po_mono po_none fun σ H Q' ⟨F, δ, M, Q, sm, lx, hw, lk⟩ => lk none H M sm.wd (.refl _ _ _) hw
theorem do_some (h : DE X E a wa) : DO X E (some a) (wPart wa) := by
  refine po_mono (po_some h) fun σ H Q' ⟨F, δ, M, Q, sm, lx, hw, lk⟩ => ?_
  refine ⟨F, δ, M, _, sm, lx, hw, fun v H1 d M1 r1 w1 e1 q1 => ?_⟩
  cases d with
  | int i => cases r1; exact ⟨i, rfl, lk _ H1 M1 w1 e1 q1⟩
  | _ => exact (show False from q1).elim
def cutD (ds : List D) (lo hi : Option Int) : List D := (ds.drop (HT.sIx ds.length 0 lo)).take (HT.sIx ds.length ds.length hi - HT.sIx ds.length 0 lo)
theorem RepAll.cut {K : PySem.W.Frag} {B : Addr → Prop} {H : Hp} {vs : List V} {ds : List D} (r : RepAll K B H vs ds) (lo hi : Option Int) : RepAll K B H (cutV vs lo hi) (cutD ds lo hi) := by
  unfold cutV cutD
  rw [r.length]
  exact (r.drop _).take _
/-- what a slice gives, by values -/
abbrev DSl := D → Option Int → Option Int → Mem → DK → Prop
def wCut : DSl := fun x lo hi M Q => match x with | .tup ds => Q (.tup (cutD ds lo hi)) M | _ => False
def wCutL : DSl := fun x lo hi M Q => match sqL M x with | some ds => Q (.lst (cutD ds lo hi)) M | none => False
def OkSl (K : PySem.W.Frag) (r : V → Option Int → Option Int → Hp → VK → Prop) (w : DSl) : Prop := ∀ F M H x lo hi d1 (Q : DK) (Q' : VK), Wd K F M H → Rep K (Bar F M) H x d1 → w d1 lo hi M Q →
  (∀ v H' d M', Rep K (Bar F M') H' v d → Wd K F M' H' → Ext F M H M' H' → Q d M' → Q' v H') → r x lo hi H Q'
def wSl (w : DSl) (wa : DTE) (wl wh : DTO) : DTE := fun δ M Q => wa δ M fun x M1 => wl δ M1 fun l M2 => wh δ M2 fun u M3 => w x l u M3 Q
theorem de_sl {r : V → Option Int → Option Int → Hp → VK → Prop} {w : DSl} {lo hi : Option Expr} {wl wh : DTO} {p2 : Pos} (hr : SlR X r) (ok : OkSl X.K r w) (ha : DE X E a wa) (hl : DO X E lo wl) (hh : DO X E hi wh) :
    DE X E (.Subscript a (.Slice lo hi none p2) pos) (wSl w wa wl wh) := by
  refine pe_mono (pe_slice hr ha hl hh) fun σ H Q' ⟨F, δ, M, Q, sm, lx, hw, lk⟩ => ?_
  refine ⟨F, δ, M, _, sm, lx, hw, fun v H1 d M1 r1 w1 e1 q1 => ?_⟩
  refine ⟨F, δ, M1, _, sm.ext w1 e1, lx.ext w1 e1, q1, fun l H2 M2 w2 e2 q2 => ?_⟩
  refine ⟨F, δ, M2, _, sm.ext w2 (Ext.trans w1 e1 e2), lx.ext w2 (Ext.trans w1 e1 e2), q2, fun u H3 M3 w3 e3 q3 => ?_⟩
  have e23 := Ext.trans w2 e2 e3
  exact ok F M3 H3 v l u d Q Q' w3 (Rep.ext w1 e23 d v r1) q3 fun v' H' d' M' r4 w4 e4 q4 => lk v' H' d' M' r4 w4 (Ext.trans w1 e1 (Ext.trans w3 e23 e4)) q4
theorem ok_cut {K : PySem.W.Frag} : OkSl K (rSlA K) wCut := by
  intro F M H x lo hi d1 Q Q' wd r1 hw lk
  cases d1 with
  | tup ds =>
    cases r1 with
    | @tup a xs _ hs ha =>
      refine ⟨a, xs, rfl, hs, fun z => ?_, fun z p hp => lk _ _ _ M (.newTup wd hp (ha.cut lo hi)) (wd.laid hp) (ext_laid hp) hw⟩
      have e : cutD ds lo hi = ds := by
        unfold cutD
        rw [← ha.length, z.1, z.2, ha.length, List.drop_zero, Nat.sub_zero, List.take_length]
      have hw : Q (.tup (cutD ds lo hi)) M := hw
      rw [e] at hw
      exact lk _ H _ M (.tup hs ha) wd (.refl _ _ _) hw
  | _ => exact (show False from hw).elim
theorem ok_cutL {K : PySem.W.Frag} : OkSl K (rSlL K) wCutL := by
  intro F M H x lo hi d1 Q Q' wd r1 hw lk
  unfold wCutL at hw
  cases hs : sqL M d1 with
  | none => rw [hs] at hw; exact hw.elim
  | some ds =>
    rw [hs] at hw
    obtain ⟨a, xs, rfl, hq, ra⟩ := r1.sqL wd hs
    exact ⟨a, xs, rfl, hq, fun p hp => lk _ _ _ M (.newLst wd hp (ra.cut lo hi)) (wd.laid hp) (ext_laid hp) hw⟩
def wCutV : DSl := fun x lo hi M Q => match x with | .tup ds => Q (.tup (cutD ds lo hi)) M | x => (match sqL M x with | some ds => Q (.lst (cutD ds lo hi)) M | none => False)
theorem slR_or {r r' : V → Option Int → Option Int → Hp → VK → Prop} (h : SlR X r) (h' : SlR X r') : SlR X (fun x lo hi H Q => r x lo hi H Q ∨ r' x lo hi H Q) := by
  intro pins s σ H x v vl vu lo hi sl Q I rx hs pl pu q
  rcases q with q | q
  · exact h pins s σ H x v vl vu lo hi sl Q I rx hs pl pu q
  · exact h' pins s σ H x v vl vu lo hi sl Q I rx hs pl pu q
theorem ok_cutV {K : PySem.W.Frag} : OkSl K (fun x lo hi H Q => rSlA K x lo hi H Q ∨ rSlL K x lo hi H Q) wCutV := by
  intro F M H x lo hi d1 Q Q' wd r1 hw lk
  cases d1 with
  | tup ds => exact .inl (ok_cut F M H x lo hi (.tup ds) Q Q' wd r1 hw lk)
  | _ => exact .inr (ok_cutL F M H x lo hi _ Q Q' wd r1 hw lk)
theorem de_cut {lo hi : Option Expr} {wl wh : DTO} {p2 : Pos} (ha : DE X E a wa) (hl : DO X E lo wl) (hh : DO X E hi wh) : DE X E (.Subscript a (.Slice lo hi none p2) pos) (wSl wCutV wa wl wh) := de_sl (slR_or sl_tupA sl_list) ok_cutV ha hl hh
theorem de_cutL {lo hi : Option Expr} {wl wh : DTO} {p2 : Pos} (ha : DE X E a wa) (hl : DO X E lo wl) (hh : DO X E hi wh) : DE X E (.Subscript a (.Slice lo hi none p2) pos) (wSl wCutL wa wl wh) := de_sl sl_list ok_cutL ha hl hh
def wTup (wr : DTA) : DTE := fun δ M Q => wr δ M fun ds M1 => ds.length ≤ sizeLine ∧ Q (.tup ds) M1
def wLst (wr : DTA) : DTE := fun δ M Q => wr δ M fun ds M1 => ds.length ≤ sizeLine ∧ Q (.lst ds) M1
/-- a display that will be changed -/
def wLstM (wr : DTA) : DTE := fun δ M Q => wr δ M fun ds M1 => ds.length ≤ sizeLine ∧ ∀ p, M1 p = none → Q (.ref p) (updM M1 p (.lst ds))
theorem de_tup {es : List Expr} {wr : DTA} {x1} (h : DA X E es wr) : DE X E (.Tuple es x1 pos) (wTup wr) := by
  refine pe_mono (pe_tup h) fun σ H Q' ⟨F, δ, M, Q, sm, lx, hw, lk⟩ => ?_
  refine ⟨F, δ, M, _, sm, lx, hw, fun vs H1 ds M1 r1 w1 e1 q1 => ⟨by rw [r1.length]; exact q1.1, fun p hp => ?_⟩⟩
  exact lk _ _ _ M1 (.newTup w1 hp r1) (w1.laid hp) (Ext.trans w1 e1 (ext_laid hp)) q1.2
theorem de_lst {es : List Expr} {wr : DTA} (h : DA X E es wr) : DE X E (.List es pos) (wLst wr) := by
  refine pe_mono (pe_lst h) fun σ H Q' ⟨F, δ, M, Q, sm, lx, hw, lk⟩ => ?_
  refine ⟨F, δ, M, _, sm, lx, hw, fun vs H1 ds M1 r1 w1 e1 q1 => ⟨by rw [r1.length]; exact q1.1, fun p hp => ?_⟩⟩
  exact lk _ _ _ M1 (.newLst w1 hp r1) (w1.laid hp) (Ext.trans w1 e1 (ext_laid hp)) q1.2
theorem de_lstM {es : List Expr} {wr : DTA} (h : DA X E es wr) : DE X E (.List es pos) (wLstM wr) := by
  refine pe_mono (pe_lst h) fun σ H Q' ⟨F, δ, M, Q, sm, lx, hw, lk⟩ => ?_
  refine ⟨F, δ, M, _, sm, lx, hw, fun vs H1 ds M1 r1 w1 e1 q1 => ⟨by rw [r1.length]; exact q1.1, fun p hp => ?_⟩⟩
  have x : Ext F M1 H1 (updM M1 p (.lst ds)) (upd H1 p (.lst vs)) := ext_laidM hp
  exact lk _ _ _ _ (.ref p) (w1.laidM (m := .lst ds) hp ⟨vs, upd_same, RepAll.ext w1 x ds vs r1⟩) (Ext.trans w1 e1 x) (q1.2 p (w1.noM hp))
/-- what was made to be changed is data from here on -/
def wFrz (wa : DTE) : DTE := fun δ M Q => wa δ M fun d M1 => match d with | .ref p => onO (moL (M1 p)) fun ds => Q (.lst ds) (delM M1 p) | _ => False
theorem bar_del {F : Addr → Prop} {M : Mem} {p a : Addr} (h : Bar F (delM M p) a) : Bar F M a := by
  rcases h with h | ⟨o, h⟩
  · exact .inl h
  · unfold delM at h
    by_cases e : a = p
    · rw [if_pos e] at h; cases h
    · rw [if_neg e] at h; exact .inr ⟨o, h⟩
theorem ext_del {F : Addr → Prop} {M : Mem} {H : Hp} {p : Addr} : Ext F M H (delM M p) H :=
  ⟨fun _ _ h _ => h, fun a o h => by
    rcases bar_del (F := fun _ => False) (.inr ⟨o, h⟩ : Bar (fun _ => False) (delM M p) a) with z | z
    · exact z.elim
    · exact .inl z⟩
theorem Wd.del {K : PySem.W.Frag} {F : Addr → Prop} {M : Mem} {H : Hp} {p : Addr} (w : Wd K F M H) : Wd K F (delM M p) H where
  mem := fun a m h => by
    have h' : M a = some m := by
      unfold delM at h
      by_cases e : a = p
      · rw [if_pos e] at h; cases h
      · rw [if_neg e] at h; exact h
    exact RepO.ext w ext_del (fun _ q => q) (w.mem a m h')
  hid := fun a h => ⟨by
    unfold delM
    by_cases e : a = p
    · rw [if_pos e]
    · rw [if_neg e]; exact (w.hid a h).1, (w.hid a h).2⟩
theorem de_frz (ha : DE X E a wa) : DE X E a (wFrz wa) := by
  refine pe_mono ha fun σ H Q' ⟨F, δ, M, Q, sm, lx, hw, lk⟩ => ?_
  refine ⟨F, δ, M, _, sm, lx, hw, fun v H1 d M1 r1 w1 e1 q1 => ?_⟩
  cases d with
  | ref p =>
    cases r1
    obtain ⟨ds, hm, q1⟩ := onO_e q1
    · have hm := moL_some hm
      obtain ⟨vs, h1, ra⟩ := w1.mem p _ hm
      refine lk _ H1 _ _ (.lst h1 ?_ (RepAll.ext w1 ext_del ds vs ra)) w1.del (Ext.trans w1 e1 ext_del) q1
      rintro (z | ⟨o, z⟩)
      · rw [(w1.hid p z).1] at hm; cases hm
      · unfold delM at z; rw [if_pos rfl] at z; cases z
  | _ => exact (show False from q1).elim
end
end Bx

set_option Elab.async false
set_option linter.all false
set_option maxRecDepth 100000
set_option maxHeartbeats 2000000
namespace Bx
open PySem PySem.Spec L2
open PyProof.Rows hiding St
open RZ (ItzT iZipA)

/-! ### targets: names, tuples of targets -/
inductive Tg where
  | nm (i : Nat)
  | tp (ts : List Tg)
mutual
def Tg.v (K : PySem.W.Frag) : Tg → TG
  | .nm i => gName i
  | .tp ts => gTup K ts.length (Tg.vs K ts)
def Tg.vs (K : PySem.W.Frag) : List Tg → TGs
  | [] => gNil
  | t :: ts => gCons (t.v K) (Tg.vs K ts)
end
mutual
/-- the slots behind the assignment -/
def Tg.set : Tg → D → List (Option D) → Option (List (Option D))
  | .nm i, d, s => some (s.set i (some d))
  | .tp ts, .tup ds, s => Tg.sets ts ds s
  | .tp _, _, _ => none
def Tg.sets : List Tg → List D → List (Option D) → Option (List (Option D))
  | [], [], s => some s
  | t :: ts, d :: ds, s => match t.set d s with | some s' => Tg.sets ts ds s' | none => none
  | _, _, _ => none
end
mutual
def Tg.ixs : Tg → List Nat
  | .nm i => [i]
  | .tp ts => Tg.ixss ts
def Tg.ixss : List Tg → List Nat
  | [] => []
  | t :: ts => t.ixs ++ Tg.ixss ts
end
theorem wipe_set_mem {σ : L2.St} {i : Nat} {v : Option V} : ∀ {vs : List Nat}, i ∈ vs → wipe (σ.set i v) vs = wipe σ vs
  | [], h => by simp at h
  | j :: vs, h => by
    unfold wipe
    by_cases e : i ∈ vs
    · rw [wipe_set_mem e]
    · have hj : i = j := by
        rcases List.mem_cons.mp h with z | z
        · exact z
        · exact absurd z e
      subst hj
      have key : ∀ (vs : List Nat), i ∉ vs → wipe (σ.set i v) vs = (wipe σ vs).set i v := fun vs => by
        induction vs with
        | nil => intro _; rfl
        | cons k vs ih =>
          intro hn
          unfold wipe
          rw [ih (fun z => hn (List.mem_cons_of_mem _ z)), List.set_comm _ _ (fun z => hn (by rw [z]; exact List.mem_cons_self))]
      rw [key vs e, List.set_set]
mutual
theorem Tg.ok {K : PySem.W.Frag} {F : Addr → Prop} {M : Mem} {H : Hp} : ∀ (t : Tg) (d : D) (v : V) (σ : L2.St) (s s' : List (Option D)) (Q : L2.St → Hp → Prop), Sm K F H σ s M → Rep K (Bar F M) H v d → t.set d s = some s' →
    (∀ σ', Sm K F H σ' s' M → (∀ vs, (∀ i ∈ t.ixs, i ∈ vs) → wipe σ' vs = wipe σ vs) → Q σ' H) → t.v K v σ H Q
  | .nm i, d, v, σ, s, s', Q, sm, r, e, lk => by
    have e : some (s.set i (some d)) = some s' := e
    cases e
    show Q (σ.set i (some v)) H
    exact lk _ ⟨sm.sl.set r i, sm.wd⟩ fun vs hv => wipe_set_mem (hv i (by simp [Tg.ixs]))
  | .tp ts, d, v, σ, s, s', Q, sm, r, e, lk => by
    cases d with
    | tup ds =>
      have e : Tg.sets ts ds s = some s' := e
      cases r with
      | @tup a xs _ hs ha =>
        have hl : xs.length = ts.length := by rw [ha.length]; exact Tg.sets_len ts ds s s' e
        exact ⟨a, xs, rfl, hs, hl, Tg.oks ts ds xs σ s s' Q sm ha e fun σ' sm' hw => lk σ' sm' fun vs hv => hw vs hv⟩
    | _ => cases (show none = some s' from e)
theorem Tg.oks {K : PySem.W.Frag} {F : Addr → Prop} {M : Mem} {H : Hp} : ∀ (ts : List Tg) (ds : List D) (xs : List V) (σ : L2.St) (s s' : List (Option D)) (Q : L2.St → Hp → Prop), Sm K F H σ s M → RepAll K (Bar F M) H xs ds → Tg.sets ts ds s = some s' →
    (∀ σ', Sm K F H σ' s' M → (∀ vs, (∀ i ∈ Tg.ixss ts, i ∈ vs) → wipe σ' vs = wipe σ vs) → Q σ' H) → Tg.vs K ts xs σ H Q
  | [], [], xs, σ, s, s', Q, sm, r, e, lk => by
    cases e
    cases r
    exact ⟨rfl, lk σ sm fun _ _ => rfl⟩
  | t :: ts, d :: ds, xs, σ, s, s', Q, sm, r, e, lk => by
    cases r with
    | @cons v vs _ _ r1 r2 =>
      have e' : (match t.set d s with | some s1 => Tg.sets ts ds s1 | none => none) = some s' := e
      cases h1 : t.set d s with
      | none => rw [h1] at e'; cases e'
      | some s1 =>
        rw [h1] at e'
        refine ⟨v, vs, rfl, Tg.ok t d v σ s s1 _ sm r1 h1 fun σ1 sm1 w1 => ?_⟩
        exact Tg.oks ts ds vs σ1 s1 s' Q sm1 r2 e' fun σ2 sm2 w2 => lk σ2 sm2 fun vs hv => (w2 vs fun i hi => hv i (List.mem_append_right _ hi)).trans (w1 vs fun i hi => hv i (List.mem_append_left _ hi))
  | [], _ :: _, _, _, _, _, _, _, _, e, _ => by cases e
  | _ :: _, [], _, _, _, _, _, _, _, e, _ => by cases e
theorem Tg.sets_len : ∀ (ts : List Tg) (ds : List D) (s s' : List (Option D)), Tg.sets ts ds s = some s' → ds.length = ts.length
  | [], [], _, _, _ => rfl
  | t :: ts, d :: ds, s, s', e => by
    have e' : (match t.set d s with | some s1 => Tg.sets ts ds s1 | none => none) = some s' := e
    cases h1 : t.set d s with
    | none => rw [h1] at e'; cases e'
    | some s1 => rw [h1] at e'; exact congrArg (· + 1) (Tg.sets_len ts ds s1 s' e')
  | [], _ :: _, _, _, e => by cases e
  | _ :: _, [], _, _, e => by cases e
end
/-- s with v at i, handed on -/
def setK : List (Option D) → Nat → Option D → (List (Option D) → Prop) → Prop
  | [], _, _, k => k []
  | _ :: xs, 0, v, k => k (v :: xs)
  | x :: xs, i + 1, v, k => setK xs i v fun ys => k (x :: ys)
theorem setK_eq : ∀ (s : List (Option D)) (i : Nat) (v : Option D) (k : List (Option D) → Prop), setK s i v k = k (s.set i v)
  | [], _, _, _ => rfl
  | _ :: _, 0, _, _ => rfl
  | x :: xs, i + 1, v, k => setK_eq xs i v fun ys => k (x :: ys)
mutual
def Tg.setK : Tg → D → List (Option D) → (List (Option D) → Prop) → Prop
  | .nm i, d, s, k => Bx.setK s i (some d) k
  | .tp ts, .tup ds, s, k => Tg.setsK ts ds s k
  | .tp _, _, _, _ => False
def Tg.setsK : List Tg → List D → List (Option D) → (List (Option D) → Prop) → Prop
  | [], [], s, k => k s
  | t :: ts, d :: ds, s, k => Tg.setK t d s fun s' => Tg.setsK ts ds s' k
  | _, _, _, _ => False
end
mutual
theorem Tg.setK_e : ∀ (t : Tg) (d : D) (s : List (Option D)) (k : List (Option D) → Prop), t.setK d s k → ∃ s', t.set d s = some s' ∧ k s'
  | .nm i, d, s, k, h => by
    have h : Bx.setK s i (some d) k := h
    rw [setK_eq] at h
    exact ⟨_, rfl, h⟩
  | .tp ts, d, s, k, h => by
    cases d with
    | tup ds => exact Tg.setsK_e ts ds s k h
    | _ => exact (show False from h).elim
theorem Tg.setsK_e : ∀ (ts : List Tg) (ds : List D) (s : List (Option D)) (k : List (Option D) → Prop), Tg.setsK ts ds s k → ∃ s', Tg.sets ts ds s = some s' ∧ k s'
  | [], [], s, k, h => ⟨s, rfl, h⟩
  | t :: ts, d :: ds, s, k, h => by
    obtain ⟨s1, e1, h1⟩ := Tg.setK_e t d s _ h
    obtain ⟨s2, e2, h2⟩ := Tg.setsK_e ts ds s1 k h1
    exact ⟨s2, by show (match t.set d s with | some s' => Tg.sets ts ds s' | none => none) = _; rw [e1]; exact e2, h2⟩
  | [], _ :: _, _, _, h => (show False from h).elim
  | _ :: _, [], _, _, h => (show False from h).elim
end
abbrev DG (X : Cx) (target : Expr) (t : Tg) : Prop := PG X target (t.v X.K)
abbrev DGs (X : Cx) (ts : List Expr) (us : List Tg) : Prop := PGs X ts (Tg.vs X.K us)
section
variable {X : Cx} {E : XK} {k : Nat} {a b c e : Expr} {wa wb wc : DTE} {ta tb : DTT} {pos : Pos}
theorem dg_nm (hX : DX X E k) (i : Nat) {x : Str} (hi : X.N[i]? = some x := by rfl) (hx : Loc X.env.scope x := by first | exact .inl rfl | exact .inr rfl) (hf : X.fn x = true ∨ X.env.scope.names.lookup x = some .local := by first | exact .inl rfl | exact .inr rfl) : DG X (.Name x pos) (.nm i) :=
  pg_name hX.nd hi hx hf
theorem dgs_nil : DGs X [] [] := pgs_nil
theorem dgs_cons {e : Expr} {es : List Expr} {t : Tg} {ts : List Tg} (h1 : DG X e t) (h2 : DGs X es ts) (hs : (assignEach (e :: es) X.env).map (·.2) = assign e X.env :: (assignEach es X.env).map (·.2) := by rfl) : DGs X (e :: es) (t :: ts) := pgs_cons h1 h2 hs
theorem dg_tup {es : List Expr} {n : Nat} {ts : List Tg} (hX : DX X E k) (h : DGs X es ts) (hn : (assignEach es X.env).length = ts.length := by rfl) (hst : (assignEach es X.env).findIdx? (·.1) = none := by rfl) : DG X (.Tuple es n pos) (.tp ts) :=
  pg_tup hX.calm h hn hst

/-! ### statements -/
def wNext : DTS := fun D δ M => D.nx δ M
def wSeq (t u : DTS) : DTS := fun D δ M => t { D with nx := u D } δ M
theorem dss_nil : DSs X E [] wNext := pss_mono pss_nil fun Dh σ H ⟨F, δ, M, Dd, sm, lx, ld, hw⟩ => ld.nx σ H δ M sm (.refl _ _ _) rfl hw
theorem dss_cons {st : Stmt} {rest : List Stmt} {t u : DTS} (h1 : DS X E st t) (h2 : DSs X E rest u) : DSs X E (st :: rest) (wSeq t u) := by
  refine pss_mono (pss_cons h1 h2) fun Dh σ H ⟨F, δ, M, Dd, sm, lx, ld, hw⟩ => ?_
  refine ⟨F, δ, M, { Dd with nx := u Dd }, sm, lx, ⟨fun σ' H' δ' M' s' e' ex q => ?_, ld.rt, ld.bk, ld.ct⟩, hw⟩
  exact ⟨F, δ', M', Dd, s', by rw [ex]; exact lx.ext s'.wd e', by rw [ex]; exact ld.ext s'.wd e', q⟩
theorem dss_one {st : Stmt} {t : DTS} (h1 : DS X E st t) : DSs X E [st] t := pss_one h1
def wDrop (wa : DTE) : DTS := fun D δ M => wa δ M fun _ M1 => D.nx δ M1
theorem ds_expr (he : DE X E e wa) (hs : swapsWith e none pos.line X.env = pure false := by rfl) : DS X E (.Expr e pos) (wDrop wa) := by
  refine ps_mono (ps_expr he hs) fun Dh σ H ⟨F, δ, M, Dd, sm, lx, ld, hw⟩ => ?_
  exact ⟨F, δ, M, _, sm, lx, hw, fun v H1 d M1 r1 w1 e1 q1 => ld.nx σ H1 δ M1 (sm.ext w1 e1) e1 rfl q1⟩
def wRet (wa : DTE) : DTS := fun D δ M => wa δ M D.rt
theorem ds_ret (he : DE X E e wa) : DS X E (.Return (some e) pos) (wRet wa) := by
  refine ps_mono (ps_ret he) fun Dh σ H ⟨F, δ, M, Dd, sm, lx, ld, hw⟩ => ?_
  exact ⟨F, δ, M, _, sm, lx, hw, fun v H1 d M1 r1 w1 e1 q1 => ld.rt v H1 d M1 r1 w1 e1 q1⟩
def wRetN : DTS := fun D _ M => D.rt .non M
theorem ds_retN : DS X E (.Return none pos) wRetN := ps_mono ps_retN fun Dh σ H ⟨F, δ, M, Dd, sm, lx, ld, hw⟩ => ld.rt _ H _ M .non sm.wd (.refl _ _ _) hw
theorem ds_pass : DS X E (.Pass pos) wNext := ps_mono ps_pass fun Dh σ H ⟨F, δ, M, Dd, sm, lx, ld, hw⟩ => ld.nx σ H δ M sm (.refl _ _ _) rfl hw
def wBreak : DTS := fun D δ M => D.bk δ M
def wCont : DTS := fun D δ M => D.ct δ M
theorem ds_break : DS X E (.Break pos) wBreak := ps_mono ps_break fun Dh σ H ⟨F, δ, M, Dd, sm, lx, ld, hw⟩ => ld.bk σ H δ M sm (.refl _ _ _) rfl hw
theorem ds_continue : DS X E (.Continue pos) wCont := ps_mono ps_continue fun Dh σ H ⟨F, δ, M, Dd, sm, lx, ld, hw⟩ => ld.ct σ H δ M sm (.refl _ _ _) rfl hw
def wIf (tc : DTT) (t u : DTS) : DTS := fun D δ M => tc δ M fun b M1 => onT b (t D δ M1) (u D δ M1)
theorem ds_if {c : Expr} {x y : List Stmt} {tc : DTT} {t u : DTS} (hc : DT X E c tc) (ha : DSs X E x t) (hb : DSs X E y u) : DS X E (.If c x y pos) (wIf tc t u) := by
  refine ps_mono (ps_if hc ha hb) fun Dh σ H ⟨F, δ, M, Dd, sm, lx, ld, hw⟩ => ?_
  refine ⟨F, δ, M, _, sm, lx, hw, fun b H1 M1 w1 e1 q1 => ?_⟩
  cases b with
  | true => exact ite_tt ⟨F, δ, M1, Dd, sm.ext w1 e1, lx.ext w1 e1, ld.ext w1 e1, q1⟩
  | false => exact ite_ff ⟨F, δ, M1, Dd, sm.ext w1 e1, lx.ext w1 e1, ld.ext w1 e1, q1⟩
/-- target = e -/
def wAsg (wa : DTE) (t : Tg) : DTS := fun D ⟨s0, x0⟩ M => wa ⟨s0, x0⟩ M fun d M1 => t.setK d s0 fun s => D.nx ⟨s, x0⟩ M1
theorem ds_asg {tg : Expr} {t : Tg} (he : DE X E e wa) (hg : DG X tg t) (hs : swapsWithSole [tg] e pos.line X.env = pure false := by rfl) (hw : swappedStores [tg] e X.env = pure none := by rfl) (h1 : (assignEach [tg] X.env).map (·.2) = [assign tg X.env] := by rfl) : DS X E (.Assign [tg] e pos) (wAsg wa t) := by
  refine ps_mono (ps_asg he hg hs hw h1) fun Dh σ H ⟨F, δ, M, Dd, sm, lx, ld, hw⟩ => ?_
  refine ⟨F, δ, M, _, sm, lx, hw, fun v H1 d M1 r1 w1 e1 q1 => ?_⟩
  obtain ⟨s, hs, q1⟩ := Tg.setK_e t d δ.s _ q1
  exact Tg.ok t d v σ δ.s s _ (sm.ext w1 e1) r1 hs fun σ' sm' _ => ld.nx σ' H1 ⟨s, δ.x⟩ M1 sm' e1 rfl q1
theorem ds_set (hX : DX X E k) (i : Nat) {x : Str} {pos' : Pos} (he : DE X E e wa) (hi : X.N[i]? = some x := by rfl) (hx : Loc X.env.scope x := by first | exact .inl rfl | exact .inr rfl) (hs : swapsWith e (some (.Name x pos')) pos.line X.env = pure false := by rfl) (hf : X.fn x = true ∨ X.env.scope.names.lookup x = some .local := by first | exact .inl rfl | exact .inr rfl) :
    DS X E (.Assign [.Name x pos'] e pos) (wAsg wa (.nm i)) := by
  refine ps_mono (ps_set hX.nd hi hx he hs hf) fun Dh σ H ⟨F, δ, M, Dd, sm, lx, ld, hw⟩ => ?_
  refine ⟨F, δ, M, _, sm, lx, hw, fun v H1 d M1 r1 w1 e1 q1 => ?_⟩
  have q1 : setK δ.s i (some d) fun s => Dd.nx ⟨s, δ.x⟩ M1 := q1
  rw [setK_eq] at q1
  exact ld.nx _ H1 ⟨δ.s.set i (some d), δ.x⟩ M1 ⟨(sm.ext w1 e1).sl.set r1 i, w1⟩ e1 rfl q1
/-- x, y = a, b -/
def wPar (i j : Nat) (wr : DTA) : DTS := fun D ⟨s0, x0⟩ M => wr ⟨s0, x0⟩ M fun ds M1 => match ds with | [d, e] => setK s0 i (some d) fun s1 => setK s1 j (some e) fun s2 => D.nx ⟨s2, x0⟩ M1 | _ => False
theorem ds_par (hX : DX X E k) (i j : Nat) {x y : Str} {wr : DTA} {px py pt : Pos} {kt k2 pt2} (ha : DA X E [a, b] wr) (hw : swappedStores [.Tuple [.Name x px, .Name y py] kt pt] (.Tuple [a, b] k2 pt2) X.env = pure (some [x, y]) := by rfl) (hij : i ≠ j := by decide) (hi : X.N[i]? = some x := by rfl) (hj : X.N[j]? = some y := by rfl)
    (hx : X.env.scope.names.lookup x = some .local := by rfl) (hy : X.env.scope.names.lookup y = some .local := by rfl) 
    (hs : swapsWithSole [.Tuple [.Name x px, .Name y py] kt pt] (.Tuple [a, b] k2 pt2) pos.line X.env = pure false := by rfl) :
    DS X E (.Assign [.Tuple [.Name x px, .Name y py] kt pt] (.Tuple [a, b] k2 pt2) pos) (wPar i j wr) := by
  refine ps_mono (ps_par hX.calm hX.nd hi hj hij hx hy ha hw hs) fun Dh σ H ⟨F, δ, M, Dd, sm, lx, ld, hw⟩ => ?_
  refine ⟨F, δ, M, _, sm, lx, hw, fun vs H1 ds M1 r1 w1 e1 q1 => ?_⟩
  match ds, r1, q1 with
  | [d, e], .cons h1 (.cons h2 .nil), q1 =>
    have q1 : setK δ.s i (some d) fun s1 => setK s1 j (some e) fun s2 => Dd.nx ⟨s2, δ.x⟩ M1 := q1
    rw [setK_eq, setK_eq] at q1
    refine ⟨_, _, rfl, ld.nx _ H1 ⟨(δ.s.set i (some d)).set j (some e), δ.x⟩ M1 ⟨((sm.ext w1 e1).sl.set h1 i).set h2 j, w1⟩ e1 rfl q1⟩
/-- a statement never reached -/
def wNever : DTS := fun _ _ _ => False
theorem ds_never {st : Stmt} : DS X E st wNever := ps_mono ps_never fun Dh σ H ⟨F, δ, M, Dd, sm, lx, ld, hw⟩ => hw
theorem dss_never {st : List Stmt} : DSs X E st wNever := pss_mono pss_never fun Dh σ H ⟨F, δ, M, Dd, sm, lx, ld, hw⟩ => hw

/-! ### while -/
/-- a loop under a test from here on -/
structure WhGoal (tc : DTT) (tb : DTS) (D : DEnds) (δ : DSt) (M : Mem) : Prop where
  ex : ∃ W : Nat → DSt → Mem → Prop, (∃ m, W m δ M) ∧ ∀ m δ M, W m δ M →
    tc δ M fun b M1 => onT b (tb { D with nx := fun δ' M' => ∃ m', m' < m ∧ W m' δ' M', ct := fun δ' M' => ∃ m', m' < m ∧ W m' δ' M', bk := D.nx } δ M1) (D.nx δ M1)
def wWhile (tc : DTT) (tb : DTS) : DTS := fun D δ M => WhGoal tc tb D δ M
theorem ds_while {body : List Stmt} {tc : DTT} {tb : DTS} (hX : DX X E k) (hc : DT X E c tc) (hb : DSs X E body tb) : DS X E (.While c body [] pos) (wWhile tc tb) := by
  refine ps_mono (ps_while hX.po hc hb) fun Dh σ H ⟨F, δ, M, Dd, sm, lx, ld, ⟨W, ⟨m0, w0⟩, turn⟩⟩ => ?_
  refine ⟨fun m σ1 H1 => ∃ δ1 M1, Sm X.K F H1 σ1 δ1.s M1 ∧ Ext F M H M1 H1 ∧ δ1.x = δ.x ∧ W m δ1 M1, ⟨m0, δ, M, sm, .refl _ _ _, rfl, w0⟩, fun m σ1 H1 ⟨δ1, M1, sm1, e1, ex1, w1⟩ => ?_⟩
  refine ⟨F, δ1, M1, _, sm1, by rw [ex1]; exact lx.ext sm1.wd e1, turn m δ1 M1 w1, fun b H2 M2 w2 e2 q2 => ?_⟩
  have e12 := Ext.trans sm1.wd e1 e2
  cases b with
  | true =>
    refine ite_tt ⟨fun σ' H' => ∃ m', m' < m ∧ ∃ δ1 M1, Sm X.K F H' σ' δ1.s M1 ∧ Ext F M H M1 H' ∧ δ1.x = δ.x ∧ W m' δ1 M1, fun σ' H' h => h, ?_⟩
    have nxt : ∀ σ' H' δ' M', Sm X.K F H' σ' δ'.s M' → Ext F M2 H2 M' H' → δ'.x = δ1.x → (∃ m', m' < m ∧ W m' δ' M') → ∃ m', m' < m ∧ ∃ δ1 M1, Sm X.K F H' σ' δ1.s M1 ∧ Ext F M H M1 H' ∧ δ1.x = δ.x ∧ W m' δ1 M1 :=
      fun σ' H' δ' M' s' e' ex' ⟨m', hm, wm⟩ => ⟨m', hm, δ', M', s', Ext.trans w2 e12 e', ex'.trans ex1, wm⟩
    have lk2 := ld.ext w2 e12
    exact ⟨F, δ1, M2, { Dd with nx := fun δ' M' => ∃ m', m' < m ∧ W m' δ' M', ct := fun δ' M' => ∃ m', m' < m ∧ W m' δ' M', bk := Dd.nx }, sm1.ext w2 e2, by rw [ex1]; exact lx.ext w2 e12, ⟨nxt, lk2.rt, by rw [ex1]; exact lk2.nx, nxt⟩, q2⟩
  | false => exact ite_ff (ld.nx σ1 H2 δ1 M2 (sm1.ext w2 e2) e12 ex1 q2)

/-! ### what a loop walks -/
abbrev DTI := DSt → Mem → (List D → Mem → Prop) → Prop
/-- from M1, H1 on the iterator yields ds -/
def ItOk (K : PySem.W.Frag) (F : Addr → Prop) (M1 : Mem) (H1 : Hp) (J : It) (ds : List D) : Prop :=
  ∀ F' M H, (∀ a, F' a → Bar F M1 a ∨ H1 a = none) → Wd K F' M H → Ext F M1 H1 M H →
    (∀ (i : Nat) d, ds[i]? = some d → J.go i H ∧ ∀ x H', J.yld i H x H' → Rep K (Bar F' M) H' x d ∧ Wd K F' M H' ∧ Ext F' M H M H') ∧ ∀ i, ds.length ≤ i → J.stop i H
def liftI (K : PySem.W.Frag) (E : XK) (w : DTI) : TI := fun σ H R => ∃ F δ M Q, Sm K F H σ δ.s M ∧ LkX K E F M H δ.x ∧ w δ M Q ∧ ∀ J H' ds M', Wd K F M' H' → ItOk K F M' H' J ds → Ext F M H M' H' → Q ds M' → R J H'
abbrev DI (X : Cx) (E : XK) (tg iter : Expr) (w : DTI) : Prop := PI X tg iter (liftI X.K E w)
theorem pi_mono {tg iter : Expr} {t t' : TI} (h : PI X tg iter t) (m : ∀ σ H R, t' σ H R → t σ H R) : PI X tg iter t' := ⟨fun pins s σ H R I q => h.run pins s σ H R I (m σ H R q)⟩
theorem itOk_tup {K : PySem.W.Frag} {F : Addr → Prop} {M1 : Mem} {H1 : Hp} {a : Addr} {xs : List V} {ds : List D} (w : Wd K F M1 H1) (hs : SqT K H1 a xs) (ha : RepAll K (Bar F M1) H1 xs ds) : ItOk K F M1 H1 (Itt K a) ds := by
  intro F' M H hF wd e
  have hs' := SqT.ext w e hs
  refine ⟨fun i d hd => ?_, fun i hi => ⟨xs, hs', by rw [ha.length]; exact hi⟩⟩
  obtain ⟨v, hv, rv⟩ := ha.get hd
  refine ⟨⟨xs, v, hs', hv⟩, fun x H' ⟨eH, hx⟩ => ?_⟩
  subst eH
  have : x = v := Option.some.inj ((hx xs hs').symm.trans hv)
  subst this
  exact ⟨Rep.extF w e hF d x rv, wd, .refl _ _ _⟩
theorem itOk_lst {K : PySem.W.Frag} {F : Addr → Prop} {M1 : Mem} {H1 : Hp} {a : Addr} {xs : List V} {ds : List D} (w : Wd K F M1 H1) (hs : ∀ M H, Ext F M1 H1 M H → SqL K H a xs) (ha : RepAll K (Bar F M1) H1 xs ds) : ItOk K F M1 H1 (Itl K a) ds := by
  intro F' M H hF wd e
  have hs' := hs M H e
  refine ⟨fun i d hd => ?_, fun i hi => ⟨xs, hs', by rw [ha.length]; exact hi⟩⟩
  obtain ⟨v, hv, rv⟩ := ha.get hd
  refine ⟨⟨xs, v, hs', hv⟩, fun x H' ⟨eH, hx⟩ => ?_⟩
  subst eH
  have : x = v := Option.some.inj ((hx xs hs').symm.trans hv)
  subst this
  exact ⟨Rep.extF w e hF d x rv, wd, .refl _ _ _⟩
/-- over a list or a tuple -/
def iSeq (K : PySem.W.Frag) (tl : TE) : TI := fun σ H R => tl σ H fun x H1 => ∃ a, x = .ref a ∧ (((∃ xs, SqL K H1 a xs) ∧ R (Itl K a) H1) ∨ ((∃ xs, SqT K H1 a xs) ∧ R (Itt K a) H1))
theorem pi_seq {tg l : Expr} {tl : TE} (hl : PE X l tl) : PI X tg l (iSeq X.K tl) := by
  refine ⟨fun pins s σ H R I h => ?_⟩
  refine thn (hl.run pins s σ H _ I h) fun v s1 ⟨x, H1, I1, r1, q1⟩ => ?_
  obtain ⟨a, e, q⟩ := q1
  subst e
  cases r1
  rcases q with ⟨⟨xs, hq⟩, q⟩ | ⟨⟨xs, hq⟩, q⟩
  · obtain ⟨its, rv, p, hz⟩ := I1.list hq
    refine wpAny_pyIter_list p.isList ?_
    refine ⟨s1.heap.objs.size, [s1.heap.objs.size], _, _, H1, rfl, I1.kept (t' := s1.toks) fun b o e => Heap.get?_push_of_some _ e, turn_list a _, ⟨_, Heap.get?_push_size _ rfl, rfl, rfl⟩, fun b hb => ?_, q⟩
    have e : b = s1.heap.objs.size := by simpa using hb
    subst e
    exact I1.fpOk (Nat.le_refl _) (I1.hok.fresh (Nat.le_refl _))
  · obtain ⟨its, rv, p, hz⟩ := I1.tuple hq
    refine wpAny_pyIter_tuple (show s1.heap.IsTuple a its.toArray from p) ?_
    refine ⟨s1.heap.objs.size, [s1.heap.objs.size], _, _, H1, rfl, I1.kept (t' := s1.toks) fun b o e => Heap.get?_push_of_some _ e, turn_tuple a _, ⟨_, Heap.get?_push_size _ rfl, rfl, rfl⟩, fun b hb => ?_, q⟩
    have e : b = s1.heap.objs.size := by simpa using hb
    subst e
    exact I1.fpOk (Nat.le_refl _) (I1.hok.fresh (Nat.le_refl _))
def sqI : D → Option (List D)
  | .tup ds => some ds
  | .lst ds => some ds
  | .fro ds => some ds
  | _ => none
def wSeqI (wa : DTE) : DTI := fun δ M Q => wa δ M fun d M1 => match sqI d with | some ds => Q ds M1 | none => False
theorem di_seq {tg : Expr} (ha : DE X E a wa) : DI X E tg a (wSeqI wa) := by
  refine pi_mono (pi_seq ha) fun σ H R ⟨F, δ, M, Q, sm, lx, hw, lk⟩ => ?_
  refine ⟨F, δ, M, _, sm, lx, hw, fun v H1 d M1 r1 w1 e1 q1 => ?_⟩
  cases d with
  | tup ds => cases r1 with | @tup a xs _ hs ra => exact ⟨a, rfl, .inr ⟨⟨xs, hs⟩, lk _ H1 ds M1 w1 (itOk_tup w1 hs ra) e1 q1⟩⟩
  | lst ds => cases r1 with | @lst a xs _ hs n ra => exact ⟨a, rfl, .inl ⟨⟨xs, .of hs⟩, lk _ H1 ds M1 w1 (itOk_lst w1 (fun M H e => .of (e.keep _ _ hs (.inr (bar_none n)))) ra) e1 q1⟩⟩
  | fro ds => cases r1 with | @fro a xs _ hs ra => exact ⟨a, rfl, .inl ⟨⟨xs, hs.sql⟩, lk _ H1 ds M1 w1 (itOk_lst w1 (fun M H e => (SqF.ext w1 e hs).sql) ra) e1 q1⟩⟩
  | _ => exact (show False from q1).elim
/-- range(n), range(a, b) -/
def rngD (lo : Int) (n : Nat) : List D := (List.range n).map fun i => .int (lo + (i : Nat))
theorem rngD_get {lo : Int} {n i : Nat} {d : D} (h : (rngD lo n)[i]? = some d) : i < n ∧ d = .int (lo + (i : Nat)) := by
  unfold rngD at h
  rw [List.getElem?_map] at h
  by_cases hi : i < n
  · rw [List.getElem?_range hi] at h
    exact ⟨hi, (Option.some.inj h).symm⟩
  · rw [List.getElem?_eq_none (by simpa using hi)] at h; cases h
theorem rngD_len {lo : Int} {n : Nat} : (rngD lo n).length = n := by unfold rngD; simp
theorem itOk_rng {K : PySem.W.Frag} {F : Addr → Prop} {M1 : Mem} {H1 : Hp} {lo : Int} {n : Nat} : ItOk K F M1 H1 (Itr lo n) (rngD lo n) := by
  intro F' M H hF wd e
  refine ⟨fun i d hd => ?_, fun i hi => by rw [rngD_len] at hi; exact hi⟩
  obtain ⟨h1, h2⟩ := rngD_get hd
  refine ⟨h1, fun x H' ⟨eH, hx⟩ => ?_⟩
  subst eH; subst hx; subst h2
  exact ⟨.int _, wd, .refl _ _ _⟩
def wRng1 (wr : DTA) : DTI := fun δ M Q => wr δ M fun ds M1 => match ds with | [.int j] => (-(2 ^ 62) ≤ j ∧ j < 2 ^ 62) ∧ Q (rngD 0 j.toNat) M1 | _ => False
def wRng2 (wr : DTA) : DTI := fun δ M Q => wr δ M fun ds M1 => match ds with | [.int i, .int j] => (-(2 ^ 62) ≤ i ∧ i < 2 ^ 62 ∧ -(2 ^ 62) ≤ j ∧ j < 2 ^ 62) ∧ Q (rngD i (j - i).toNat) M1 | _ => False
theorem di_rng1 {tg : Expr} {wr : DTA} {p : Pos} (hm : X.mg "range" = none) (ha : DA X E [a] wr) (hg : Gl X "range" := by rfl) (hs : starEach [a] X.env = [(false, eval a X.env)] := by rfl) : DI X E tg (.Call (.Name "range" p) [a] [] pos) (wRng1 wr) := by
  refine pi_mono (pi_range1 hg hm ha hs) fun σ H R ⟨F, δ, M, Q, sm, lx, hw, lk⟩ => ?_
  refine ⟨F, δ, M, _, sm, lx, hw, fun vs H1 ds M1 r1 w1 e1 q1 => ?_⟩
  match ds, r1, q1 with
  | [.int j], .cons h1 .nil, q1 => cases h1; exact ⟨j, rfl, q1.1.1, q1.1.2, lk _ H1 _ M1 w1 itOk_rng e1 q1.2⟩
theorem di_rng2 {tg : Expr} {wr : DTA} {p : Pos} (hm : X.mg "range" = none) (ha : DA X E [a, b] wr) (hg : Gl X "range" := by rfl) (hs : starEach [a, b] X.env = [(false, eval a X.env), (false, eval b X.env)] := by rfl) (hs2 : starEach [b] X.env = [(false, eval b X.env)] := by rfl) : DI X E tg (.Call (.Name "range" p) [a, b] [] pos) (wRng2 wr) := by
  refine pi_mono (pi_range2 hg hm ha hs hs2) fun σ H R ⟨F, δ, M, Q, sm, lx, hw, lk⟩ => ?_
  refine ⟨F, δ, M, _, sm, lx, hw, fun vs H1 ds M1 r1 w1 e1 q1 => ?_⟩
  match ds, r1, q1 with
  | [.int i, .int j], .cons h1 (.cons h2 .nil), q1 => cases h1; cases h2; exact ⟨i, j, rfl, q1.1, lk _ H1 _ M1 w1 itOk_rng e1 q1.2⟩
/-- zip of two lists, of two tuples -/
def zipD (xs ys : List D) : List D := (xs.zip ys).map fun p => .tup [p.1, p.2]
theorem zipD_get {xs ys : List D} {i : Nat} {d : D} (h : (zipD xs ys)[i]? = some d) : ∃ x y, xs[i]? = some x ∧ ys[i]? = some y ∧ d = .tup [x, y] := by
  unfold zipD at h
  rw [List.getElem?_map] at h
  cases e : (xs.zip ys)[i]? with
  | none => rw [e] at h; cases h
  | some p =>
    rw [e] at h
    have := List.getElem?_zip_eq_some.mp e
    exact ⟨p.1, p.2, this.1, this.2, (Option.some.inj h).symm⟩
def wZip (wr : DTA) : DTI := fun δ M Q => wr δ M fun ds M1 => match ds with
  | [.lst xs, .lst ys] => Q (zipD xs ys) M1
  | [.tup xs, .tup ys] => Q (zipD xs ys) M1
  | _ => False
theorem zipD_len {xs ys : List D} : (zipD xs ys).length = min xs.length ys.length := by unfold zipD; simp
theorem di_zip {wr : DTA} {p tpos : Pos} {elts : List Expr} {kk : Nat} (hm : X.mg "zip" = none) (ha : DA X E [a, b] wr) (hg : Gl X "zip" := by rfl) (hs : starEach [a, b] X.env = (false, eval a X.env) :: starEach [b] X.env := by rfl) (hpl : (backTo pos (starEach [b] X.env)).any (·.1) = false := by rfl) :
    DI X E (.Tuple elts kk tpos) (.Call (.Name "zip" p) [a, b] [] pos) (wZip wr) := by
  refine pi_mono (RZ.pi_zipA hg hm ha hs hpl) fun σ H R ⟨F, δ, M, Q, sm, lx, hw, lk⟩ => ?_
  refine ⟨F, δ, M, _, sm, lx, hw, fun vs H1 ds M1 r1 w1 e1 q1 => ?_⟩
  match ds, r1, q1 with
  | [.lst xs, .lst ys], .cons (.lst (a := p) (xs := us) h1 n1 a1) (.cons (.lst (a := q) (xs := zs) h2 n2 a2) .nil), q1 =>
    refine ⟨p, q, us, zs, rfl, .inl ⟨.of h1, .of h2, lk _ H1 _ M1 w1 ?_ e1 q1⟩⟩
    intro F' M' H' hF wd e
    have s1 : SqL X.K H' p us := .of (e.keep _ _ h1 (.inr (bar_none n1)))
    have s2 : SqL X.K H' q zs := .of (e.keep _ _ h2 (.inr (bar_none n2)))
    refine ⟨fun i d hd => ?_, fun i hi => ⟨us, zs, s1, s2, by rw [zipD_len] at hi; rw [a1.length, a2.length]; omega⟩⟩
    obtain ⟨x, y, hx, hy, rfl⟩ := zipD_get hd
    obtain ⟨vx, hvx, rx⟩ := a1.get hx
    obtain ⟨vy, hvy, ry⟩ := a2.get hy
    refine ⟨⟨us, zs, vx, vy, s1, s2, hvx, hvy⟩, fun v H2 ⟨T, x', y', ev, nT, eH, fx, fy⟩ => ?_⟩
    subst ev; subst eH
    have : x' = vx := Option.some.inj ((fx us s1).symm.trans hvx)
    subst this
    have : y' = vy := Option.some.inj ((fy zs s2).symm.trans hvy)
    subst this
    exact ⟨.newTup wd nT (.cons (Rep.extF w1 e hF x _ rx) (.cons (Rep.extF w1 e hF y _ ry) .nil)), wd.laid nT, ext_laid nT⟩
  | [.tup xs, .tup ys], .cons (.tup (a := p) (xs := us) h1 a1) (.cons (.tup (a := q) (xs := zs) h2 a2) .nil), q1 =>
    refine ⟨p, q, us, zs, rfl, .inr ⟨h1, h2, lk _ H1 _ M1 w1 ?_ e1 q1⟩⟩
    intro F' M' H' hF wd e
    have s1 : SqT X.K H' p us := SqT.ext w1 e h1
    have s2 : SqT X.K H' q zs := SqT.ext w1 e h2
    refine ⟨fun i d hd => ?_, fun i hi => ⟨us, zs, s1, s2, by rw [zipD_len] at hi; rw [a1.length, a2.length]; omega⟩⟩
    obtain ⟨x, y, hx, hy, rfl⟩ := zipD_get hd
    obtain ⟨vx, hvx, rx⟩ := a1.get hx
    obtain ⟨vy, hvy, ry⟩ := a2.get hy
    refine ⟨⟨us, zs, vx, vy, s1, s2, hvx, hvy⟩, fun v H2 ⟨T, x', y', ev, nT, eH, fx, fy⟩ => ?_⟩
    subst ev; subst eH
    have : x' = vx := Option.some.inj ((fx us s1).symm.trans hvx)
    subst this
    have : y' = vy := Option.some.inj ((fy zs s2).symm.trans hvy)
    subst this
    exact ⟨.newTup wd nT (.cons (Rep.extF w1 e hF x _ rx) (.cons (Rep.extF w1 e hF y _ ry) .nil)), wd.laid nT, ext_laid nT⟩

/-! ### for -/
/-- a loop over ds from here on -/
structure FoGoal (ds : List D) (t : Tg) (tb : DTS) (D : DEnds) (δ : DSt) (M1 : Mem) : Prop where
  ex : ∃ W : Nat → DSt → Mem → Prop, W 0 δ M1 ∧ (∀ (i : Nat) d δ' M', ds[i]? = some d → W i δ' M' →
    t.setK d δ'.s fun s => tb { D with nx := W (i + 1), ct := W (i + 1), bk := D.nx } ⟨s, δ'.x⟩ M') ∧ ∀ δ' M', W ds.length δ' M' → D.nx δ' M'
def wFor (wi : DTI) (t : Tg) (tb : DTS) : DTS := fun D δ M => wi δ M fun ds M1 => FoGoal ds t tb D δ M1
theorem ds_for {iter : Expr} {body : List Stmt} {wi : DTI} {tg : Expr} {t : Tg} {tb : DTS} (hX : DX X E k) (hi : DI X E tg iter wi) (hg : DG X tg t) (hb : DSs X E body tb)
    (hs : ∀ x, foldedSetIterable iter X.env x = pure x := by intro _; rfl) : DS X E (.For tg iter body [] pos) (wFor wi t tb) := by
  refine ps_mono (ps_for hX.po hX.calm hi hg hb hs) fun Dh σ H ⟨F, δ, M, Dd, sm, lx, ld, hw⟩ => ?_
  refine ⟨F, δ, M, _, sm, lx, hw, fun J H1 ds M1 w1 it e1 ⟨W, h0, turn, done⟩ => ?_⟩
  refine ⟨fun i m σ2 H2 => i + m = ds.length ∧ ∃ δ2 M2, Sm X.K F H2 σ2 δ2.s M2 ∧ Ext F M1 H1 M2 H2 ∧ δ2.x = δ.x ∧ W i δ2 M2, ⟨ds.length, by omega, δ, M1, sm.ext w1 e1, .refl _ _ _, rfl, h0⟩, fun i m σ2 H2 ⟨hm, δ2, M2, sm2, e2, ex2, wi⟩ => ?_⟩
  obtain ⟨hgo, hstop⟩ := it F M2 H2 (fun _ z => .inl (.inl z)) sm2.wd e2
  have e12 := Ext.trans w1 e1 e2
  by_cases hlt : i < ds.length
  · have hd : ds[i]? = some ds[i] := List.getElem?_eq_getElem hlt
    obtain ⟨go, yl⟩ := hgo i _ hd
    refine .inr ⟨go, fun σ' H' => i + 1 + (m - 1) = ds.length ∧ ∃ δ2 M2, Sm X.K F H' σ' δ2.s M2 ∧ Ext F M1 H1 M2 H' ∧ δ2.x = δ.x ∧ W (i + 1) δ2 M2, fun σ' H' h => ⟨m - 1, by omega, h⟩, fun x H3 hy => ?_⟩
    obtain ⟨rx, w3, e3⟩ := yl x H3 hy
    have tn := turn i _ δ2 M2 hd wi
    obtain ⟨s, hset, tn⟩ := Tg.setK_e t _ _ _ tn
    · skip
      have e13 := Ext.trans sm2.wd e12 e3
      refine Tg.ok t _ x σ2 δ2.s s _ (sm2.ext w3 e3) rx hset fun σ3 sm3 _ => ?_
      have nxt : LkN X.K E F M2 H3 δ.x (W (i + 1)) fun σ' H' => i + 1 + (m - 1) = ds.length ∧ ∃ δ2 M2, Sm X.K F H' σ' δ2.s M2 ∧ Ext F M1 H1 M2 H' ∧ δ2.x = δ.x ∧ W (i + 1) δ2 M2 :=
        fun σ' H' δ' M' s' e' ex' q => ⟨by omega, δ', M', s', Ext.trans sm2.wd e2 (Ext.trans w3 e3 e'), ex', q⟩
      have ld3 := ld.ext w3 e13
      have ex2' : (⟨s, δ2.x⟩ : DSt).x = δ.x := ex2
      exact ⟨F, ⟨s, δ2.x⟩, M2, { Dd with nx := W (i + 1), ct := W (i + 1), bk := Dd.nx }, sm3, by rw [ex2']; exact lx.ext w3 e13, by rw [ex2']; exact ⟨nxt, ld3.rt, ld3.nx, nxt⟩, tn⟩
  · have hi : i = ds.length := by omega
    subst hi
    exact .inl ⟨hstop _ (Nat.le_refl _), ld.nx σ2 H2 δ2 M2 sm2 e12 ex2 (done δ2 M2 wi)⟩
end
end Bx

set_option Elab.async false
set_option linter.all false
set_option maxRecDepth 100000
set_option maxHeartbeats 2000000
namespace Bx
open PySem PySem.Spec L2
open PyProof.Rows hiding St

/-! ### list comprehensions -/
def wipeD (s : List (Option D)) : List Nat → List (Option D)
  | [] => s
  | v :: vs => (wipeD s vs).set v none
def noX : Value → Mem → Prop := fun _ _ => False
theorem RepS.wipe {K : PySem.W.Frag} {B : Addr → Prop} {H : Hp} {σ : L2.St} {s : List (Option D)} (r : RepS K B H σ s) : ∀ vs : List Nat, RepS K B H (L2.wipe σ vs) (wipeD s vs)
  | [] => r
  | v :: vs => by
    have ih := RepS.wipe r vs
    refine ⟨by show ((L2.wipe σ vs).set v none).length = ((wipeD s vs).set v none).length; rw [List.length_set, List.length_set, ih.1], fun i d h => ?_⟩
    have h : ((wipeD s vs).set v none)[i]? = some (some d) := h
    show ∃ u, ((L2.wipe σ vs).set v none)[i]? = some (some u) ∧ _
    by_cases e : v = i
    · subst e
      by_cases hl : v < (wipeD s vs).length
      · rw [List.getElem?_set_self hl] at h; cases h
      · rw [List.getElem?_eq_none (by rw [List.length_set]; omega)] at h; cases h
    · rw [List.getElem?_set_ne e] at h ⊢
      exact ih.2 i d h
theorem RepS.extF {K : PySem.W.Frag} {F F' : Addr → Prop} {M M' : Mem} {H H' : Hp} {σ : L2.St} {s : List (Option D)} (w : Wd K F M H) (e : Ext F M H M' H') (hF : ∀ a, F' a → Bar F M a ∨ H a = none) (r : RepS K (Bar F M) H σ s) : RepS K (Bar F' M') H' σ s :=
  ⟨r.1, fun i d h => let ⟨v, a, b⟩ := r.2 i d h; ⟨v, a, Rep.extF w e hF d v b⟩⟩
theorem RepO.anti {K : PySem.W.Frag} {B B' : Addr → Prop} {H : Hp} {a : Addr} {m : MO} (s : ∀ a, B' a → B a) (h : RepO K B H a m) : RepO K B' H a m := by
  cases m with
  | lst ds => obtain ⟨vs, q, r⟩ := h; exact ⟨vs, q, RepAll.anti s _ _ r⟩
  | ins C dx fs => obtain ⟨gs, q, e, r⟩ := h; exact ⟨gs, q, e, RepAll.anti s _ _ r⟩
  | dK kvs => obtain ⟨gs, q, e, r⟩ := h; exact ⟨gs, q, e, RepAll.anti s _ _ r⟩
  | dN kvs => obtain ⟨gs, q, r1, r2, e1, e2⟩ := h; exact ⟨gs, q, RepAll.anti s _ _ r1, RepAll.anti s _ _ r2, e1, e2⟩
  | clo κ t => obtain ⟨q1, q2, q3, r⟩ := h; exact ⟨q1, q2, fun z => q3 (s _ z), RepS.anti s r⟩
  | tab nm =>
    obtain ⟨ps, q1, q2, q3⟩ := h
    refine ⟨ps, q1, q2, fun pos cv hc => ?_⟩
    obtain ⟨c, e1, e2, e3⟩ := q3 pos cv hc
    exact ⟨c, e1, e2, fun z => e3 (s _ z)⟩
theorem RepO.st {K : PySem.W.Frag} {B B' : Addr → Prop} {H H' : Hp} {a : Addr} {m : MO} (k : ∀ a o, H a = some o → (¬ B a ∨ ¬ NoTup o) → H' a = some o) (n : ∀ a, (∃ o, H a = some o) → ¬ B a → ¬ B' a) (s : ∀ o, H a = some o → H' a = some o) (h : RepO K B H a m) : RepO K B' H' a m := by
  cases m with
  | lst ds => obtain ⟨vs, q, r⟩ := h; exact ⟨vs, s _ q, RepAll.st k n _ _ r⟩
  | ins C dx fs => obtain ⟨gs, q, e, r⟩ := h; exact ⟨gs, s _ q, e, RepAll.st k n _ _ r⟩
  | dK kvs => obtain ⟨gs, q, e, r⟩ := h; exact ⟨gs, s _ q, e, RepAll.st k n _ _ r⟩
  | dN kvs => obtain ⟨gs, q, r1, r2, e1, e2⟩ := h; exact ⟨gs, s _ q, RepAll.st k n _ _ r1, RepAll.st k n _ _ r2, e1, e2⟩
  | clo κ t => obtain ⟨q1, q2, q3, r⟩ := h; exact ⟨s _ q1, k _ _ q2 (.inl q3), n _ ⟨_, q2⟩ q3, RepS.st k n r⟩
  | tab nm =>
    obtain ⟨ps, q1, q2, q3⟩ := h
    refine ⟨ps, s _ q1, q2, fun pos cv hc => ?_⟩
    obtain ⟨c, e1, e2, e3⟩ := q3 pos cv hc
    exact ⟨c, e1, k _ _ e2 (.inl e3), n _ ⟨_, e2⟩ e3⟩
theorem Bar.sub {F F' : Addr → Prop} {M : Mem} (h : ∀ a, F a → F' a) (a : Addr) (b : Bar F M a) : Bar F' M a := b.imp (h a) id
theorem Wd.sub {K : PySem.W.Frag} {F F' : Addr → Prop} {M : Mem} {H : Hp} (h : ∀ a, F a → F' a) (w : Wd K F' M H) : Wd K F M H := ⟨fun a m q => (w.mem a m q).anti (Bar.sub h), fun a q => w.hid a (h a q)⟩
theorem Ext.sub {F F' : Addr → Prop} {M M' : Mem} {H H' : Hp} (h : ∀ a, F a → F' a) (e : Ext F' M H M' H') : Ext F M H M' H' := ⟨fun a o q r => e.keep a o q (r.imp (h a) id), e.bar⟩
theorem noTup_lst {xs : List V} : NoTup (.lst xs) := ⟨fun _ z => (by cases z), fun _ _ z => (by cases z)⟩
/-- a new hidden object -/
theorem Wd.hide {K : PySem.W.Frag} {F : Addr → Prop} {M : Mem} {H : Hp} {p : Addr} {o : HO} (w : Wd K F M H) (n : H p = none) (nt : NoTup o) : Wd K (fun a => F a ∨ a = p) M (upd H p o) where
  mem := fun a m h => RepO.st (Ext.kst w (ext_laid n)) (Ext.nst (ext_laid (o := o) n) fun a z => by
      rcases z with z | z
      · exact .inl (.inl z)
      · subst z; exact .inr n) (fun u q => by rw [upd_ne (ne_of_none q n)]; exact q) (w.mem a m h)
  hid := fun a h => by
    rcases h with h | h
    · obtain ⟨h1, u, e, nt⟩ := w.hid a h
      exact ⟨h1, u, by rw [upd_ne (ne_of_none e n)]; exact e, nt⟩
    · subst h; exact ⟨w.noM n, o, upd_same, nt⟩
/-- a hidden object is written -/
theorem hid_st {F : Addr → Prop} {M : Mem} {H : Hp} {p : Addr} {o u : HO} (hp : F p) (h : H p = some u) (nt : NoTup u) : ∀ a x, H a = some x → (¬ Bar F M a ∨ ¬ NoTup x) → (upd H p o) a = some x := fun a x q r => by
  by_cases e : a = p
  · subst e
    rw [h] at q; cases q
    rcases r with r | r
    · exact absurd (.inl hp) r
    · exact absurd nt r
  · rw [upd_ne e]; exact q
theorem Wd.hidSet {K : PySem.W.Frag} {F : Addr → Prop} {M : Mem} {H : Hp} {p : Addr} {o u : HO} (w : Wd K F M H) (hp : F p) (h : H p = some u) (nu : NoTup u) (nt : NoTup o) : Wd K F M (upd H p o) where
  mem := fun a m q => RepO.st (hid_st hp h nu) (fun _ _ z => z) (fun x z => by
      have : a ≠ p := fun e => by subst e; rw [(w.hid _ hp).1] at q; cases q
      rw [upd_ne this]; exact z) (w.mem a m q)
  hid := fun a q => by
    obtain ⟨h1, x, e, nx⟩ := w.hid a q
    by_cases z : a = p
    · subst z; exact ⟨h1, o, upd_same, nt⟩
    · exact ⟨h1, x, by rw [upd_ne z]; exact e, nx⟩
abbrev DTs (X : Cx) (E : XK) (ifs : List Expr) (w : DTT) : Prop := PTs X ifs (liftT X.K E w)
def wYes : DTT := fun _ M Q => Q true M
/-- a comprehension over ds from here on -/
structure LcGoal (ds : List D) (δ : DSt) (t : Tg) (tt : DTT) (te : DTE) (vs : List Nat) (Q : DK) (M1 : Mem) : Prop where
  len : ds.length ≤ sizeLine
  ex : ∃ W : Nat → List D → Mem → Prop, W 0 [] M1 ∧ (∀ (i : Nat) d acc M', ds[i]? = some d → W i acc M' → t.setK d (wipeD δ.s vs) fun s => tt ⟨s, noX⟩ M' fun b M2 => onT b (te ⟨s, noX⟩ M2 fun y M3 => W (i + 1) (acc ++ [y]) M3) (W (i + 1) acc M2)) ∧ ∀ acc M', acc.length ≤ ds.length → W ds.length acc M' → Q (.lst acc) M'
def wLc (wi : DTI) (t : Tg) (tt : DTT) (te : DTE) (vs : List Nat) : DTE := fun δ M Q => wi δ M fun ds M1 => LcGoal ds δ t tt te vs Q M1
theorem lift_lc {K : PySem.W.Frag} {E : XK} {wi : DTI} {t : Tg} {tt : DTT} {te : DTE} {vs : List Nat} (hv : ∀ i ∈ t.ixs, i ∈ vs) {σ : L2.St} {H : Hp} {Q' : VK} (h : liftE K E (wLc wi t tt te vs) σ H Q') :
    tLc (liftI K E wi) (t.v K) (liftT K E0 tt) (liftE K E0 te) vs σ H Q' := by
  obtain ⟨F, δ, M, Q, sm, lx, hw, lk⟩ := h
  refine ⟨F, δ, M, _, sm, lx, hw, fun J H1 ds M1 w1 it e1 ⟨hlen, W, h0, turn, done⟩ => ?_⟩
  intro p hp
  have hF : ∀ a, (fun a => F a ∨ a = p) a → Bar F M1 a ∨ H1 a = none := fun a z => by
    rcases z with z | z
    · exact .inl (.inl z)
    · subst z; exact .inr hp
  have hFs : ∀ a, F a → (fun a => F a ∨ a = p) a := fun a z => .inl z
  refine ⟨fun i m H2 => i + m = ds.length ∧ ∃ acc va M2, Wd K (fun a => F a ∨ a = p) M2 H2 ∧ Ext F M1 H1 M2 H2 ∧ H2 p = some (.lst va) ∧ RepAll K (Bar (fun a => F a ∨ a = p) M2) H2 va acc ∧ acc.length ≤ i ∧ W i acc M2,
    ⟨ds.length, by omega, [], [], M1, w1.hide hp noTup_lst, ext_laid hp, upd_same, .nil, Nat.le_refl _, h0⟩, fun i m H2 ⟨hm, acc, va, M2, w2, e2, hpl, ra, hal, wi⟩ => ?_⟩
  have w2F := w2.sub hFs
  obtain ⟨hgo, hstop⟩ := it (fun a => F a ∨ a = p) M2 H2 hF w2 e2
  have e12 : Ext F M H M2 H2 := Ext.trans w1 e1 e2
  by_cases hlt : i < ds.length
  · have hd : ds[i]? = some ds[i] := List.getElem?_eq_getElem hlt
    obtain ⟨go, yl⟩ := hgo i _ hd
    refine .inr ⟨go, fun H' => i + 1 + (m - 1) = ds.length ∧ ∃ acc va M2, Wd K (fun a => F a ∨ a = p) M2 H' ∧ Ext F M1 H1 M2 H' ∧ H' p = some (.lst va) ∧ RepAll K (Bar (fun a => F a ∨ a = p) M2) H' va acc ∧ acc.length ≤ i + 1 ∧ W (i + 1) acc M2, fun H' h => ⟨m - 1, by omega, h⟩, fun x H3 hy => ?_⟩
    obtain ⟨rx, w3, e3⟩ := yl x H3 hy
    have tn := turn i _ acc M2 hd wi
    obtain ⟨s, hset, tn⟩ := Tg.setK_e t _ _ _ tn
    · skip
      have hp3 : H3 p = some (.lst va) := e3.keep _ _ hpl (.inl (.inr rfl))
      have ra3 := RepAll.ext w2 e3 _ _ ra
      have e13 : Ext F M1 H1 M2 H3 := Ext.trans w2F e2 (e3.sub hFs)
      have eM3 : Ext F M H M2 H3 := Ext.trans w1 e1 e13
      have smw : Sm K (fun a => F a ∨ a = p) H3 (L2.wipe σ vs) (wipeD δ.s vs) M2 := ⟨RepS.wipe (RepS.extF sm.wd eM3 (fun a z => by
        rcases z with z | z
        · exact .inl (.inl z)
        · subst z
          cases hH : H a with
          | none => exact .inr rfl
          | some o =>
            cases hM : M a with
            | none => have := e1.keep a o hH (.inr hM); rw [hp] at this; cases this
            | some mo => exact .inl (.inr ⟨mo, hM⟩)) sm.sl) vs, w3⟩
      refine Tg.ok t _ x (L2.wipe σ vs) (wipeD δ.s vs) s _ smw rx hset fun σ3 sm3 hwp => ⟨hwp' hwp hv, ?_⟩
      refine ⟨(fun a => F a ∨ a = p), ⟨s, noX⟩, M2, _, sm3, (fun _ _ _ _ _ _ z => (xok_no z).elim), tn, fun b H4 M4 w4 e4 q4 => ?_⟩
      have hp4 : H4 p = some (.lst va) := e4.keep _ _ hp3 (.inl (.inr rfl))
      have ra4 := RepAll.ext w3 e4 _ _ ra3
      have e14 : Ext F M1 H1 M4 H4 := Ext.trans (w3.sub hFs) e13 (e4.sub hFs)
      cases b with
      | true =>
        refine ite_tt ⟨(fun a => F a ∨ a = p), ⟨s, noX⟩, M4, _, sm3.ext w4 e4, (fun _ _ _ _ _ _ z => (xok_no z).elim), q4, fun y H5 dy M5 ry w5 e5 q5 => ?_⟩
        have hp5 : H5 p = some (.lst va) := e5.keep _ _ hp4 (.inl (.inr rfl))
        have ra5 := RepAll.ext w4 e5 _ _ ra4
        have e15 : Ext F M1 H1 M5 H5 := Ext.trans (w4.sub hFs) e14 (e5.sub hFs)
        refine ⟨va, hp5, by rw [ra5.length]; omega, by omega, acc ++ [dy], va ++ [y], M5, w5.hidSet (.inr rfl) hp5 noTup_lst noTup_lst, ⟨fun a o q r => ?_, e15.bar⟩, upd_same, ?_, by rw [List.length_append]; show acc.length + 1 ≤ i + 1; omega, q5⟩
        · rw [upd_ne (ne_of_none q hp)]; exact e15.keep a o q r
        · exact RepAll.st (hid_st (.inr rfl) hp5 noTup_lst) (fun _ _ z => z) _ _ (ra5.append (.cons ry .nil))
      | false => exact ite_ff ⟨by omega, acc, va, M4, w4, e14, hp4, ra4, by omega, q4⟩
  · have hi : i = ds.length := by omega
    subst hi
    refine .inl ⟨hstop _ (Nat.le_refl _), lk _ H2 _ M2 (.lst hpl ?_ (RepAll.anti (Bar.sub hFs) _ _ ra)) w2F e12 (done acc M2 hal wi)⟩
    rintro (z | ⟨o, z⟩)
    · obtain ⟨_, u, hu, _⟩ := w1.hid p z
      rw [hp] at hu; cases hu
    · rw [(w2.hid p (.inr rfl)).1] at z; cases z
where
  hwp' {t : Tg} {vs : List Nat} {σ σ3 : L2.St} (h : ∀ us, (∀ i ∈ t.ixs, i ∈ us) → L2.wipe σ3 us = L2.wipe (L2.wipe σ vs) us) (hv : ∀ i ∈ t.ixs, i ∈ vs) : L2.wipe σ3 vs = L2.wipe σ vs := by
    have ww : ∀ us : List Nat, L2.wipe (L2.wipe σ us) us = L2.wipe σ us := fun us => by
      have key : ∀ (us ws : List Nat), (∀ i ∈ us, i ∈ ws) → L2.wipe (L2.wipe σ ws) us = L2.wipe σ ws := fun us ws => by
        induction us with
        | nil => intro _; rfl
        | cons v us ih =>
          intro hs
          have := ih fun i hi => hs i (List.mem_cons_of_mem _ hi)
          show (L2.wipe (L2.wipe σ ws) us).set v none = _
          rw [this]
          have hv : v ∈ ws := hs v List.mem_cons_self
          clear ih this hs
          induction ws with
          | nil => cases hv
          | cons u ws ih =>
            show ((L2.wipe σ ws).set u none).set v none = (L2.wipe σ ws).set u none
            by_cases e : u = v
            · subst e; rw [List.set_set]
            · rw [List.set_comm _ _ e]
              rcases List.mem_cons.mp hv with z | z
              · exact absurd z.symm e
              · rw [ih z]
      exact key us us fun i h => h
    exact (h vs hv).trans (ww vs)
section
variable {X : Cx} {E : XK} {k : Nat} {a b c e : Expr} {wa wb wc : DTE} {ta tb : DTT} {pos : Pos}
theorem dts_nil : DTs X E [] wYes := ⟨fun pins s σ H Q' I ⟨F, δ, M, Q, sm, lx, hw, lk⟩ => pts_nil.run pins s σ H Q' I (lk true H M sm.wd (.refl _ _ _) hw)⟩
theorem dts_one (h : DT X E c ta) : DTs X E [c] ta := pts_one h
theorem de_lc {elt tg iter : Expr} {ifs : List Expr} {scope : Scope} {own : List (Str × Nat)} {wi : DTI} {t : Tg} {tt : DTT} {te : DTE} (hX : DX X E k) (ok : BlkOk X.N X.env.scope scope own) (hi : DI X E tg iter wi)
    (hb : ∀ (s : Shared) (H : Hp) (C : Addr) (cl : List (Str × Addr)) (fp : List Addr), DX (X.blk s H scope (compEnvC scope cl C X.env) fp) E0 k →
      DG (X.blk s H scope (compEnvC scope cl C X.env) fp) tg t ∧ DTs (X.blk s H scope (compEnvC scope cl C X.env) fp) E0 ifs tt ∧ DE (X.blk s H scope (compEnvC scope cl C X.env) fp) E0 elt te)
    (hv : ∀ i ∈ t.ixs, i ∈ own.map (·.2) := by decide) (hs : ∀ x, foldedSetIterable iter X.env x = pure x := by intro _; rfl) :
    DE X E (.ListComp elt [⟨tg, iter, ifs, 0⟩] scope pos) (wLc wi t tt te (own.map (·.2))) :=
  pe_mono (pe_lc (g := t.v X.K) (tt := liftT X.K E0 tt) (te := liftE X.K E0 te) hX.calm hX.nd hi ok (fun s H C cl fp => (hb s H C cl fp (hX.blk ..)).1) (fun s H C cl fp => (hb s H C cl fp (hX.blk ..)).2.1) (fun s H C cl fp => (hb s H C cl fp (hX.blk ..)).2.2) hs) fun _ _ _ h => lift_lc hv h
/-- name = [..] on one line -/
theorem ds_setLc {y : Str} {py spos : Pos} {elt tg iter : Expr} {ifs : List Expr} {scope : Scope} {own : List (Str × Nat)} {wi : DTI} {t : Tg} {tt : DTT} {te : DTE} (hX : DX X E k) (i : Nat) (ok : BlkOk X.N X.env.scope scope own) (hi : DI X E tg iter wi)
    (hb : ∀ (s : Shared) (H : Hp) (C : Addr) (cl : List (Str × Addr)) (fp : List Addr), DX (X.blk s H scope (compEnvC scope cl C X.env) fp) E0 k →
      DG (X.blk s H scope (compEnvC scope cl C X.env) fp) tg t ∧ DTs (X.blk s H scope (compEnvC scope cl C X.env) fp) E0 ifs tt ∧ DE (X.blk s H scope (compEnvC scope cl C X.env) fp) E0 elt te)
    (hsw : swapsWith (.ListComp elt [⟨tg, iter, ifs, 0⟩] scope pos) (some (.Name y py)) spos.line X.env = pure true) (hy : X.N[i]? = some y := by rfl) (hyl : X.env.scope.names.lookup y = some .local := by rfl)
    (hv : ∀ i ∈ t.ixs, i ∈ own.map (·.2) := by decide) (hs : ∀ x, foldedSetIterable iter X.env x = pure x := by intro _; rfl) :
    DS X E (.Assign [.Name y py] (.ListComp elt [⟨tg, iter, ifs, 0⟩] scope pos) spos) (wAsg (wLc wi t tt te (own.map (·.2))) (.nm i)) := by
  refine ps_mono (ps_setLc (g := t.v X.K) (tt := liftT X.K E0 tt) (te := liftE X.K E0 te) hX.calm hX.nd hy hyl hsw hi ok (fun s H C cl fp => (hb s H C cl fp (hX.blk ..)).1) (fun s H C cl fp => (hb s H C cl fp (hX.blk ..)).2.1) (fun s H C cl fp => (hb s H C cl fp (hX.blk ..)).2.2) hs) fun Dh σ H ⟨F, δ, M, Dd, sm, lx, ld, hw⟩ => ?_
  refine lift_lc hv ⟨F, δ, M, _, sm, lx, hw, fun v H1 d M1 r1 w1 e1 q1 => ?_⟩
  have q1 : setK δ.s i (some d) fun s => Dd.nx ⟨s, δ.x⟩ M1 := q1
  rw [setK_eq] at q1
  exact ld.nx _ H1 ⟨δ.s.set i (some d), δ.x⟩ M1 ⟨(sm.ext w1 e1).sl.set r1 i, w1⟩ e1 rfl q1

/-! ### built-ins, by values -/
abbrev DRC := List D → Mem → DK → Prop
def OkC (K : PySem.W.Frag) (r : List V → Hp → VK → Prop) (w : DRC) : Prop := ∀ F M H vs ds (Q : DK) (Q' : VK), Wd K F M H → RepAll K (Bar F M) H vs ds → w ds M Q →
  (∀ v H' d M', Rep K (Bar F M') H' v d → Wd K F M' H' → Ext F M H M' H' → Q d M' → Q' v H') → r vs H Q'
def wCB (w : DRC) (wr : DTA) : DTE := fun δ M Q => wr δ M fun ds M1 => w ds M1 Q
theorem lift_cb {K : PySem.W.Frag} {r : List V → Hp → VK → Prop} {w : DRC} {wr : DTA} (ok : OkC K r w) {σ : L2.St} {H : Hp} {Q' : VK} (h : liftE K E (wCB w wr) σ H Q') : tCB r (liftA K E wr) σ H Q' := by
  obtain ⟨F, δ, M, Q, sm, lx, hw, lk⟩ := h
  exact ⟨F, δ, M, _, sm, lx, hw, fun vs H1 ds M1 r1 w1 e1 q1 => ok F M1 H1 vs ds Q Q' w1 r1 q1 fun v' H' d' M' r3 w3 e3 q3 => lk v' H' d' M' r3 w3 (Ext.trans w1 e1 e3) q3⟩
theorem de_cb {r : List V → Hp → VK → Prop} {w : DRC} {wr : DTA} {x : Str} {id : String} {p : Pos} {es : List Expr} (hc : CallR X (.builtin id) r) (ok : OkC X.K r w) (hm : X.mg x = none) (ha : DA X E (e :: es) wr) (hv : bootBuiltins x = some (.builtin id) := by decide +kernel) (hg : Gl X x := by rfl)
    (hn : x ≠ "__name__" := by decide) (hdb : (x == ("__debug__" : Str)) = false := by decide) (he : starEach (e :: es) X.env = (false, eval e X.env) :: starEach es X.env := by rfl) (hpl : (backTo pos (starEach es X.env)).any (·.1) = false := by rfl) : DE X E (.Call (.Name x p) (e :: es) [] pos) (wCB w wr) :=
  pe_mono (pe_callB hc hg hm hv ha hn hdb he hpl) fun _ _ _ h => lift_cb ok h
theorem de_cty {r : List V → Hp → VK → Prop} {w : DRC} {wr : DTA} {x : Str} {T : String} {p : Pos} {es : List Expr} (hc : CallR X (.type T) r) (ok : OkC X.K r w) (hm : X.mg x = none) (ha : DA X E (e :: es) wr) (hv : bootBuiltins x = some (.type T) := by decide +kernel) (hg : Gl X x := by rfl)
    (hn : x ≠ "__name__" := by decide) (hdb : (x == ("__debug__" : Str)) = false := by decide) (he : starEach (e :: es) X.env = (false, eval e X.env) :: starEach es X.env := by rfl) (hpl : (backTo pos (starEach es X.env)).any (·.1) = false := by rfl) : DE X E (.Call (.Name x p) (e :: es) [] pos) (wCB w wr) :=
  pe_mono (pe_callTy hc hg hm hv ha hn hdb he hpl) fun _ _ _ h => lift_cb ok h
/-- len -/
def wLen : DRC := fun ds M Q => match ds with
  | [.str z] => z.length ≤ sizeLine ∧ Q (.int z.length) M
  | [d] => match sq M d with | some es => Q (.int es.length) M | none => False
  | _ => False
theorem callR_or {f : Value} {r r' : List V → Hp → VK → Prop} (h : CallR X f r) (h' : CallR X f r') : CallR X f (fun xs H Q => r xs H Q ∨ r' xs H Q) := by
  intro pins s σ H xs us Q I rx q
  rcases q with q | q
  · exact h pins s σ H xs us Q I rx q
  · exact h' pins s σ H xs us Q I rx q
theorem ok_len {K : PySem.W.Frag} : OkC K (fun xs H Q => (∃ p ys, xs = [.ref p] ∧ (SqL K H p ys ∨ SqT K H p ys) ∧ Q (.int ys.length) H) ∨ ∃ z, xs = [.str z] ∧ z.length ≤ sizeLine ∧ Q (.int z.length) H) wLen := by
  intro F M H vs ds Q Q' wd ra hw lk
  match ds, ra, hw with
  | [d], .cons (v := v) r .nil, hw =>
    have fin : (match sq M d with | some es => Q (.int es.length) M | none => False) → (∃ p ys, [v] = [V.ref p] ∧ (SqL K H p ys ∨ SqT K H p ys) ∧ Q' (.int ys.length) H) := fun h => by
      cases hs : sq M d with
      | none => rw [hs] at h; exact h.elim
      | some es =>
        rw [hs] at h
        obtain ⟨p, xs, rfl, hq, ra⟩ := r.sq wd hs
        exact ⟨p, xs, rfl, hq, lk _ H _ M (by rw [ra.length]; exact .int _) wd (.refl _ _ _) h⟩
    cases d with
    | str z => cases r; exact .inr ⟨z, rfl, hw.1, lk _ H _ M (.int _) wd (.refl _ _ _) hw.2⟩
    | _ => exact .inl (fin hw)
  | [], _, hw => exact (show False from hw).elim
  | .tup _ :: _ :: _, _, hw => exact (show False from hw).elim
  | .str _ :: _ :: _, _, hw => exact (show False from hw).elim
  | .lst _ :: _ :: _, _, hw => exact (show False from hw).elim
  | .fro _ :: _ :: _, _, hw => exact (show False from hw).elim
  | .ref _ :: _ :: _, _, hw => exact (show False from hw).elim
  | .non :: _ :: _, _, hw => exact (show False from hw).elim
  | .bl _ :: _ :: _, _, hw => exact (show False from hw).elim
  | .int _ :: _ :: _, _, hw => exact (show False from hw).elim
theorem de_len {wr : DTA} {p : Pos} (hm : X.mg "len" = none) (ha : DA X E [e] wr) (hg : Gl X "len" := by rfl) (he : starEach [e] X.env = (false, eval e X.env) :: starEach [] X.env := by rfl) (hpl : (backTo pos (starEach [] X.env)).any (·.1) = false := by rfl) : DE X E (.Call (.Name "len" p) [e] [] pos) (wCB wLen wr) :=
  de_cb (callR_or call_len_seq call_len_str) ok_len hm ha (by decide +kernel) hg (by decide) (by decide) he hpl
/-- all, any of a list of truth values -/
def D.asB : D → Option Bool | .bl b => some b | _ => none
def bools : List D → Option (List Bool)
  | [] => some []
  | d :: ds => match d.asB, bools ds with | some b, some bs => some (b :: bs) | _, _ => none
theorem bools_rep {K : PySem.W.Frag} {B : Addr → Prop} {H : Hp} : ∀ {vs : List V} {ds : List D} {bs : List Bool}, RepAll K B H vs ds → bools ds = some bs → vs = bs.map V.bl
  | _, [], _, h, e => by cases h; cases e; rfl
  | _, d :: ds, bs, h, e => by
    cases h with
    | cons h1 h2 =>
      have e : (match d.asB, bools ds with | some b, some bs => some (b :: bs) | _, _ => none) = some bs := e
      cases hd : d.asB with
      | none => rw [hd] at e; cases e
      | some b =>
        cases hb : bools ds with
        | none => rw [hd, hb] at e; cases e
        | some bs' =>
          rw [hd, hb] at e
          cases e
          cases d <;> first | (cases h1; cases hd; rw [bools_rep h2 hb]; rfl) | cases hd
def wAll : DRC := fun ds M Q => match ds with | [d] => (match sqL M d with | some es => (match bools es with | some bs => Q (.bl (bs.all id)) M | none => False) | none => False) | _ => False
def wAny : DRC := fun ds M Q => match ds with | [d] => (match sqL M d with | some es => (match bools es with | some bs => Q (.bl (bs.any id)) M | none => False) | none => False) | _ => False
theorem ok_all {K : PySem.W.Frag} : OkC K (rAll K) wAll := by
  intro F M H vs ds Q Q' wd ra hw lk
  match ds, ra, hw with
  | [d], .cons r .nil, hw =>
    have hw : (match sqL M d with | some es => (match bools es with | some bs => Q (.bl (bs.all id)) M | none => False) | none => False) := hw
    cases hs : sqL M d with
    | none => rw [hs] at hw; exact hw.elim
    | some es =>
      rw [hs] at hw
      have hw : (match bools es with | some bs => Q (.bl (bs.all id)) M | none => False) := hw
      cases hb : bools es with
      | none => rw [hb] at hw; exact hw.elim
      | some bs =>
        rw [hb] at hw
        obtain ⟨p, xs, rfl, hq, ra⟩ := r.sqL wd hs
        exact ⟨p, bs, rfl, bools_rep ra hb ▸ hq, lk _ H _ M (.bl _) wd (.refl _ _ _) hw⟩
theorem ok_any {K : PySem.W.Frag} : OkC K (rAny K) wAny := by
  intro F M H vs ds Q Q' wd ra hw lk
  match ds, ra, hw with
  | [d], .cons r .nil, hw =>
    have hw : (match sqL M d with | some es => (match bools es with | some bs => Q (.bl (bs.any id)) M | none => False) | none => False) := hw
    cases hs : sqL M d with
    | none => rw [hs] at hw; exact hw.elim
    | some es =>
      rw [hs] at hw
      have hw : (match bools es with | some bs => Q (.bl (bs.any id)) M | none => False) := hw
      cases hb : bools es with
      | none => rw [hb] at hw; exact hw.elim
      | some bs =>
        rw [hb] at hw
        obtain ⟨p, xs, rfl, hq, ra⟩ := r.sqL wd hs
        exact ⟨p, bs, rfl, bools_rep ra hb ▸ hq, lk _ H _ M (.bl _) wd (.refl _ _ _) hw⟩
theorem de_all {wr : DTA} {p : Pos} (hX : DX X E k) (hm : X.mg "all" = none) (ha : DA X E [e] wr) (hg : Gl X "all" := by rfl) (he : starEach [e] X.env = (false, eval e X.env) :: starEach [] X.env := by rfl) (hpl : (backTo pos (starEach [] X.env)).any (·.1) = false := by rfl) : DE X E (.Call (.Name "all" p) [e] [] pos) (wCB wAll wr) :=
  de_cb (cr_all hX.calm) ok_all hm ha (by decide +kernel) hg (by decide) (by decide) he hpl
theorem de_any {wr : DTA} {p : Pos} (hX : DX X E k) (hm : X.mg "any" = none) (ha : DA X E [e] wr) (hg : Gl X "any" := by rfl) (he : starEach [e] X.env = (false, eval e X.env) :: starEach [] X.env := by rfl) (hpl : (backTo pos (starEach [] X.env)).any (·.1) = false := by rfl) : DE X E (.Call (.Name "any" p) [e] [] pos) (wCB wAny wr) :=
  de_cb (cr_any hX.calm) ok_any hm ha (by decide +kernel) hg (by decide) (by decide) he hpl
/-- ints -/
def wAbs : DRC := fun ds M Q => match ds with | [.int i] => Q (.int (if i < 0 then -i else i)) M | _ => False
def wMax2 : DRC := fun ds M Q => match ds with | [.int i, .int j] => Q (.int (if j > i then j else i)) M | _ => False
def wMin2 : DRC := fun ds M Q => match ds with | [.int i, .int j] => Q (.int (if j < i then j else i)) M | _ => False
def wInt1 : DRC := fun ds M Q => match ds with | [.int i] => Q (.int i) M | [.bl b] => Q (.int (if b then 1 else 0)) M | _ => False
theorem ok_abs {K : PySem.W.Frag} : OkC K (fun xs H Q => ∃ i, xs = [.int i] ∧ Q (.int (if i < 0 then -i else i)) H) wAbs := fun F M H vs ds Q Q' wd ra hw lk => by
  match ds, ra, hw with
  | [.int i], .cons r .nil, hw => cases r; exact ⟨i, rfl, lk _ H _ M (.int _) wd (.refl _ _ _) hw⟩
theorem ok_max2 {K : PySem.W.Frag} : OkC K (fun xs H Q => ∃ i j, xs = [.int i, .int j] ∧ Q (.int (if j > i then j else i)) H) wMax2 := fun F M H vs ds Q Q' wd ra hw lk => by
  match ds, ra, hw with
  | [.int i, .int j], .cons r (.cons r2 .nil), hw => cases r; cases r2; exact ⟨i, j, rfl, lk _ H _ M (.int _) wd (.refl _ _ _) hw⟩
theorem ok_min2 {K : PySem.W.Frag} : OkC K (fun xs H Q => ∃ i j, xs = [.int i, .int j] ∧ Q (.int (if j < i then j else i)) H) wMin2 := fun F M H vs ds Q Q' wd ra hw lk => by
  match ds, ra, hw with
  | [.int i, .int j], .cons r (.cons r2 .nil), hw => cases r; cases r2; exact ⟨i, j, rfl, lk _ H _ M (.int _) wd (.refl _ _ _) hw⟩
theorem ok_int1 {K : PySem.W.Frag} : OkC K (fun xs H Q => (∃ i, xs = [.int i] ∧ Q (.int i) H) ∨ ∃ k, xs = [.bl k] ∧ Q (.int (if k then 1 else 0)) H) wInt1 := fun F M H vs ds Q Q' wd ra hw lk => by
  match ds, ra, hw with
  | [.int i], .cons r .nil, hw => cases r; exact .inl ⟨i, rfl, lk _ H _ M (.int _) wd (.refl _ _ _) hw⟩
  | [.bl i], .cons r .nil, hw => cases r; exact .inr ⟨i, rfl, lk _ H _ M (.int _) wd (.refl _ _ _) hw⟩
theorem de_abs {wr : DTA} {p : Pos} (hm : X.mg "abs" = none) (ha : DA X E [e] wr) (hg : Gl X "abs" := by rfl) (he : starEach [e] X.env = (false, eval e X.env) :: starEach [] X.env := by rfl) (hpl : (backTo pos (starEach [] X.env)).any (·.1) = false := by rfl) : DE X E (.Call (.Name "abs" p) [e] [] pos) (wCB wAbs wr) :=
  de_cb call_abs ok_abs hm ha (by decide +kernel) hg (by decide) (by decide) he hpl
theorem de_max2 {wr : DTA} {p : Pos} (hX : DX X E k) (hm : X.mg "max" = none) (ha : DA X E [a, b] wr) (hg : Gl X "max" := by rfl) (he : starEach [a, b] X.env = (false, eval a X.env) :: starEach [b] X.env := by rfl) (hpl : (backTo pos (starEach [b] X.env)).any (·.1) = false := by rfl) : DE X E (.Call (.Name "max" p) [a, b] [] pos) (wCB wMax2 wr) :=
  de_cb (call_max2 hX.calm) ok_max2 hm ha (by decide +kernel) hg (by decide) (by decide) he hpl
theorem de_min2 {wr : DTA} {p : Pos} (hX : DX X E k) (hm : X.mg "min" = none) (ha : DA X E [a, b] wr) (hg : Gl X "min" := by rfl) (he : starEach [a, b] X.env = (false, eval a X.env) :: starEach [b] X.env := by rfl) (hpl : (backTo pos (starEach [b] X.env)).any (·.1) = false := by rfl) : DE X E (.Call (.Name "min" p) [a, b] [] pos) (wCB wMin2 wr) :=
  de_cb (call_min2 hX.calm) ok_min2 hm ha (by decide +kernel) hg (by decide) (by decide) he hpl
theorem de_int {wr : DTA} {p : Pos} (hm : X.mg "int" = none) (ha : DA X E [e] wr) (hg : Gl X "int" := by rfl) (he : starEach [e] X.env = (false, eval e X.env) :: starEach [] X.env := by rfl) (hpl : (backTo pos (starEach [] X.env)).any (·.1) = false := by rfl) : DE X E (.Call (.Name "int" p) [e] [] pos) (wCB wInt1 wr) :=
  de_cty call_int1 ok_int1 hm ha (by decide +kernel) hg (by decide) (by decide) he hpl
/-- tuple(x), list(x) -/
def wTupOf : DRC := fun ds M Q => match ds with | [.tup es] => Q (.tup es) M | [d] => (match sqL M d with | some es => Q (.tup es) M | none => False) | _ => False
def wLstOf : DRC := fun ds M Q => match ds with | [d] => (match sq M d with | some es => Q (.lst es) M | none => False) | _ => False
theorem ok_tupOf {K : PySem.W.Frag} : OkC K (fun xs H Q => ∃ p ys, xs = [.ref p] ∧ ((SqL K H p ys ∧ ∀ l, H l = none → Q (.ref l) (upd H l (.tup ys))) ∨ (SqT K H p ys ∧ Q (.ref p) H))) wTupOf := fun F M H vs ds Q Q' wd ra hw lk => by
  match ds, ra, hw with
  | [d], .cons (v := v) r .nil, hw =>
    have fin : (match sqL M d with | some es => Q (.tup es) M | none => False) → ∃ p ys, [v] = [V.ref p] ∧ ((SqL K H p ys ∧ ∀ l, H l = none → Q' (.ref l) (upd H l (.tup ys))) ∨ (SqT K H p ys ∧ Q' (.ref p) H)) := fun h => by
      cases hs : sqL M d with
      | none => rw [hs] at h; exact h.elim
      | some es =>
        rw [hs] at h
        obtain ⟨p, xs, rfl, hq, ra⟩ := r.sqL wd hs
        exact ⟨p, xs, rfl, .inl ⟨hq, fun l hl => lk _ _ _ M (.newTup wd hl ra) (wd.laid hl) (ext_laid hl) h⟩⟩
    cases d with
    | tup es => cases r with | @tup a xs _ hs ra => exact ⟨a, xs, rfl, .inr ⟨hs, lk _ H _ M (.tup hs ra) wd (.refl _ _ _) hw⟩⟩
    | _ => exact fin hw
  | [], _, hw => exact (show False from hw).elim
  | .tup _ :: _ :: _, _, hw => exact (show False from hw).elim
  | .str _ :: _ :: _, _, hw => exact (show False from hw).elim
  | .lst _ :: _ :: _, _, hw => exact (show False from hw).elim
  | .fro _ :: _ :: _, _, hw => exact (show False from hw).elim
  | .ref _ :: _ :: _, _, hw => exact (show False from hw).elim
  | .non :: _ :: _, _, hw => exact (show False from hw).elim
  | .bl _ :: _ :: _, _, hw => exact (show False from hw).elim
  | .int _ :: _ :: _, _, hw => exact (show False from hw).elim
theorem ok_lstOf {K : PySem.W.Frag} : OkC K (fun xs H Q => ∃ p ys, xs = [.ref p] ∧ (SqL K H p ys ∨ SqT K H p ys) ∧ ∀ l, H l = none → Q (.ref l) (upd H l (.lst ys))) wLstOf := fun F M H vs ds Q Q' wd ra hw lk => by
  match ds, ra, hw with
  | [d], .cons (v := v) r .nil, hw =>
    have h : (match sq M d with | some es => Q (.lst es) M | none => False) := hw
    cases hs : sq M d with
    | none => rw [hs] at h; exact h.elim
    | some es =>
      rw [hs] at h
      obtain ⟨p, xs, rfl, hq, ra⟩ := r.sq wd hs
      exact ⟨p, xs, rfl, hq, fun l hl => lk _ _ _ M (.newLst wd hl ra) (wd.laid hl) (ext_laid hl) h⟩
theorem de_tuple {wr : DTA} {p : Pos} (hm : X.mg "tuple" = none) (ha : DA X E [e] wr) (hg : Gl X "tuple" := by rfl) (he : starEach [e] X.env = (false, eval e X.env) :: starEach [] X.env := by rfl) (hpl : (backTo pos (starEach [] X.env)).any (·.1) = false := by rfl) : DE X E (.Call (.Name "tuple" p) [e] [] pos) (wCB wTupOf wr) :=
  de_cty call_tuple_of ok_tupOf hm ha (by decide +kernel) hg (by decide) (by decide) he hpl
theorem de_list {wr : DTA} {p : Pos} (hm : X.mg "list" = none) (ha : DA X E [e] wr) (hg : Gl X "list" := by rfl) (he : starEach [e] X.env = (false, eval e X.env) :: starEach [] X.env := by rfl) (hpl : (backTo pos (starEach [] X.env)).any (·.1) = false := by rfl) : DE X E (.Call (.Name "list" p) [e] [] pos) (wCB wLstOf wr) :=
  de_cty call_list_of ok_lstOf hm ha (by decide +kernel) hg (by decide) (by decide) he hpl
/-- isinstance(x, T), T a built-in type -/
def D.ty : D → String
  | .non => "NoneType" | .bl _ => "bool" | .int _ => "int" | .str _ => "str" | .tup _ => "tuple" | .lst _ => "list" | .fro _ => "list" | .ref _ => ""
def D.isT (T : String) : D → Option Bool
  | .ref _ => none
  | d => some (d.ty == T || (T == "int" && d.ty == "bool"))
def wIsT (T : String) (wa : DTE) : DTE := fun δ M Q => wa δ M fun d M1 => match d.isT T with | some b => Q (.bl b) M1 | none => False
theorem Rep.tyX {K : PySem.W.Frag} {B : Addr → Prop} {H : Hp} {v : V} {d : D} (r : Rep K B H v d) (h : ∀ a, d ≠ .ref a) : TyX K H v (.type d.ty) := by
  cases d with
  | non => cases r; exact .base .non
  | bl b => cases r; exact .base (.bl b)
  | int b => cases r; exact .base (.int b)
  | str b => cases r; exact .base (.str b)
  | tup ds =>
    cases r with
    | tup hs ha =>
      rcases hs with (hs | ⟨o, hs⟩) | ⟨o, its, n, hk, hc, _⟩
      · exact .base (.tup hs)
      · exact .fTuple hs
      · exact .kTuple hk hc
  | lst ds => cases r with | lst hs _ ha => exact .base (.lst hs)
  | fro ds =>
    cases r with
    | fro hs ha =>
      rcases hs with ⟨hs, _⟩ | ⟨o, hs⟩ | ⟨o, its, n, hk, hc, _⟩
      · exact .base (.lst hs)
      · exact .base (.frz hs)
      · exact .kList hk hc
  | ref a => exact absurd rfl (h a)
/-- what the types say of one another -/
def kitAll (T : String) : Bool := ["NoneType", "bool", "int", "str", "tuple", "list"].all fun t => kitB t T == some (t == T || (T == "int" && t == "bool"))
theorem de_isT {T : String} {x : Str} {p q : Pos} (hm : X.mg "isinstance" = none) (hmT : X.mg x = none) (ha : DE X E a wa) (hv : bootBuiltins x = some (.type T) := by decide +kernel) (hk : kitAll T = true := by decide +kernel) (hg : Gl X "isinstance" := by rfl) (hgT : Gl X x := by rfl) (hn : x ≠ "__name__" := by decide) (hd : (x == ("__debug__" : Str)) = false := by decide)
    (he : starEach [a, .Name x q] X.env = (false, eval a X.env) :: starEach [.Name x q] X.env := by rfl) (he2 : starEach [.Name x q] X.env = (false, eval (.Name x q) X.env) :: starEach [] X.env := by rfl) (hpl : (backTo pos (starEach [.Name x q] X.env)).any (·.1) = false := by rfl) :
    DE X E (.Call (.Name "isinstance" p) [a, .Name x q] [] pos) (wIsT T wa) := by
  refine pe_mono (pe_callB call_isi hg hm (by decide +kernel) (pa_cons ha (pa_cons (pe_bltn (v := .ty T) hgT hmT hv rfl hn hd) pa_nil he2) he) (by decide) (by decide) he hpl) fun σ H Q' ⟨F, δ, M, Q, sm, lx, hw, lk⟩ => ?_
  refine ⟨F, δ, M, _, sm, lx, hw, fun v H1 d M1 r1 w1 e1 q1 => ?_⟩
  have nr : ∀ a, d ≠ .ref a := fun a z => by subst z; exact (show False from q1)
  have hb : d.isT T = some (d.ty == T || (T == "int" && d.ty == "bool")) := by cases d <;> first | rfl | exact absurd rfl (nr _)
  rw [hb] at q1
  refine ⟨v, .ty T, _, _, _, rfl, .ty T, r1.tyX nr, kit_ty (r := (d.ty == T || (T == "int" && d.ty == "bool"))) ?_, lk _ H1 _ M1 (.bl _) w1 e1 q1⟩
  unfold kitAll at hk
  simp only [List.all_cons, List.all_nil, Bool.and_true, Bool.and_eq_true, beq_iff_eq] at hk
  obtain ⟨h1, h2, h3, h4, h5, h6⟩ := hk
  cases d <;> first | assumption | exact absurd rfl (nr _)

/-! ### xs.append(e); xs[i] = e -/
def wApp (wo wa : DTE) : DTE := fun δ M Q => wo δ M fun o M1 => match o with
  | .ref p => onO (moL (M1 p)) fun _ => wa δ M1 fun d M2 => onO (moL (M2 p)) fun ds => ds.length < sizeLine ∧ Q .non (updM M2 p (.lst (ds ++ [d])))
  | _ => False
theorem rep_write {K : PySem.W.Frag} {F : Addr → Prop} {M : Mem} {H : Hp} {p : Addr} {ds ds' : List D} {vs' : List V} (w : Wd K F M H) (hm : M p = some (.lst ds)) (ra : RepAll K (Bar F M) H vs' ds') :
    Wd K F (updM M p (.lst ds')) (upd H p (.lst vs')) ∧ Ext F M H (updM M p (.lst ds')) (upd H p (.lst vs')) := by
  have x : Ext F M H (updM M p (.lst ds')) (upd H p (.lst vs')) := ext_write hm (w.nf hm)
  exact ⟨w.write (m' := .lst ds') hm ⟨vs', upd_same, RepAll.ext w x ds' vs' ra⟩, x⟩
theorem de_append {o : Expr} {wo : DTE} {apos cpos : Pos} (ho : DE X E o wo) (ha : DE X E e wa) (hbase : attributeBase o "append" X.env (eval o X.env) = eval o X.env := by rfl)
    (hfew : ((backTo cpos (starEach [e] X.env)).all (fun x => !x.1) && (backToKw cpos (keywordEach [] X.env)).all (fun x => x.1.isSome)
      && decide (([e] : List Expr).length + ([] : List Keyword).length + (if ([] : List Keyword).isEmpty then 0 else 1) < 30)) = true := by rfl)
    (hline : (apos.endLine == cpos.line) = true := by rfl) (hs : starEach [e] X.env = (false, eval e X.env) :: starEach [] X.env := by rfl) (hplain : (backTo cpos (starEach [] X.env)).any (·.1) = false := by rfl) :
    DE X E (.Call (.Attribute o "append" apos) [e] [] cpos) (wApp wo wa) := by
  refine pe_mono (pe_bm PySem.F.plainAttrs_list PySem.F.slot_list_append PySem.F.type_list_append mt_append ho (pa_cons ha pa_nil hs) hbase hfew hline hs hplain) fun σ H Q' ⟨F, δ, M, Q, sm, lx, hw, lk⟩ => ?_
  refine ⟨F, δ, M, _, sm, lx, hw, fun v H1 o M1 r1 w1 e1 q1 => ?_⟩
  cases o with
  | ref p =>
    cases r1
    obtain ⟨ds0, hm, q1⟩ := onO_e q1
    · skip
      obtain ⟨vs0, h0, _⟩ := w1.mem p _ (moL_some hm)
      refine ⟨.inl ⟨rfl, vs0, .of h0⟩, F, δ, M1, _, sm.ext w1 e1, lx.ext w1 e1, q1, fun x H2 d M2 r2 w2 e2 q2 => ?_⟩
      obtain ⟨ds, hm2, q2⟩ := onO_e q2
      · have hm2 := moL_some hm2
        obtain ⟨vs, h2, ra⟩ := w2.mem p _ hm2
        obtain ⟨w3, e3⟩ := rep_write (vs' := vs ++ [x]) w2 hm2 (ra.append (.cons r2 .nil))
        exact ⟨p, vs, x, rfl, rfl, h2, by rw [ra.length]; exact q2.1, lk _ _ _ _ .non w3 (Ext.trans w1 e1 (Ext.trans w2 e2 e3)) q2.2⟩
  | _ => exact (show False from q1).elim
end
end Bx

set_option Elab.async false
set_option linter.all false
set_option maxRecDepth 100000
set_option maxHeartbeats 2000000
namespace Bx
open PySem PySem.Spec L2
open PyProof.Rows hiding St

/-! ### defs -/
abbrev DSpec := List D → Mem → DK → (Value → Mem → Prop) → Prop
def DSp (K : PySem.W.Frag) (n : Nat) (spec : DSpec) : Sp := fun vs H Q E => ∃ F M ds Qd Ed, ds.length = n ∧ RepAll K (Bar F M) H vs ds ∧ Wd K F M H ∧ LkX K E F M H Ed ∧ spec ds M Qd Ed ∧
  ∀ v H' d M', Rep K (Bar F M') H' v d → Wd K F M' H' → Ext F M H M' H' → Qd d M' → Q v H'
/-- the def named x stands, and keeps the promise -/
def DFn (P : Program) (w : World) (K : PySem.W.Frag) (mg : Str → Option Value) (base : Heap) (k : Nat) (x : Str) (n : Nat) (spec : DSpec) : Prop :=
  ∃ f fd ps, ps.length = n ∧ FnOk P w K mg base (L2N.CX P w) k f fd ps (DSp K n spec) ∧ mg x = some (.ref f) ∧ PySem.W.keepIn K (.ref f) = true ∧ Binds K fd ps []
def wCall (n : Nat) (spec : DSpec) (wr : DTA) : DTE := fun δ M Q => wr δ M fun ds M1 => ds.length = n ∧ spec ds M1 Q δ.x
theorem lift_call {K : PySem.W.Frag} {E : XK} {n : Nat} {spec : DSpec} {wr : DTA} {σ : L2.St} {H : Hp} {Q' : VK} (h : liftE K E (wCall n spec wr) σ H Q') : tCall (DSp K n spec) [] E (liftA K E wr) σ H Q' := by
  obtain ⟨F, δ, M, Q, sm, lx, hw, lk⟩ := h
  refine ⟨F, δ, M, _, sm, lx, hw, fun vs H1 ds M1 r1 w1 e1 q1 => ?_⟩
  show DSp K n spec (vs ++ []) H1 Q' E
  rw [List.append_nil]
  exact ⟨F, M1, ds, Q, δ.x, q1.1, r1, w1, lx.ext w1 e1, q1.2, fun v H' d M' r w e q => lk v H' d M' r w (Ext.trans w1 e1 e) q⟩
section
variable {X : Cx} {E : XK} {j k n : Nat} {spec : DSpec} {a b c e : Expr} {wa wb wc : DTE} {ta tb : DTT} {pos p : Pos} {x : Str} {es : List Expr} {wr : DTA}
theorem de_call (hX : DX X E k) (c : DFn X.prog X.w X.K X.mg X.base j x n spec) (ha : DA X E (e :: es) wr) (hj : j ≤ k := by decide) (hg : Gl X x := by rfl) (hdb : (x == ("__debug__" : Str)) = false := by decide) (he : starEach (e :: es) X.env = (false, eval e X.env) :: starEach es X.env := by rfl) (hpl : (backTo pos (starEach es X.env)).any (·.1) = false := by rfl) :
    DE X E (.Call (.Name x p) (e :: es) [] pos) (wCall n spec wr) := by
  obtain ⟨f, fd, ps, hl, F, hm, hk, hb⟩ := c
  exact pe_mono (pe_call F (hX.room.mono hj) hg hm hk hb .nil hX.pass ha hdb he hpl) fun _ _ _ h => lift_call h
theorem de_call0 (hX : DX X E k) (c : DFn X.prog X.w X.K X.mg X.base j x n spec) (hj : j ≤ k := by decide) (hg : Gl X x := by rfl) (hdb : (x == ("__debug__" : Str)) = false := by decide) :
    DE X E (.Call (.Name x p) [] [] pos) (wCall n spec wNil) := by
  obtain ⟨f, fd, ps, hl, F, hm, hk, hb⟩ := c
  refine pe_mono (pe_call0 F (hX.room.mono hj) hg hm hk hb .nil hX.pass hdb) fun σ H Q' h => ?_
  obtain ⟨F, δ, M, Q, sm, lx, hw, lk⟩ := lift_call h
  have q := lk [] H [] M .nil sm.wd (.refl _ _ _) hw
  exact q
end
def startD (N : List Str) (ds : List D) : List (Option D) := ds.map some ++ List.replicate (N.length - ds.length) none
theorem start_rep {K : PySem.W.Frag} {B : Addr → Prop} {H : Hp} {N : List Str} {vs : List V} {ds : List D} (r : RepAll K B H vs ds) : RepS K B H (L2.start N vs) (startD N ds) := by
  refine ⟨by unfold L2.start startD; simp [r.length], fun i d h => ?_⟩
  unfold startD at h
  by_cases hi : i < ds.length
  · rw [List.getElem?_append_left (by simpa using hi), List.getElem?_map] at h
    have hd : ds[i]? = some d := by
      rw [List.getElem?_eq_getElem hi] at h ⊢
      simpa using h
    obtain ⟨v, hv, rv⟩ := r.get hd
    refine ⟨v, ?_, rv⟩
    unfold L2.start
    rw [List.getElem?_append_left (by simpa [r.length] using hi), List.getElem?_map, hv]
    rfl
  · rw [List.getElem?_append_right (by simpa using hi)] at h
    obtain ⟨_, z⟩ := List.getElem?_eq_some_iff.mp h
    simp at z
theorem Fun_okN {P : Program} {w : World} {K : PySem.W.Frag} {mg : Str → Option Value} {base : Heap} {x qual : Str} {st : Stmt} {f : Addr} {fd : FuncData} {N ps : List Str} {k : Nat} {sp : Sp} (F : Fun K x qual st f fd) (S : FnScope N ps (defScope st)) (len : ∀ vs H Q E, sp vs H Q E → vs.length = ps.length)
    (hbody : ∀ (cdv : Value) (A : Around) (outer : List Env) (s : Shared) (H : Hp) (vs : List V) (Q : VK) (E : XK), (∃ o, K.lookup f = some o ∧ ∃ gd, o.data = .func gd ∧ gd.code = cdv) → Room k (A.deeper (envOfC qual (defScope st) s.heap.objs.size f cdv)) → sp vs H Q E →
      ∃ t, PSs (cxOf (L2N.CX P w) P w K mg base N qual (defScope st) f cdv A outer s H E) (defBody st) t ∧ t { nx := fun _ H' => Q .non H', rt := Q } (L2.start N vs) H) : FnOk P w K mg base (L2N.CX P w) (k + 1) f fd ps sp := by
  obtain ⟨oc, od, kV, doc, pm, an, cdv, ct, osl, rfl, lk, hcd⟩ := F.ex
  exact fn_of lk hcd S len fun A outer s H vs Q E hr hsp => hbody cdv A outer s H vs Q E ⟨_, lk, _, rfl, rfl⟩ hr hsp
theorem fn_core {P : Program} {w : World} {K : PySem.W.Frag} {mg : Str → Option Value} {base : Heap} {k n : Nat} {x : Str} {spec : DSpec} {st : Stmt} {f : Addr} {fd : FuncData} {N ps : List Str} {wb : DTS} (F : Fun K x x st f fd) (S : FnScope N ps (defScope st)) 
    (body : ∀ (cdv : Value) (A : Around) (outer : List Env) (s : Shared) (H : Hp) (E : XK), DX (cxOf (L2N.CX P w) P w K mg base N x (defScope st) f cdv A outer s H E) E k → DSs (cxOf (L2N.CX P w) P w K mg base N x (defScope st) f cdv A outer s H E) E (defBody st) wb)
    (rd : ∀ ds M Q Ed, ds.length = n → spec ds M Q Ed → wb { nx := fun _ M' => Q .non M', rt := Q } ⟨startD N ds, Ed⟩ M) (hl : ps.length = n := by rfl) : FnOk P w K mg base (L2N.CX P w) (k + 1) f fd ps (DSp K n spec) := by
  refine Fun_okN F S (fun vs H Q E ⟨_, _, ds, _, _, hn, ra, _⟩ => by rw [ra.length, hn, hl]) (fun cdv A outer s H vs Q E _ hr ⟨F1, M, ds, Qd, Ed, hn, ra, wd, lx, hs, lk⟩ => ?_)
  have tk : L2N.Takes (cxOf (L2N.CX P w) P w K mg base N x (defScope st) f cdv A outer s H E) fun cls d _ H => E cls d H := L2N.takes_of rfl rfl rfl rfl
  have hX : DX (cxOf (L2N.CX P w) P w K mg base N x (defScope st) f cdv A outer s H E) E k := ⟨rfl, passes_of rfl, L2N.passes_call tk fun _ _ _ _ z => z, tk, S.nd, hr⟩
  refine ⟨_, body cdv A outer s H E hX, F1, ⟨startD N ds, Ed⟩, M, { nx := fun _ M' => Qd .non M', rt := Qd }, ⟨start_rep ra, wd⟩, lx, ⟨fun σ' H' δ' M' sm e _ q => ?_, fun v H' d M' r w e q => lk v H' d M' r w e q, fun _ _ _ _ _ _ _ z => z.elim, fun _ _ _ _ _ _ _ z => z.elim⟩, rd ds M Qd Ed hn hs⟩
  exact lk .non H' .non M' .non sm.wd e q
theorem DFn.mk {P : Program} {w : World} {K : PySem.W.Frag} {mg : Str → Option Value} {base : Heap} {k n : Nat} {x : Str} {spec : DSpec} {st : Stmt} {f : Addr} {fd : FuncData} {N ps : List Str} {wb : DTS} (F : Fun K x x st f fd) (S : FnScope N ps (defScope st)) (hm : mg x = some (.ref f)) (hb : Binds K fd ps [])
    (body : ∀ (cdv : Value) (A : Around) (outer : List Env) (s : Shared) (H : Hp) (E : XK), DX (cxOf (L2N.CX P w) P w K mg base N x (defScope st) f cdv A outer s H E) E k → DSs (cxOf (L2N.CX P w) P w K mg base N x (defScope st) f cdv A outer s H E) E (defBody st) wb)
    (rd : ∀ ds M Q Ed, ds.length = n → spec ds M Q Ed → wb { nx := fun _ M' => Q .non M', rt := Q } ⟨startD N ds, Ed⟩ M) (hl : ps.length = n := by rfl) : DFn P w K mg base (k + 1) x n spec :=
  ⟨f, fd, ps, hl, fn_core F S body rd hl, hm, F.kp, hb⟩
/-- a weaker promise -/
theorem DFn.imp {P : Program} {w : World} {K : PySem.W.Frag} {mg : Str → Option Value} {base : Heap} {k n : Nat} {x : Str} {spec spec' : DSpec} (h : DFn P w K mg base k x n spec) (m : ∀ ds M Q Ed, ds.length = n → spec' ds M Q Ed → spec ds M Q Ed) : DFn P w K mg base k x n spec' := by
  obtain ⟨f, fd, ps, hl, F, hm, hk, hb⟩ := h
  exact ⟨f, fd, ps, hl, F.imp fun vs H Q E ⟨F1, M, ds, Qd, Ed, hn, ra, wd, lx, hs, lk⟩ => ⟨F1, M, ds, Qd, Ed, hn, ra, wd, lx, m _ _ _ _ hn hs, lk⟩, hm, hk, hb⟩
theorem DFn.mono {P : Program} {w : World} {K : PySem.W.Frag} {mg : Str → Option Value} {base : Heap} {j k n : Nat} {x : Str} {spec : DSpec} (h : DFn P w K mg base j x n spec) (l : j ≤ k) : DFn P w K mg base k x n spec := by
  obtain ⟨f, fd, ps, hl, F, hm, hk, hb⟩ := h
  exact ⟨f, fd, ps, hl, F.mono l, hm, hk, hb⟩

/-! ### the end of a law -/
/-- the law's promise -/
def spLaw : DSpec := fun ds M Q _ => ∃ ns : List Int, ds = [.fro (ns.map D.int)] ∧ ns.length ≤ 63 ∧ ∀ M', Q (.bl true) M'
theorem repAll_ints {K : PySem.W.Frag} {B : Addr → Prop} {H : Hp} : ∀ ns : List Int, RepAll K B H (ns.map V.int) (ns.map D.int)
  | [] => .nil
  | _ :: ns => .cons (.int _) (repAll_ints ns)
theorem walk_ofX {l : PySem.W.OpenLaw} {k : Nat} {q : Program} {loose : List Str} {XP : (Str → Option Value) → Heap → Prop} {YP : World → Heap → Prop} {d : DefRec} {K : Params → PySem.W.Frag} {x : Str}
    (hn : l.most = some 63) (hdf : d.params.defaults = []) (hr : Room k callerA)
    (hY : ∀ (w : World) (h : Heap), YP w h → (K w.params).In h)
    (F : ∀ (w : World) (mg : Str → Option Value) (fa : Addr) (h : Heap), (K w.params).In h → h.Ns mainGlobals mg → XP mg h → mg d.name = some (.ref fa) →
      ∃ fd : FuncData, (∀ (s : Shared) (u : Value), BindsTo s fd ⟨[u], []⟩ [(x, u)]) ∧
        ∀ base : Heap, (K w.params).In base → base.Ns mainGlobals mg → FnOk l.prog w (K w.params) mg base (L2N.CX l.prog w) k fa fd [x] (DSp (K w.params) 1 spLaw)) :
    PySem.W.WalkO q loose XP YP l.row.toRowW d [] (fun f vs => PySem.call f vs) := by
  refine Att.attach_call hn hdf fun w s₀ s₁ mg mb fa o pm cd doc a vs ns G Y ho hd hcd hmg hobj hints hlen hg => ?_
  have KX := hY w _ Y
  obtain ⟨fd, hb, hF⟩ := F w mg fa _ KX G.T.g G.X hmg
  refine law_call KX G.T.g G.T.b G.T.builtins G.T.nolimit hg hobj hints (Nat.le_trans hlen (by decide)) hr hF hb (fun H hO hS => ?_) fun H e s' h => ?_
  · refine ⟨fun _ => False, fun _ => none, [.fro (ns.map D.int)], fun d _ => d = .bl true, fun _ _ => False, rfl, .cons (.fro ?_ (repAll_ints ns)) .nil, ⟨fun _ _ z => (by cases z), fun _ z => z.elim⟩, fun _ _ _ _ _ _ z => (xok_no z).elim, ⟨ns, rfl, hlen, fun _ => rfl⟩, fun v H' d M' r _ _ q => ?_⟩
    · rcases hS with (hS | hS) | hS
      · exact .inl ⟨hS, fun z => by rcases z with z | ⟨_, z⟩ <;> cases z⟩
      · exact .inr (.inl hS)
      · exact .inr (.inr hS)
    · subst q; cases r; rfl
  · obtain ⟨_, _, _, _, _, _, _, _, _, _, _, _, _, _, _, _, z⟩ := h

/-! ### short words for the printed terms -/
/-- the def named x stands at the module's top -/
def Here (K : PySem.W.Frag) (mg : Str → Option Value) (x : Str) (ps : List Str) (st : Stmt) : Prop := ∃ f fd, Fun K x x st f fd ∧ mg x = some (.ref f) ∧ Binds K fd ps []
theorem here_mk {K : PySem.W.Frag} {h : Heap} {mg : Str → Option Value} {x : Str} {ps : List Str} {st : Stmt} {f : Addr} {oc : Value} {od an : Option Addr} {osl : Array (Option Value)} {kV doc pm cdv ct : Value} (X : K.In h) (G : h.Ns mainGlobals mg)
    (a : PySem.W.nsIn K mainGlobals x = some (some (.ref f))) (l : K.lookup f = some ⟨oc, od, .func (PySem.W.fnOf x x (defArgs st) (defBody st) (defScope st) .none kV doc pm an cdv ct), osl⟩) (c : PySem.W.codeIn K cdv x = true) (k : PySem.W.keepIn K (.ref f) = true)
    (b : ∀ (kV doc pm : Value) (an : Option Addr) (cdv ct : Value) (us : List Value), us.length = ps.length → bindArgs (PySem.W.fnOf x x (defArgs st) (defBody st) (defScope st) .none kV doc pm an cdv ct) ⟨us, []⟩ = pure (ps.zip us)) : Here K mg x ps st := by
  have F := fun_mk (st := st) l c k
  exact ⟨f, _, F, PySem.W.mg_of X G a, F.binds b⟩
theorem DFn.here {P : Program} {w : World} {K : PySem.W.Frag} {mg : Str → Option Value} {base : Heap} {k n : Nat} {x : Str} {spec : DSpec} {st : Stmt} {N ps : List Str} {wb : DTS} (T : Here K mg x ps st) (S : FnScope N ps (defScope st))
    (body : ∀ (f : Addr) (cdv : Value) (A : Around) (outer : List Env) (s : Shared) (H : Hp) (E : XK), DX (cxOf (L2N.CX P w) P w K mg base N x (defScope st) f cdv A outer s H E) E k → DSs (cxOf (L2N.CX P w) P w K mg base N x (defScope st) f cdv A outer s H E) E (defBody st) wb)
    (rd : ∀ ds M Q Ed, ds.length = n → spec ds M Q Ed → wb { nx := fun _ M' => Q .non M', rt := Q } ⟨startD N ds, Ed⟩ M) (hl : ps.length = n := by rfl) : DFn P w K mg base (k + 1) x n spec := by
  obtain ⟨f, fd, F, hm, hb⟩ := T
  exact DFn.mk F S hm hb (body f) rd hl
/-- a global int -/
def IntAt (mg : Str → Option Value) (x : Str) (i : Int) : Prop := ∃ t, mg x = some (.int i t)
section
variable {X : Cx} {E : XK} {k : Nat} {a b c e : Expr} {wa wb wc : DTE} {ta tb : DTT} {pos : Pos}
theorem dgi {x : Str} {i : Int} (h : IntAt X.mg x i) (hg : Gl X x := by rfl) (hdb : (x == ("__debug__" : Str)) = false := by decide) : DE X E (.Name x pos) (wC (.int i)) := by
  obtain ⟨t, h⟩ := h
  exact dglob hg h (v := .int i) ⟨t, rfl⟩ (fun _ _ _ => .int _) hdb
theorem dt_eq (hX : DX X E k) (ha : DE X E a wa) (hb : DE X E b wb) : DT X E (.Compare a [.Eq] [b] pos) (wTest (wOp wEqV wa wb)) := dt_cmp (op_eqD hX.room.units) ok_eqV ha hb (nomark _)
theorem dt_ne (hX : DX X E k) (ha : DE X E a wa) (hb : DE X E b wb) : DT X E (.Compare a [.NotEq] [b] pos) (wTest (wOp wNeV wa wb)) := dt_cmp (op_neD hX.room.units) ok_neV ha hb (nomark _)
theorem dt_lt (ha : DE X E a wa) (hb : DE X E b wb) : DT X E (.Compare a [.Lt] [b] pos) (wTest (wOp (wI0 fun i j => .bl (decide (i < j))) wa wb)) := dt_cmp op_lt (okI0 fun _ _ _ _ => .bl _) ha hb (nomark _)
theorem dt_le (ha : DE X E a wa) (hb : DE X E b wb) : DT X E (.Compare a [.LtE] [b] pos) (wTest (wOp (wI0 fun i j => .bl (decide (i ≤ j))) wa wb)) := dt_cmp op_le (okI0 fun _ _ _ _ => .bl _) ha hb (nomark _)
theorem dt_gt (ha : DE X E a wa) (hb : DE X E b wb) : DT X E (.Compare a [.Gt] [b] pos) (wTest (wOp (wI0 fun i j => .bl (decide (j < i))) wa wb)) := dt_cmp op_gt (okI0 fun _ _ _ _ => .bl _) ha hb (nomark _)
theorem dt_ge (ha : DE X E a wa) (hb : DE X E b wb) : DT X E (.Compare a [.GtE] [b] pos) (wTest (wOp (wI0 fun i j => .bl (decide (j ≤ i))) wa wb)) := dt_cmp op_ge (okI0 fun _ _ _ _ => .bl _) ha hb (nomark _)
theorem dt_is (ha : DE X E a wa) (hb : DE X E b wb) : DT X E (.Compare a [.Is] [b] pos) (wTest (wOp wIs wa wb)) := dt_cmp (op_isN.or op_isBl) ok_is ha hb (nomark _)
theorem dt_isnot (ha : DE X E a wa) (hb : DE X E b wb) : DT X E (.Compare a [.IsNot] [b] pos) (wTest (wOp wIsNot wa wb)) := dt_cmp (op_notN.or op_notBl) ok_isNot ha hb (nomark _)
theorem dt_inL (hX : DX X E k) (ha : DE X E a wa) (hb : DE X E b wb) (hm : behindInMarks .In b = false := by rfl) : DT X E (.Compare a [.In] [b] pos) (wTest (wOp (wInV false) wa wb)) := dt_cmp (op_inD (room_65 hX.room)) ok_inV ha hb hm
theorem dt_notInL (hX : DX X E k) (ha : DE X E a wa) (hb : DE X E b wb) (hm : behindInMarks .NotIn b = false := by rfl) : DT X E (.Compare a [.NotIn] [b] pos) (wTest (wOp (wInV true) wa wb)) := dt_cmp (op_notInD (room_65 hX.room)) ok_notInV ha hb hm
theorem dt_inF (ha : DE X E a wa) (hb : DE X E b wb) (hm : behindInMarks .In b = false := by rfl) : DT X E (.Compare a [.In] [b] pos) (wTest (wOp (wInF false) wa wb)) := dt_cmp op_in_seq ok_inF ha hb hm
theorem dt_notInF (ha : DE X E a wa) (hb : DE X E b wb) (hm : behindInMarks .NotIn b = false := by rfl) : DT X E (.Compare a [.NotIn] [b] pos) (wTest (wOp (wInF true) wa wb)) := dt_cmp op_notIn_seq ok_inF ha hb hm
theorem dt_lele (ha : DE X E a wa) (hb : DE X E b wb) (hc : DE X E c wc) (hm : lastMarks [.LtE, .LtE] [b, c] = false := by with_unfolding_all rfl) : DT X E (.Compare a [.LtE, .LtE] [b, c] pos) (wTest (wChain kLe kLe wa wb wc)) :=
  dt_chain op_le (okI0 fun _ _ _ _ => .bl _) op_le (okI0 fun _ _ _ _ => .bl _) ha hb hc hm
theorem dt_ltle (ha : DE X E a wa) (hb : DE X E b wb) (hc : DE X E c wc) (hm : lastMarks [.Lt, .LtE] [b, c] = false := by with_unfolding_all rfl) : DT X E (.Compare a [.Lt, .LtE] [b, c] pos) (wTest (wChain kLt kLe wa wb wc)) :=
  dt_chain op_lt (okI0 fun _ _ _ _ => .bl _) op_le (okI0 fun _ _ _ _ => .bl _) ha hb hc hm
end
end Bx

set_option Elab.async false
set_option linter.all false
set_option maxRecDepth 100000
set_option maxHeartbeats 8000000
namespace Bx
open PySem PySem.Spec L2
open PyProof.Rows hiding St
/-! ### set(a list of ints), sorted of it -/
abbrev freshSet (w : World) : Obj := { cls := .type "set", dict := none, data := .set #[] 0 (.fresh 0 0 (!w.params.followText "set-order")) }
section
variable {P : Program} {w : World} {A : Around} {E : Value → Shared → Prop} {s : Shared}
theorem setOfInts {l : Addr} {xs : Array Value} (ns : List Int) {Q : Value → Shared → Prop} (calm : A.handled = none) (li : s.heap.IsList l xs) (hints : IntsAre xs.toList ns) (room : ns.length + 1 < scanBound)
    (done : ∀ (g : Heap) (tk c : Nat), SetR w g s.heap.objs.size (fun j => decide (j ∈ ns)) c → c ≤ ns.length → (∀ b o, s.heap.get? b = some o → g.get? b = some o) → Q (.ref s.heap.objs.size) { s with heap := g, toks := tk }) :
    wpAny (model P w) A (call (.type "set") [.ref l]) Q E s := by
  have size : xs.size = ns.length := by simpa using hints.length
  obtain ⟨c, tl, mro⟩ := F.called_set.mro
  have m1 := F.called_set.made
  have m2 := F.called_set.sub
  refine wpAny_call (codeAny_of_tree ?_)
  show wpAny _ _ (callAny (.type "set") _) _ _ _
  refine wpAny_pure ⟨Code.quiet_builtin _ (by decide +kernel), codeAny_builtin F.entry_type_call ?_⟩
  rw [Around.under_plain (weight_type_call_type "set" [.ref l] []) rfl]
  have n1 := F.called_set.notType
  have n2 := F.called_set.canCreate
  have n3 := F.typeCall_set_1 (.ref l)
  repeat (any_goals (first | assumption | wp_step))
  refine codeAny_mono (code_set_led1 (.ref l) (E := E) (Q₁ := fun obj t => obj = .ref s.heap.objs.size ∧ t = { s with heap := s.heap.push (freshSet w) }) ⟨rfl, rfl⟩) fun r t ht => ?_
  cases r with
  | error e => exact ht
  | ok fl => cases fl with
    | ret obj =>
      obtain ⟨rfl, rfl⟩ := ht
      have at0 : (s.heap.push (freshSet w)).get? s.heap.objs.size = some (freshSet w) := Heap.get?_push_size _ rfl
      have ty0 : Shared.TypeIs { s with heap := s.heap.push (freshSet w) } (.ref s.heap.objs.size) "set" := ⟨_, at0, rfl⟩
      have i1 := F.called_set.init.lookup
      have i2 := F.called_set.init.bind (.ref s.heap.objs.size)
      repeat (any_goals (first | assumption | wp_step))
      refine codeAny_mono (codeAny_call_builtin (R := wants (fun r u => r = .none ∧ ∃ g tk c, u = { s with heap := g, toks := tk } ∧ SetR w g s.heap.objs.size (fun j => decide (j ∈ ns)) c ∧ c ≤ ns.length ∧
        ∀ b o, s.heap.get? b = some o → g.get? b = some o) E) F.called_set.init.plain F.entry_set_init (check_set_init_1 ty0 ?_)) fun r u hu => ?_
      · obtain ⟨⟨cl, dc, dt, so⟩, go, gc, nl, gd⟩ := li
        simp only at gc gd
        subst gc gd
        have go' : (s.heap.push (freshSet w)).get? l = some { cls := .type "list", dict := dc, data := .seq xs nl, slots := so } := Heap.get?_push_of_some _ go
        have q1 := F.sub_list_set
        have q2 := F.sub_list_frozenset
        have q3 : (Value.type "list" == Value.type "dict") = false := by decide
        have li' : (s.heap.push (freshSet w)).IsList l xs := ⟨_, go', rfl, nl, rfl⟩
        unfold Builtin.«set.__init__» noKeywords Builtin.Frozenset.updateFrom
        generalize hp : pyIter = pI
        wp_walk
        subst hp
        refine wpAny_pyIter_list li' (wpAny_bind (wpAny_runValue ?_))
        have lt : l < s.heap.objs.size := Heap.lt_size go
        have sz : (s.heap.push (freshSet w)).objs.size = s.heap.objs.size + 1 := Heap.size_push ..
        have ne : l ≠ (s.heap.push (freshSet w)).objs.size := by rw [sz]; exact Nat.ne_of_lt (Nat.lt_succ_of_lt lt)
        have fresh : s.heap.objs.size ∉ [(s.heap.push (freshSet w)).objs.size, l] := by
          rw [sz]
          intro z
          rcases List.mem_cons.mp z with z | z
          · exact Nat.ne_of_lt (Nat.lt_succ_self _) z
          · exact Nat.ne_of_gt lt (List.mem_singleton.mp z)
        have val : ∀ (i : Nat) (v : Value), xs[i]? = some v → ∃ k t, ns[i]? = some k ∧ v = .int k t := fun i v hv => by
          have hi : i < ns.length := by rw [← size]; exact (Array.getElem?_eq_some_iff.mp hv).1
          obtain ⟨t, e⟩ := hints.int_at i v (by rw [Array.getElem?_toList]; exact hv)
          exact ⟨ns[i], t, List.getElem?_eq_getElem hi, by rw [e, List.getD_eq_getElem?_getD, List.getElem?_eq_getElem hi]; rfl⟩
        have calm3 : A.in1.in1.in1.handled = none := by simpa using calm
        refine set_update_ints (Walks.list calm3 _ l ne xs).toS s.heap.objs.size fresh ns size room val (xs.size - 0) 0 _ (by omega) (Nat.zero_le _) ⟨⟨_, Heap.get?_push_size _ rfl, rfl, rfl⟩, li'.push _⟩ ?first ?last
        case first => exact ⟨0, Nat.le_refl 0, setR_new_at (Heap.get?_push_of_some _ at0)⟩
        case last =>
          intro u c' mv hc hS
          obtain ⟨g, gg, dd, tk, oo⟩ := u
          obtain rfl : gg = s.gens := mv.gens
          obtain rfl : dd = s.drawn := mv.drawn
          obtain rfl : oo = s.os := mv.os
          show wpAny _ _ _ _ _ _
          refine wpAny_pure ?_
          show wpAny _ _ (ret Value.none) _ _ _
          refine wpAny_pure ⟨rfl, g, tk, c', rfl, hS, by rw [← size]; exact hc, fun b o e => ?_⟩
          have lb : b < s.heap.objs.size := Heap.lt_size e
          refine mv.heap b o (fun z => ?_) (Heap.get?_push_of_some _ (Heap.get?_push_of_some _ e))
          rcases List.mem_cons.mp z with z | z
          · exact Nat.ne_of_lt lb z
          · have e : b = s.heap.objs.size + 1 := (List.mem_singleton.mp z).trans sz
            exact absurd lb (by rw [e]; exact Nat.not_lt.mpr (Nat.le_succ _))
      · cases r with
        | error e => exact hu
        | ok f2 => cases f2 with
          | ret r =>
            obtain ⟨rfl, g, tk, c', rfl, hS, hc, hk⟩ := hu
            repeat (any_goals (first | assumption | wp_step))
            exact done _ _ _ hS hc hk
          | _ => exact hu.elim
    | _ => exact ht.elim
end

end Bx

set_option Elab.async false
set_option linter.all false
set_option maxRecDepth 100000
set_option maxHeartbeats 4000000
namespace Bx
open PySem PySem.Spec L2
open PyProof.Rows hiding St

section
variable {X : Cx} {E : XK} {k : Nat} {a b c e : Expr} {wa wb wc : DTE} {pos : Pos}
def rSetI (K : PySem.W.Frag) (w : World) : List V → Hp → VK → Prop := fun xs H Q => ∃ (l : Addr) (ns : List Int), xs = [.ref l] ∧ SqL K H l (ns.map V.int) ∧ ns.length + 1 < scanBound ∧ ∀ p n, H p = none → n ≤ ns.length → Q (.ref p) (upd H p (SetO w p (fun j => decide (j ∈ ns)) n))
theorem intsAre_vals : ∀ {ns : List Int} {us : List Value}, Vals (ns.map V.int) us → IntsAre us ns
  | [], _, .nil => .nil
  | n :: ns, _, h => by
    cases h with
    | cons r t =>
      obtain ⟨tk, rfl⟩ := r
      exact .cons n tk (intsAre_vals t)
theorem cr_setI (hc : X.calm = true) : CallR X (.type "set") (rSetI X.K X.w) := by
  intro pins s σ H xs us Q I r h
  obtain ⟨l, ns, rfl, hl, hn, q⟩ := h
  rw [Vals.ref1 r]
  obtain ⟨its, rv, pl, hz⟩ := I.list hl
  refine setOfInts ns (I.ok.hd hc) pl.isList (by simpa using intsAre_vals rv) hn fun g tk c R hcn hk => ?_
  exact ⟨.ref s.heap.objs.size, _, I.laid (t' := tk) hk (Nat.le_refl _) (setO_new R), rfl, q _ c (I.hok.fresh (Nat.le_refl _)) hcn⟩
/-- the ints among data -/
def intsD : List D → Option (List Int)
  | [] => some []
  | .int i :: ds => (match intsD ds with | some is => some (i :: is) | none => none)
  | _ :: _ => none
theorem intsD_rep {K : PySem.W.Frag} {B : Addr → Prop} {H : Hp} : ∀ {vs : List V} {ds : List D} {is : List Int}, RepAll K B H vs ds → intsD ds = some is → vs = is.map V.int
  | _, [], _, h, e => by cases h; cases e; rfl
  | _, .int i :: ds, is, h, e => by
    cases h with
    | cons h1 h2 =>
      have e : (match intsD ds with | some is => some (i :: is) | none => none) = some is := e
      cases hd : intsD ds with
      | none => rw [hd] at e; cases e
      | some js => rw [hd] at e; cases e; cases h1; rw [intsD_rep h2 hd]; rfl
  | _, .non :: _, _, _, e => by cases e
  | _, .bl _ :: _, _, _, e => by cases e
  | _, .str _ :: _, _, _, e => by cases e
  | _, .tup _ :: _, _, _, e => by cases e
  | _, .lst _ :: _, _, _, e => by cases e
  | _, .fro _ :: _, _, _, e => by cases e
  | _, .ref _ :: _, _, _, e => by cases e
theorem intsD_map : ∀ is : List Int, intsD (is.map D.int) = some is
  | [] => rfl
  | i :: is => by show (match intsD (is.map D.int) with | some is => some (i :: is) | none => none) = _; rw [intsD_map is]
/-- ints, each once, rising -/
def wSortedSet (wa : DTE) : DTE := fun δ M Q => wa δ M fun d M1 => onO (sqL M1 d) fun ds => onO (intsD ds) fun is =>
  is.length < 63 ∧ ∀ ns : List Int, ns.Pairwise (· < ·) → (∀ k, k ∈ ns ↔ k ∈ is) → Q (.lst (ns.map D.int)) M1
theorem de_sortedSet {p q : Pos} {ps : Pos} (hX : DX X E k) (hm : X.mg "sorted" = none) (hm2 : X.mg "set" = none) (ha : DE X E a wa) (hg : Gl X "sorted" := by rfl) (hg2 : Gl X "set" := by rfl)
    (he2 : starEach [a] X.env = (false, eval a X.env) :: starEach [] X.env := by rfl) (hpl2 : (backTo ps (starEach [] X.env)).any (·.1) = false := by rfl)
    (he : starEach [.Call (.Name "set" q) [a] [] ps] X.env = (false, eval (.Call (.Name "set" q) [a] [] ps) X.env) :: starEach [] X.env := by rfl) (hpl : (backTo pos (starEach [] X.env)).any (·.1) = false := by rfl) :
    DE X E (.Call (.Name "sorted" p) [.Call (.Name "set" q) [a] [] ps] [] pos) (wSortedSet wa) := by
  refine pe_mono (pe_callB (cr_sortedSet hX.calm) hg hm (by decide +kernel) (pa_cons (pe_callTy (cr_setI hX.calm) hg2 hm2 (by decide +kernel) (pa_cons ha pa_nil he2) (by decide) (by decide) he2 hpl2) pa_nil he) (by decide) (by decide) he hpl) fun σ H Q' ⟨F, δ, M, Q, sm, lx, hw, lk⟩ => ?_
  refine ⟨F, δ, M, _, sm, lx, hw, fun v H1 d M1 r1 w1 e1 q1 => ?_⟩
  obtain ⟨ds, hs, q1⟩ := onO_e q1
  · obtain ⟨is, hi, q1⟩ := onO_e q1
    · skip
      obtain ⟨p, xs, rfl, hq, ra⟩ := r1.sqL w1 hs
      have ex := intsD_rep ra hi
      subst ex
      refine ⟨p, is, rfl, hq, Nat.lt_of_lt_of_le (show is.length + 1 < 64 by omega) (by decide), fun c n hc hn => ?_⟩
      refine ⟨c, _, n, rfl, upd_same, by omega, fun ns t hp hm hl ht => ?_⟩
      have w2 := w1.laid (o := SetO X.w c (fun j => decide (j ∈ is)) n) hc
      have e2 : Ext F M1 H1 M1 (upd H1 c (SetO X.w c (fun j => decide (j ∈ is)) n)) := ext_laid hc
      exact lk _ _ _ M1 (.newLst w2 ht (repAll_ints ns)) (w2.laid ht) (Ext.trans w1 e1 (Ext.trans w2 e2 (ext_laid ht))) (q1.2 ns hp fun k => by rw [hm k]; exact decide_eq_true_iff)
/-! ### a list put together, to be changed -/
def wCatM : DR2 := fun x y M Q => match x, y with | .lst i, .lst j => i.length + j.length ≤ sizeLine ∧ ∀ p, M p = none → Q (.ref p) (updM M p (.lst (i ++ j))) | _, _ => False
theorem ok_catM {K : PySem.W.Frag} : OkR K rCat wCatM := by
  intro F M H x y d1 d2 Q Q' wd r1 r2 hw lk
  cases d1 with
  | lst i => cases d2 with
    | lst j =>
      cases r1 with
      | @lst a xs _ hs _ ha =>
        cases r2 with
        | @lst b ys _ ht _ hb =>
          refine ⟨a, b, xs, ys, rfl, rfl, hs, ht, by rw [ha.length, hb.length]; exact hw.1, fun p hp => ?_⟩
          have x : Ext F M H (updM M p (.lst (i ++ j))) (upd H p (.lst (xs ++ ys))) := ext_laidM hp
          exact lk _ _ _ _ (.ref p) (wd.laidM (m := .lst (i ++ j)) hp ⟨_, upd_same, RepAll.ext wd x _ _ (ha.append hb)⟩) x (hw.2 p (wd.noM hp))
    | _ => exact (show False from hw).elim
  | _ => exact (show False from hw).elim
theorem de_catM (ha : DE X E a wa) (hb : DE X E b wb) : DE X E (.BinOp a .Add b pos) (wOp wCatM wa wb) := de_op op_cat ok_catM ha hb
/-! ### xs[i] = e -/
def wIxSet (wv wo wi : DTE) : DTS := fun D δ M => wv δ M fun d M1 => wo δ M1 fun o M2 => wi δ M2 fun i M3 => match o, i with
  | .ref p, .int j => onO (moL (M3 p)) fun ds => onO (ixN ds.length j) fun n => D.nx δ (updM M3 p (.lst (ds.set n d)))
  | _, _ => False
theorem ds_ixset {o i v : Expr} {wo wi wv : DTE} {tpos : Pos} (hv : DE X E v wv) (ho : DE X E o wo) (hi : DE X E i wi) (hs : swapsWithSole [.Subscript o i tpos] v pos.line X.env = pure false := by rfl) (hw : swappedStores [.Subscript o i tpos] v X.env = pure none := by rfl) (h1 : (assignEach [.Subscript o i tpos] X.env).map (·.2) = [assign (.Subscript o i tpos) X.env] := by rfl)
    (h2 : ∀ v, assign (.Subscript o i tpos) X.env v = (do let ov ← holding [v] (eval o X.env); let iv ← holding [v, ov] (eval i X.env); standAt tpos; holding [v, ov, iv] (setItem ov iv v); release [v, ov, iv] []) := by intro _; rfl) :
    DS X E (.Assign [.Subscript o i tpos] v pos) (wIxSet wv wo wi) := by
  refine ps_mono (ps_asg hv (pg_sub ho hi set_list h2) hs hw h1) fun Dh σ H ⟨F, δ, M, Dd, sm, lx, ld, hw⟩ => ?_
  refine ⟨F, δ, M, _, sm, lx, hw, fun x H1 d M1 r1 w1 e1 q1 => ?_⟩
  refine ⟨F, δ, M1, _, sm.ext w1 e1, lx.ext w1 e1, q1, fun y H2 o M2 r2 w2 e2 q2 => ?_⟩
  have e12 := Ext.trans w1 e1 e2
  refine ⟨F, δ, M2, _, sm.ext w2 e12, lx.ext w2 e12, q2, fun z H3 i M3 r3 w3 e3 q3 => ?_⟩
  cases o with
  | ref p => cases i with
    | int j =>
      cases r2; cases r3
      obtain ⟨ds, hm, q3⟩ := onO_e q3
      · obtain ⟨n, hn, q3⟩ := onO_e q3
        · have hm := moL_some hm
          obtain ⟨vs, h3, ra⟩ := w3.mem p _ hm
          have rx := Rep.ext w2 e3 _ _ (Rep.ext w1 e2 _ _ r1)
          obtain ⟨w4, e4⟩ := rep_write (vs' := vs.set n x) w3 hm (ra.set rx n)
          have e14 := Ext.trans w2 e12 (Ext.trans w3 e3 e4)
          exact ⟨p, vs, j, n, rfl, rfl, h3, by rw [ra.length]; exact hn, ld.nx σ _ δ _ (sm.ext w4 e14) e14 rfl q3⟩
    | _ => exact (show False from q3).elim
  | _ => exact (show False from q3).elim
end

/-! ### readings of loops and comprehensions without effect -/
theorem lc_pure {ds : List D} {δ : DSt} {t : Tg} {tt : DTT} {te : DTE} {vs : List Nat} {Q : DK} {M : Mem} (f : D → Option D) (hlen : ds.length ≤ sizeLine)
    (turn : ∀ (i : Nat) d, ds[i]? = some d → ∀ (Y : DK) (N : Mem → Prop), (∀ y, f d = some y → Y y M) → (f d = none → N M) → t.setK d (wipeD δ.s vs) fun s => tt ⟨s, noX⟩ M fun b M2 => onT b (te ⟨s, noX⟩ M2 fun y M3 => Y y M3) (N M2)) (done : Q (.lst (ds.filterMap f)) M) : LcGoal ds δ t tt te vs Q M := by
  refine ⟨hlen, fun i acc M' => M' = M ∧ acc = (ds.take i).filterMap f, ⟨rfl, rfl⟩, fun i d acc M' hd ⟨eM, ea⟩ => ?_, fun acc M' _ ⟨eM, ea⟩ => ?_⟩
  · subst eM; subst ea
    refine turn i d hd (fun y M3 => M3 = M' ∧ (ds.take i).filterMap f ++ [y] = (ds.take (i + 1)).filterMap f) (fun M2 => M2 = M' ∧ (ds.take i).filterMap f = (ds.take (i + 1)).filterMap f) (fun y hy => ⟨rfl, ?_⟩) (fun hn => ⟨rfl, ?_⟩)
    · rw [List.take_add_one, hd, List.filterMap_append]; simp [hy]
    · rw [List.take_add_one, hd, List.filterMap_append]; simp [hn]
  · subst eM; subst ea
    rw [List.take_length]
    exact done
theorem lc_map {ds : List D} {δ : DSt} {t : Tg} {te : DTE} {vs : List Nat} {Q : DK} {M : Mem} (g : D → D) (hlen : ds.length ≤ sizeLine)
    (turn : ∀ (i : Nat) d, ds[i]? = some d → ∀ (Y : DK), Y (g d) M → t.setK d (wipeD δ.s vs) fun s => te ⟨s, noX⟩ M fun y M3 => Y y M3) (done : Q (.lst (ds.map g)) M) : LcGoal ds δ t wYes te vs Q M := by
  refine lc_pure (fun d => some (g d)) hlen (fun i d hd Y N h1 _ => ?_) (by rw [List.filterMap_eq_map']; exact done)
  have := turn i d hd Y (h1 _ rfl)
  exact this
/-! ### a def that promises nothing -/
theorem DFn.void {P : Program} {w : World} {K : PySem.W.Frag} {mg : Str → Option Value} {base : Heap} {k n : Nat} {x : Str} {st : Stmt} {ps : List Str} (T : Here K mg x ps st) (hl : ps.length = n := by rfl) : DFn P w K mg base k x n (fun _ _ _ _ => False) := by
  obtain ⟨f, fd, F, hm, hb⟩ := T
  exact ⟨f, fd, ps, hl, ⟨fun vs H Q E ⟨_, _, _, _, _, _, _, _, _, z, _⟩ => z.elim, fun A outer s H args us vs Q E _ _ _ _ ⟨_, _, _, _, _, _, _, _, _, z, _⟩ => z.elim⟩, hm, F.kp, hb⟩
end Bx

set_option Elab.async false
set_option linter.all false
set_option maxRecDepth 100000
set_option maxHeartbeats 4000000
namespace Bx
open PySem PySem.Spec L2 HT
open PyProof.Rows hiding St
/-! ### t[::-1] of a tuple -/
section
variable {prog : Program} {w : World} {A : Around} {E : Value → Shared → Prop} {s : Shared}
theorem adjust_back (n : Nat) : Builtin.Slice.sliceAdjust none none (-1) (n : Int) = ((n : Int) - 1, -1) := by
  simp [Builtin.Slice.sliceAdjust]
theorem places_back (n : Nat) : Builtin.Slice.slicePlaces ((n : Int) - 1) (-1) (-1) = n := by
  unfold Builtin.Slice.slicePlaces
  by_cases h : n = 0
  · subst h; decide
  · have : (n : Int) - 1 > -1 := by omega
    simp [this]
theorem sliced_back {sl : Addr} {vl vu vs : Value} {n : Nat} {Q : Int × Int × Nat → Shared → Prop} (hs : s.heap.IsSliceOf sl vl vu vs) (p1 : IsPart vl none) (p2 : IsPart vu none) (p3 : IsPart vs (some (-1))) (h : Q ((n : Int) - 1, -1, n) s) :
    wpAny (model prog w) A (Builtin.Slice.sliceApplied (.ref sl) (pure (n : Int))) Q E s := by
  obtain ⟨o, ho, hc, hd⟩ := id hs
  unfold Builtin.Slice.sliceApplied Builtin.Slice.sliceFields
  refine wpAny_bind (wpAny_bind (wpAny_field ho hd (x := vl) rfl (wpAny_bind (wpAny_field ho hd (x := vu) rfl (wpAny_bind (wpAny_field ho hd (x := vs) rfl (wpAny_pure ?_)))))))
  refine wpAny_bind (slicePart_ p3 ?_)
  show wpAny _ _ (if ((-1 : Int) == 0) = true then _ else _) _ _ s
  rw [if_neg (by decide)]
  refine wpAny_bind (slicePart_ p1 (wpAny_bind (slicePart_ p2 (wpAny_bind (wpAny_pure ?_)))))
  show wpAny _ _ (match Builtin.Slice.sliceAdjust none none (-1) (n : Int) with | (lo, hi) => pure (lo, (-1 : Int), Builtin.Slice.slicePlaces lo hi (-1))) _ _ s
  rw [adjust_back]
  show wpAny _ _ (pure ((n : Int) - 1, (-1 : Int), Builtin.Slice.slicePlaces ((n : Int) - 1) (-1) (-1))) _ _ s
  rw [places_back]
  exact wpAny_pure h
theorem pick_back (xs : Array Value) : ((List.range xs.size).filterMap fun (k : Nat) => xs[(((xs.size : Int) - 1) + (k : Int) * -1).toNat]?).toArray = xs.toList.reverse.toArray := by
  congr 1
  have key : ∀ (l : List Value), (List.range l.length).filterMap (fun k => l[l.length - 1 - k]?) = l.reverse := fun l => by
    apply List.ext_getElem?
    intro i
    have e : (List.range l.length).filterMap (fun k => l[l.length - 1 - k]?) = (List.range l.length).map (fun k => l.getD (l.length - 1 - k) Value.none) := by
      have : ∀ (r : List Nat), (∀ k ∈ r, k < l.length) → r.filterMap (fun k => l[l.length - 1 - k]?) = r.map (fun k => l.getD (l.length - 1 - k) Value.none) := fun r => by
        induction r with
        | nil => intro _; rfl
        | cons k r ih =>
          intro h
          have hk := h k List.mem_cons_self
          have hlt : l.length - 1 - k < l.length := by omega
          rw [List.filterMap_cons, List.getElem?_eq_getElem hlt, List.map_cons, ih fun j hj => h j (List.mem_cons_of_mem _ hj)]
          simp [List.getD_eq_getElem?_getD, List.getElem?_eq_getElem hlt]
      exact this _ fun k hk => List.mem_range.mp hk
    rw [e, List.getElem?_map]
    by_cases hi : i < l.length
    · have hlt : l.length - 1 - i < l.length := by omega
      rw [List.getElem?_range hi, List.getElem?_reverse hi]
      simp [List.getD_eq_getElem?_getD, List.getElem?_eq_getElem hlt]
    · rw [List.getElem?_eq_none (by simpa using hi), List.getElem?_eq_none (by simpa using hi)]
      rfl
  have hl := key xs.toList
  rw [Array.length_toList] at hl
  rw [← hl]
  have : ∀ (r : List Nat), (∀ k ∈ r, k < xs.size) → r.filterMap (fun (k : Nat) => xs[(((xs.size : Int) - 1) + (k : Int) * -1).toNat]?) = r.filterMap (fun k => xs.toList[xs.size - 1 - k]?) := fun r h => by
    induction r with
    | nil => rfl
    | cons k r ih =>
      have hk := h k List.mem_cons_self
      rw [List.filterMap_cons, List.filterMap_cons, ih fun j hj => h j (List.mem_cons_of_mem _ hj)]
      have : (((xs.size : Int) - 1) + (k : Int) * -1).toNat = xs.size - 1 - k := by omega
      rw [this, Array.getElem?_toList]
  exact this _ fun k hk => List.mem_range.mp hk
theorem getItem_back {t sl : Addr} {xs : Array Value} {vl vu vs : Value} {Q : Value → Shared → Prop} (ht : IsTup s.heap t xs) (hs : s.heap.IsSliceOf sl vl vu vs) (p1 : IsPart vl none) (p2 : IsPart vu none) (p3 : IsPart vs (some (-1))) (small : xs.size ≤ sizeLine)
    (h : Q (.ref s.heap.objs.size) { s with heap := s.heap.push { cls := .type "tuple", data := .seq xs.toList.reverse.toArray } }) : wpAny (model prog w) A (getItem (.ref t) (.ref sl)) Q E s := by
  have ok : sizeOk (.seq xs.toList.reverse.toArray) := by
    show xs.toList.reverse.toArray.size ≤ sizeLine
    simpa using small
  obtain ⟨o, ho, hc, hd⟩ := id hs
  have ty : s.TypeIs (.ref sl) "slice" := ⟨o, ho, hc⟩
  unfold getItem
  try with_reducible refine wpAny_holding ?_
  first | refine wpAny_bind (wpAny_pure ?_) | skip
  refine wpAny_bind (wpAny_sequenceKey ht.typeIs (by decide) (wpAny_bind (wpAny_callSpecial?_slot (name := Str.ofString "__getitem__") ht.typeIs PyProof.Rows.slot_tuple_getitem
    (wpAny_call_entry PyProof.Rows.slot_tuple_getitem ht.typeIs entry_tuple_getitem ?_ (args_tuple_getitem _ _)))))
  show wpAny _ _ (Builtin.Tuple.tupleItemsOf (.ref t) >>= _) _ _ s
  refine wpAny_bind (tupleItemsOf_ ht (wpAny_bind (wpAny_typeOf ty ?_)))
  rw [if_pos (by decide)]
  refine wpAny_bind (sliced_back hs p1 p2 p3 ?_)
  have no : ¬ ((((xs.size : Int) - 1) == 0 && (-1 : Int) == 1 && xs.size == xs.size) = true) := by
    rw [show ((-1 : Int) == 1) = false from by decide]; simp
  show wpAny _ _ (if (((xs.size : Int) - 1) == 0 && (-1 : Int) == 1 && xs.size == xs.size) = true then _ else _) _ _ s
  rw [if_neg no, pick_back]
  first
    | exact wpAny_bind (m := Builtin.Tuple.tupleExact _) (wpAny_newObj_type (wpAny_pure ⟨_, rfl, wpAny_pure h⟩) ok)
    | exact wpAny_bind (m := Builtin.Tuple.tupleExact _) (wpAny_newObj_type (wpAny_bind (wpAny_pure (wpAny_pure ⟨_, rfl, wpAny_pure h⟩))) ok)
end
section
variable {X : Cx} {E : XK} {k : Nat} {a b c e : Expr} {wa wb wc : DTE} {pos : Pos}
def tBackT (K : PySem.W.Frag) (te : TE) : TE := fun σ H Q => te σ H fun x H1 => ∃ a xs, x = .ref a ∧ SqT K H1 a xs ∧ ∀ p, H1 p = none → Q (.ref p) (upd H1 p (.tup xs.reverse))
theorem pe_backT {te : TE} {j : Nat} {p1 p2 p3 : Pos} (he : PE X e te) : PE X (.Subscript e (.Slice none none (some (.UnaryOp .USub (.Constant (.int 1) j p1) p2)) p3) pos) (tBackT X.K te) := by
  refine ⟨fun pins s σ H Q I h => Subscript_ (thn (he.run pins s σ H _ I h) fun v s1 ⟨x, H1, I1, r1, a, xs, ex, hx, q⟩ => ?_)⟩
  subst ex
  cases r1
  have third : PO X (some (.UnaryOp .USub (.Constant (.int 1) j p1) p2)) (tPart (tUn (rU fun i => .int (-i)) (tC (.int 1)))) := po_some (pe_un un_neg pe_int)
  refine wpAny_Slice (thn (po_none.run pins s1 σ H1 (fun o H2 => o = none ∧ H2 = H1) I1 ⟨rfl, rfl⟩) fun vl s2 ⟨l, H2, I2, pl, el, e2⟩ => ?_)
  subst el e2
  refine thn (po_none.run pins s2 σ H2 (fun o H3 => o = none ∧ H3 = H2) I2 ⟨rfl, rfl⟩) fun vu s3 ⟨u, H3, I3, pu, eu, e3⟩ => ?_
  subst eu e3
  refine thn (third.run pins s3 σ H3 (fun o H4 => o = some (-1) ∧ H4 = H3) I3 ⟨1, rfl, -1, rfl, rfl, rfl⟩) fun vs s4 ⟨o, H4, I4, ps, eo, e4⟩ => ?_
  subst eo e4
  have I5 : Inv X pins σ H4 { s4 with heap := s4.heap.push { cls := .type "slice", data := .fields #[vl, vu, vs] } } := I4.kept (t' := s4.toks) fun b ob q => Heap.get?_push_of_some _ q
  obtain ⟨its, r, ht, hz⟩ := I5.tuple hx
  have hlen := r.length
  show wpAny (model X.prog X.w) X.A (subscriptTail e _ (.ref a) (.ref s4.heap.objs.size)) (EP X pins σ Q) X.xe _
  refine tail_any (ops := [.ref a, .ref s4.heap.objs.size]) ht.typeIs PyProof.Rows.slot_tuple_getitem.lookup ?_ (by with_unfolding_all rfl)
  refine getItem_back ht (Heap.IsSliceOf.new _ vl vu vs) pl pu ps (by rw [List.size_toArray]; omega) ?_
  refine ⟨.ref _, _, I5.laid (t' := s4.toks) (o := .tup xs.reverse) (fun b ob q => Heap.get?_push_of_some _ q) (Nat.le_refl _) ?_, rfl, q _ (I5.hok.fresh (Nat.le_refl _))⟩
  exact ⟨by rw [List.length_reverse]; exact hz, _, r.reverse, IsTup.new _ _⟩
def wBackT (wa : DTE) : DTE := fun δ M Q => wa δ M fun d M1 => match d with | .tup ds => Q (.tup ds.reverse) M1 | _ => False
theorem de_revT {j : Nat} {p1 p2 p3 : Pos} (hX : DX X E k) (ha : DE X E a wa) : DE X E (.Subscript a (.Slice none none (some (.UnaryOp .USub (.Constant (.int 1) j p1) p2)) p3) pos) (wBackT wa) := by
  refine pe_mono (pe_backT ha) fun σ H Q' ⟨F, δ, M, Q, sm, lx, hw, lk⟩ => ?_
  refine ⟨F, δ, M, _, sm, lx, hw, fun v H1 d M1 r1 w1 e1 q1 => ?_⟩
  cases d with
  | tup ds =>
    cases r1 with
    | @tup a xs _ hs ra => exact ⟨a, xs, rfl, hs, fun p hp => lk _ _ _ M1 (.newTup w1 hp ra.reverse) (w1.laid hp) (Ext.trans w1 e1 (ext_laid hp)) q1⟩
  | _ => exact (show False from q1).elim
end
end Bx

set_option Elab.async false
set_option linter.all false
set_option maxRecDepth 100000
namespace Bx
open PySem PySem.Spec L2
open PyProof.Rows hiding St
/-! ### small facts -/
theorem fit_int (n : Nat) (i : Int) : D.fit n (.int i) = true := by cases n <;> simp [D.fit]
theorem fit_bl (n : Nat) (i : Bool) : D.fit n (.bl i) = true := by cases n <;> simp [D.fit]
theorem fit_non (n : Nat) : D.fit n .non = true := by cases n <;> simp [D.fit]
theorem fit_tupC {n : Nat} {ds : List D} : D.fit (n + 1) (.tup ds) = D.fitAll n ds := by simp [D.fit]
theorem fit_lstC {n : Nat} {ds : List D} : D.fit (n + 1) (.lst ds) = D.fitAll n ds := by simp [D.fit]
theorem fitAll_cons {n : Nat} {d : D} {ds : List D} : D.fitAll n (d :: ds) = (D.fit n d && D.fitAll n ds) := by simp [D.fitAll]
theorem fitAll_nil {n : Nat} : D.fitAll n [] = true := by simp [D.fitAll]
theorem fit_tup2 {n : Nat} {a b : D} (h : D.fit (n + 1) (.tup [a, b]) = true) : D.fit n a = true ∧ D.fit n b = true := by simpa [D.fit, D.fitAll] using h
theorem fit_up {n m : Nat} {d : D} (h : D.fit n d = true) (l : n ≤ m) : D.fit m d = true := D.fit_mono n m d l h
theorem fitAll_mem {n : Nat} : ∀ {ds : List D}, D.fitAll n ds = true ↔ ∀ d ∈ ds, D.fit n d = true
  | [] => by simp [D.fitAll]
  | d :: ds => by simp [D.fitAll, fitAll_mem (ds := ds)]
/-! ### clauses and boxes as data -/
def isWholeD : D → Int → Int → Bool
  | .int i, lo, hi => decide (lo ≤ i) && decide (i ≤ hi)
  | _, _, _ => false
def isBl : D → Bool
  | .bl _ => true
  | _ => false
def isTruths : D → Bool
  | .tup [a, b] => isBl a && isBl b
  | _ => false
def isStepD : D → Bool
  | .tup [a, b] => isWholeD a 1 6 && isWholeD b 0 5
  | _ => false
def risesD : List D → Bool
  | .int a :: .int b :: r => decide (a < b) && risesD (.int b :: r)
  | _ => true
def fstD : D → D
  | .tup (a :: _) => a
  | d => d
def isStepsD : D → Bool
  | .tup ds => decide (1 ≤ ds.length) && decide (ds.length ≤ 3) && ds.all isStepD && D.eqv ((ds.map fstD).getD 0 .non) (.int 1) && risesD (ds.map fstD)
  | _ => false
def isStart : D → Bool
  | .str x => x == "landing" || x == "release"
  | _ => false
def isClauseD : D → Bool
  | .tup [b, f, e, t, s, w] => isStart b && isWholeD f 0 6 && isTruths e && isTruths t && isStepsD s && isBl w
  | _ => false
def isBoxD : D → Bool
  | .tup [.int a, .int b] => isWholeD (.int a) 0 (10 ^ 30) && isWholeD (.int b) 0 (10 ^ 30) && decide (a ≤ b)
  | _ => false

/-! ### ints among data -/
def rising : List Int → Bool
  | a :: b :: r => decide (a < b) && rising (b :: r)
  | _ => true
theorem zip_tail_all : ∀ (is : List Int), ((is.zip is.tail).all fun p => decide (p.1 < p.2)) = rising is
  | [] => rfl
  | [_] => rfl
  | a :: b :: r => by
    have ih := zip_tail_all (b :: r)
    simp only [List.tail_cons, List.zip_cons_cons, List.all_cons, rising] at ih ⊢
    rw [ih]
theorem cut_tail (ds : List D) : cutD ds (some 1) none = ds.tail := by
  unfold cutD
  rw [show HT.sIx ds.length 0 (some 1) = min 1 ds.length from HT.sIx_nat ds.length 0 1, HT.sIx_none]
  cases ds with
  | nil => rfl
  | cons x r =>
    have : min 1 (x :: r).length = 1 := by simp
    rw [this]
    simp
theorem bools_map (bs : List Bool) : bools (bs.map D.bl) = some bs := by
  induction bs with
  | nil => rfl
  | cons b bs ih => show (match (D.bl b).asB, bools (bs.map D.bl) with | some b, some bs => some (b :: bs) | _, _ => none) = _; rw [ih]; rfl
theorem bools_mapF {α : Type} (g : α → Bool) (xs : List α) : bools (xs.map fun x => D.bl (g x)) = some (xs.map g) := by
  have := bools_map (xs.map g)
  rw [List.map_map] at this
  exact this
theorem all_mapid {α : Type} (g : α → Bool) (xs : List α) : (xs.map g).all id = xs.all g := by rw [List.all_map]; rfl
/-- of a pair of ints: the first below the second -/
def ltPair : D → Bool
  | .tup [.int a, .int b] => decide (a < b)
  | _ => false
theorem zipD_ints (is : List Int) : zipD (is.map D.int) (is.map D.int).tail = (is.zip is.tail).map fun p => D.tup [.int p.1, .int p.2] := by
  unfold zipD
  rw [← List.map_tail, List.zip_map, List.map_map]
  rfl
theorem all_ltPair (is : List Int) : (zipD (is.map D.int) (is.map D.int).tail).all ltPair = rising is := by
  rw [zipD_ints, List.all_map, ← zip_tail_all]
  rfl
def isIntsD : List D → Bool
  | [] => true
  | .int _ :: r => isIntsD r
  | _ :: _ => false
theorem ints_of : ∀ {ds : List D}, isIntsD ds = true → ∃ is : List Int, ds = is.map D.int
  | [], _ => ⟨[], rfl⟩
  | .int i :: r, h => by
    obtain ⟨is, e⟩ := ints_of (ds := r) h
    exact ⟨i :: is, by rw [e]; rfl⟩
theorem rises_ints : ∀ is : List Int, risesD (is.map D.int) = rising is
  | [] => rfl
  | [_] => rfl
  | a :: b :: r => by
    show (decide (a < b) && risesD ((b :: r).map D.int)) = _
    rw [rises_ints (b :: r)]
    rfl
theorem isWholeD_int {v : D} {lo hi : Int} (h : isWholeD v lo hi = true) : ∃ i, v = .int i ∧ lo ≤ i ∧ i ≤ hi := by
  cases v with
  | int i =>
    have h : (decide (lo ≤ i) && decide (i ≤ hi)) = true := h
    rw [Bool.and_eq_true] at h
    exact ⟨i, rfl, of_decide_eq_true h.1, of_decide_eq_true h.2⟩
  | _ => cases h
theorem isStepD_pair {v : D} (h : isStepD v = true) : ∃ a b, v = .tup [.int a, .int b] ∧ 1 ≤ a ∧ a ≤ 6 ∧ 0 ≤ b ∧ b ≤ 5 := by
  cases v with
  | tup es =>
    match es, h with
    | [x, y], h =>
      have h : (isWholeD x 1 6 && isWholeD y 0 5) = true := h
      rw [Bool.and_eq_true] at h
      obtain ⟨a, rfl, h1, h2⟩ := isWholeD_int h.1
      obtain ⟨b, rfl, h3, h4⟩ := isWholeD_int h.2
      exact ⟨a, b, rfl, h1, h2, h3, h4⟩
  | _ => cases h
theorem steps_ints {ds : List D} (h : ds.all isStepD = true) : ∃ ps : List (Int × Int), ds = ps.map (fun p => D.tup [.int p.1, .int p.2]) ∧ ds.map fstD = (ps.map (·.1)).map D.int ∧ ∀ p ∈ ps, 1 ≤ p.1 ∧ p.1 ≤ 6 ∧ 0 ≤ p.2 ∧ p.2 ≤ 5 := by
  induction ds with
  | nil => exact ⟨[], rfl, rfl, fun _ h => by cases h⟩
  | cons d ds ih =>
    rw [List.all_cons, Bool.and_eq_true] at h
    obtain ⟨a, b, rfl, h1, h2, h3, h4⟩ := isStepD_pair h.1
    obtain ⟨ps, e1, e2, e3⟩ := ih h.2
    refine ⟨(a, b) :: ps, by rw [e1]; rfl, by rw [List.map_cons, e2]; rfl, fun p hp => ?_⟩
    rcases List.mem_cons.mp hp with e | hp
    · subst e; exact ⟨h1, h2, h3, h4⟩
    · exact e3 p hp
theorem beqStr_comm (x y : Str) : (x == y) = (y == x) := by
  by_cases h : x = y
  · subst h; rfl
  · rw [beq_eq_false_iff_ne.mpr h, beq_eq_false_iff_ne.mpr fun e => h e.symm]
theorem isBoxD_len {es : List D} (h : es.length ≠ 2) : isBoxD (.tup es) = false := by
  match es, h with
  | [], _ => rfl
  | [x], _ => cases x <;> rfl
  | [_, _], h => exact absurd rfl h
  | x :: y :: _ :: _, _ => cases x <;> cases y <;> rfl
theorem cmulL {i j : Int} (h : -(2 ^ 64) < i ∧ i < 2 ^ 64 := by decide) : CMul i j := .inl h
theorem cmulR {i j : Int} (h : -(2 ^ 64) < j ∧ j < 2 ^ 64 := by decide) : CMul i j := .inr h
theorem ixN_n {n j : Nat} (hj : j < n) : ixN n (j : Int) = some j := by
  unfold ixN
  rw [if_pos (by omega), if_pos (by omega)]
  simp
theorem ixl {n : Nat} (j : Nat) (h : Nat.ble (j + 1) n = true := by rfl) : ixN n (j : Int) = some j := ixN_n (Nat.le_of_ble_eq_true h)
theorem bn {b : Bool} (h : (!b) = false) : b = true := by cases b; cases h; rfl
theorem bt {b : Bool} (h : (!b) = true) : b = false := by cases b; rfl; cases h
theorem few {n : Nat} (h : Nat.ble 1 n = true := by rfl) (h2 : Nat.ble n 200 = true := by rfl) : 0 < n ∧ n < 2 ^ 30 := ⟨Nat.le_of_ble_eq_true h, Nat.lt_of_le_of_lt (Nat.le_of_ble_eq_true h2) (by decide)⟩
theorem cmod {j : Int} (h : 0 < j := by decide) : 0 < j := h
theorem cdiv {i j : Int} (h : 0 < j ∧ j < 1073741824 := by decide) : CDiv i j := h
theorem sl {n : Nat} (h : Nat.ble n 200 = true := by rfl) : n ≤ sizeLine := Nat.le_trans (Nat.le_of_ble_eq_true h) (by decide)
/-! ### the well of numbers -/
def VatAt (M : Mem) (p : Addr) : Prop := ∃ a b : Int, M p = some (.lst [.int a, .int b])
def vatO (a b : Int) : MO := .lst [.int a, .int b]
theorem VatAt.upd {M : Mem} {p : Addr} {a b : Int} : VatAt (updM M p (vatO a b)) p := ⟨a, b, updM_same⟩
/-- M, but for the well at p -/
def VatEx (M M' : Mem) (p : Addr) : Prop := VatAt M' p ∧ ∀ q, q ≠ p → M' q = M q
theorem VatEx.refl {M : Mem} {p : Addr} (h : VatAt M p) : VatEx M M p := ⟨h, fun _ _ => rfl⟩
theorem VatEx.trans {M M1 M2 : Mem} {p : Addr} (a : VatEx M M1 p) (b : VatEx M1 M2 p) : VatEx M M2 p := ⟨b.1, fun q h => (b.2 q h).trans (a.2 q h)⟩
theorem VatEx.upd {M M1 : Mem} {p : Addr} {a b : Int} (e : VatEx M M1 p) : VatEx M (updM M1 p (vatO a b)) p := ⟨.upd, fun q h => by rw [updM_ne h]; exact e.2 q h⟩
theorem moL_vat {M : Mem} {p : Addr} {a b : Int} (h : M p = some (.lst [.int a, .int b])) : moL (M p) = some [.int a, .int b] := by rw [h]; rfl
theorem rising_pw : ∀ {is : List Int}, rising is = true ↔ is.Pairwise (· < ·)
  | [] => by simp [rising]
  | [a] => by simp [rising]
  | a :: b :: r => by
    have ih := rising_pw (is := b :: r)
    show (decide (a < b) && rising (b :: r)) = true ↔ _
    rw [Bool.and_eq_true, ih, decide_eq_true_iff, List.pairwise_cons (a := a)]
    constructor
    · rintro ⟨h1, h2⟩
      refine ⟨fun c hc => ?_, h2⟩
      rcases List.mem_cons.mp hc with e | e
      · subst e; exact h1
      · exact Int.lt_trans h1 ((List.pairwise_cons.mp h2).1 c e)
    · rintro ⟨h1, h2⟩
      exact ⟨h1 b List.mem_cons_self, h2⟩
theorem sorted_eq : ∀ {as bs : List Int}, as.Pairwise (· < ·) → bs.Pairwise (· < ·) → (∀ k, k ∈ as ↔ k ∈ bs) → as = bs
  | [], [], _, _, _ => rfl
  | [], b :: bs, _, _, h => by have := (h b).mpr List.mem_cons_self; simp at this
  | a :: as, [], _, _, h => by have := (h a).mp List.mem_cons_self; simp at this
  | a :: as, b :: bs, ha, hb, h => by
    have ⟨a1, a2⟩ := List.pairwise_cons.mp ha
    have ⟨b1, b2⟩ := List.pairwise_cons.mp hb
    have e : a = b := by
      rcases List.mem_cons.mp ((h a).mp List.mem_cons_self) with e | e
      · exact e
      · rcases List.mem_cons.mp ((h b).mpr List.mem_cons_self) with e2 | e2
        · exact e2.symm
        · have := b1 a e; have := a1 b e2; omega
    subst e
    congr 1
    refine sorted_eq a2 b2 fun k => ⟨fun hk => ?_, fun hk => ?_⟩
    · rcases List.mem_cons.mp ((h k).mp (List.mem_cons_of_mem _ hk)) with e | e
      · subst e; have := a1 k hk; omega
      · exact e
    · rcases List.mem_cons.mp ((h k).mpr (List.mem_cons_of_mem _ hk)) with e | e
      · subst e; have := b1 k hk; omega
      · exact e
theorem eqv_int {i j : Int} : D.eqv (.int i) (.int j) = (i == j) := by simp [D.eqv]
theorem eqvAll_ints : ∀ (as bs : List Int), D.eqvAll (as.map D.int) (bs.map D.int) = decide (as = bs)
  | [], [] => by simp [D.eqvAll]
  | [], _ :: _ => by simp [D.eqvAll]
  | _ :: _, [] => by simp [D.eqvAll]
  | a :: as, b :: bs => by
    have ih := eqvAll_ints as bs
    simp only [List.map_cons, D.eqvAll, eqv_int, ih]
    by_cases h : a = b <;> by_cases h2 : as = bs <;> simp [h, h2]
/-- ints against the sorted set of them -/
theorem eqv_sorted {is ns : List Int} (h : ns.Pairwise (· < ·)) (m : ∀ k, k ∈ ns ↔ k ∈ is) : D.eqv (.lst (is.map D.int)) (.lst (ns.map D.int)) = rising is := by
  have : D.eqv (.lst (is.map D.int)) (.lst (ns.map D.int)) = decide (is = ns) := by simp only [D.eqv]; exact eqvAll_ints is ns
  rw [this]
  cases e : rising is with
  | true => exact decide_eq_true (sorted_eq (rising_pw.mp e) h fun k => (m k).symm)
  | false =>
    refine decide_eq_false fun z => ?_
    subst z
    rw [rising_pw.mpr h] at e
    cases e
theorem fit_ints (n : Nat) (is : List Int) : D.fitAll n (is.map D.int) = true := fitAll_mem.mpr fun d hd => by
  obtain ⟨i, _, rfl⟩ := List.mem_map.mp hd
  exact fit_int _ _
/-! ### clauses -/
structure Cl where
  land : Bool
  free : Int
  e0 : Bool
  e1 : Bool
  s0 : Bool
  s1 : Bool
  steps : List (Int × Int)
  whole : Bool
def stepD (p : Int × Int) : D := .tup [.int p.1, .int p.2]
def Cl.d (c : Cl) : D := .tup [.str (if c.land then "landing" else "release"), .int c.free, .tup [.bl c.e0, .bl c.e1], .tup [.bl c.s0, .bl c.s1], .tup (c.steps.map stepD), .bl c.whole]
structure Cl.Ok (c : Cl) : Prop where
  free : 0 ≤ c.free ∧ c.free ≤ 6
  len : 1 ≤ c.steps.length ∧ c.steps.length ≤ 3
  step : ∀ p ∈ c.steps, (1 ≤ p.1 ∧ p.1 ≤ 6) ∧ 0 ≤ p.2 ∧ p.2 ≤ 5
  one : (c.steps.map (·.1)).head? = some 1
  up : rising (c.steps.map (·.1)) = true
/-- a box -/
def boxD (l r : Int) : D := .tup [.int l, .int r]
/-- a comprehension each of whose items has P, while I stands -/
theorem lc_each {ds : List D} {δ : DSt} {t : Tg} {te : DTE} {vs : List Nat} {Q : DK} {M : Mem} (I : Mem → Prop) (P : D → Prop) (hlen : ds.length ≤ sizeLine) (h0 : I M)
    (turn : ∀ (i : Nat) d M', ds[i]? = some d → I M' → ∀ Y : DK, (∀ y M3, P y → I M3 → Y y M3) → t.setK d (wipeD δ.s vs) fun s => te ⟨s, noX⟩ M' fun y M3 => Y y M3) (done : ∀ ys M', I M' → ys.length = ds.length → (∀ y ∈ ys, P y) → Q (.lst ys) M') : LcGoal ds δ t wYes te vs Q M := by
  refine ⟨hlen, fun i acc M' => I M' ∧ acc.length = i ∧ ∀ y ∈ acc, P y, ⟨h0, rfl, fun _ h => by cases h⟩, fun i d acc M' hd ⟨hI, ha, hP⟩ => ?_, fun acc M' _ ⟨hI, ha, hP⟩ => done acc M' hI ha hP⟩
  have := turn i d M' hd hI (fun y M3 => I M3 ∧ (acc ++ [y]).length = i + 1 ∧ ∀ z ∈ acc ++ [y], P z) fun y M3 h1 h2 => ⟨h2, by rw [List.length_append, ha]; rfl, fun z hz => by
      rcases List.mem_append.mp hz with hz | hz
      · exact hP z hz
      · rw [List.mem_singleton.mp hz]; exact h1⟩
  exact this
theorem map_of_all {α : Type} {f : α → D} {P : α → Prop} : ∀ {ys : List D}, (∀ y ∈ ys, ∃ a, y = f a ∧ P a) → ∃ as : List α, ys = as.map f ∧ ∀ a ∈ as, P a
  | [], _ => ⟨[], rfl, fun _ h => by cases h⟩
  | y :: ys, h => by
    obtain ⟨a, e, pa⟩ := h y List.mem_cons_self
    obtain ⟨as, e2, ps⟩ := map_of_all fun z hz => h z (List.mem_cons_of_mem _ hz)
    refine ⟨a :: as, by rw [e, e2]; rfl, fun b hb => ?_⟩
    rcases List.mem_cons.mp hb with e | hb
    · subst e; exact pa
    · exact ps b hb
/-- what a clause's steps begin at -/
def okF (is : List Int) : Prop := (1 ≤ is.length ∧ is.length ≤ 3) ∧ (∀ i ∈ is, 1 ≤ i ∧ i ≤ 6) ∧ is.head? = some 1 ∧ rising is = true
instance (is : List Int) : Decidable (okF is) := by unfold okF; infer_instance
theorem okF_of {is : List Int} {ps : List Int} (h : okF is) (hl : ps.length = is.length) (hp : ∀ p ∈ ps, 0 ≤ p ∧ p ≤ 5) (c : Cl) (e : c.steps = is.zip ps) (f : 0 ≤ c.free ∧ c.free ≤ 6) : c.Ok := by
  have e1 : c.steps.map (·.1) = is := by rw [e, List.map_fst_zip (by omega)]
  refine ⟨f, ?_, fun p hq => ?_, ?_, ?_⟩
  · rw [e, List.length_zip, hl, Nat.min_self]; exact h.1
  · rw [e] at hq
    obtain ⟨a, b⟩ := p
    have := List.of_mem_zip hq
    exact ⟨h.2.1 _ this.1, hp _ this.2⟩
  · rw [e1]; exact h.2.2.1
  · rw [e1]; exact h.2.2.2
theorem zipD_steps (is ps : List Int) : zipD (is.map D.int) (ps.map D.int) = (is.zip ps).map stepD := by
  unfold zipD
  rw [List.zip_map, List.map_map]
  rfl
/-! ### how wide, how deep -/
mutual
/-- no list or tuple in it of more than m items -/
def D.wide (m : Nat) : D → Bool
  | .tup ds => decide (ds.length ≤ m) && D.wideAll m ds
  | .lst ds => decide (ds.length ≤ m) && D.wideAll m ds
  | _ => true
def D.wideAll (m : Nat) : List D → Bool
  | [] => true
  | d :: ds => D.wide m d && D.wideAll m ds
end
theorem wideAll_mem {m : Nat} : ∀ {ds : List D}, D.wideAll m ds = true ↔ ∀ d ∈ ds, D.wide m d = true
  | [] => by simp [D.wideAll]
  | d :: ds => by simp [D.wideAll, wideAll_mem (ds := ds)]
mutual
theorem D.wide_mono {m k : Nat} (l : m ≤ k) : ∀ d : D, D.wide m d = true → D.wide k d = true
  | .tup ds, h => by
    have h : (decide (ds.length ≤ m) && D.wideAll m ds) = true := by simpa [D.wide] using h
    rw [Bool.and_eq_true] at h
    have := of_decide_eq_true h.1
    have a : D.wideAll k ds = true := D.wideAll_mono l ds h.2
    simp [D.wide, a]; omega
  | .lst ds, h => by
    have h : (decide (ds.length ≤ m) && D.wideAll m ds) = true := by simpa [D.wide] using h
    rw [Bool.and_eq_true] at h
    have := of_decide_eq_true h.1
    have a : D.wideAll k ds = true := D.wideAll_mono l ds h.2
    simp [D.wide, a]; omega
  | .non, _ => rfl
  | .bl _, _ => rfl
  | .int _, _ => rfl
  | .str _, _ => rfl
  | .fro _, _ => rfl
  | .ref _, _ => rfl
theorem D.wideAll_mono {m k : Nat} (l : m ≤ k) : ∀ ds : List D, D.wideAll m ds = true → D.wideAll k ds = true
  | [], _ => by simp [D.wideAll]
  | d :: ds, h => by
    have h : (D.wide m d && D.wideAll m ds) = true := by simpa [D.wideAll] using h
    rw [Bool.and_eq_true] at h
    simp [D.wideAll, D.wide_mono l d h.1, D.wideAll_mono l ds h.2]
end
/-- at most n deep, at most m wide -/
def D.sp (n m : Nat) (d : D) : Prop := D.fit n d = true ∧ D.wide m d = true
theorem sp_tup {n m : Nat} {ds : List D} : D.sp (n + 1) m (.tup ds) ↔ ds.length ≤ m ∧ ∀ d ∈ ds, D.sp n m d := by
  unfold D.sp
  rw [fit_tupC, fitAll_mem, show D.wide m (.tup ds) = (decide (ds.length ≤ m) && D.wideAll m ds) by simp [D.wide], Bool.and_eq_true, decide_eq_true_iff, wideAll_mem]
  constructor
  · rintro ⟨h1, h2, h3⟩; exact ⟨h2, fun d hd => ⟨h1 d hd, h3 d hd⟩⟩
  · rintro ⟨h1, h2⟩; exact ⟨fun d hd => (h2 d hd).1, h1, fun d hd => (h2 d hd).2⟩
theorem sp_lst {n m : Nat} {ds : List D} : D.sp (n + 1) m (.lst ds) ↔ ds.length ≤ m ∧ ∀ d ∈ ds, D.sp n m d := by
  unfold D.sp
  rw [fit_lstC, fitAll_mem, show D.wide m (.lst ds) = (decide (ds.length ≤ m) && D.wideAll m ds) by simp [D.wide], Bool.and_eq_true, decide_eq_true_iff, wideAll_mem]
  constructor
  · rintro ⟨h1, h2, h3⟩; exact ⟨h2, fun d hd => ⟨h1 d hd, h3 d hd⟩⟩
  · rintro ⟨h1, h2⟩; exact ⟨fun d hd => (h2 d hd).1, h1, fun d hd => (h2 d hd).2⟩
theorem sp_int (n m : Nat) (i : Int) : D.sp n m (.int i) := ⟨fit_int _ _, rfl⟩
theorem sp_bl (n m : Nat) (i : Bool) : D.sp n m (.bl i) := ⟨fit_bl _ _, rfl⟩
theorem sp_non (n m : Nat) : D.sp n m .non := ⟨fit_non _, rfl⟩
theorem sp_str (n m : Nat) {x : Str} (h : PyData.strOk x = true := by decide +kernel) : D.sp n m (.str x) := ⟨by cases n <;> simp [D.fit, h], rfl⟩
theorem D.sp.up {n m k : Nat} {d : D} (h : D.sp n m d) (l : m ≤ k) : D.sp n k d := ⟨h.1, D.wide_mono l d h.2⟩
theorem D.sp.deep {n k m : Nat} {d : D} (h : D.sp n m d) (l : n ≤ k) : D.sp k m d := ⟨fit_up h.1 l, h.2⟩
theorem cut_mem {ds : List D} {lo hi : Option Int} {d : D} (h : d ∈ cutD ds lo hi) : d ∈ ds := List.mem_of_mem_drop (List.mem_of_mem_take h)
theorem cut_len (ds : List D) (lo hi : Option Int) : (cutD ds lo hi).length ≤ HT.sIx ds.length ds.length hi - HT.sIx ds.length 0 lo := by
  unfold cutD
  rw [List.length_take]
  exact Nat.min_le_left _ _
theorem cut_len_le (ds : List D) (lo hi : Option Int) : (cutD ds lo hi).length ≤ ds.length := by
  unfold cutD
  rw [List.length_take, List.length_drop]
  omega
theorem cut_last (ds : List D) : (cutD ds (some (-1)) none).length ≤ 1 := by
  refine Nat.le_trans (cut_len _ _ _) ?_
  have : HT.sIx ds.length 0 (some (-1)) = ((-1 : Int) + (ds.length : Int)).toNat := by
    show (if (-1 : Int) < 0 then ((-1 : Int) + (ds.length : Int)).toNat else min (-1 : Int).toNat ds.length) = _
    rw [if_pos (by decide)]
  rw [HT.sIx_none, this]
  omega
/-- a comprehension that leaves nothing -/
theorem lc_none {ds : List D} {δ : DSt} {t : Tg} {tt : DTT} {te : DTE} {vs : List Nat} {Q : DK} {M : Mem} (hlen : ds.length ≤ sizeLine)
    (turn : ∀ (i : Nat) d, ds[i]? = some d → ∀ (Y : DK) (N : Mem → Prop), N M → t.setK d (wipeD δ.s vs) fun s => tt ⟨s, noX⟩ M fun b M2 => onT b (te ⟨s, noX⟩ M2 fun y M3 => Y y M3) (N M2)) (done : Q (.lst []) M) : LcGoal ds δ t tt te vs Q M :=
  lc_pure (fun _ => none) hlen (fun i d hd Y N _ h => turn i d hd Y N (h rfl)) (by rw [show ds.filterMap (fun _ => (none : Option D)) = [] by simp]; exact done)
/-- what clauses and boxes answer -/
theorem isStart_land (b : Bool) : isStart (.str (if b then "landing" else "release")) = true := by
  cases b
  · show (("release" : Str) == "landing" || ("release" : Str) == "release") = true
    rw [beq_self_eq_true, Bool.or_true]
  · show (("landing" : Str) == "landing" || ("landing" : Str) == "release") = true
    rw [beq_self_eq_true, Bool.true_or]
theorem isStep_stepD {p : Int × Int} (h : (1 ≤ p.1 ∧ p.1 ≤ 6) ∧ 0 ≤ p.2 ∧ p.2 ≤ 5) : isStepD (stepD p) = true := by
  show ((decide (1 ≤ p.1) && decide (p.1 ≤ 6)) && (decide (0 ≤ p.2) && decide (p.2 ≤ 5))) = true
  rw [decide_eq_true h.1.1, decide_eq_true h.1.2, decide_eq_true h.2.1, decide_eq_true h.2.2]; rfl
theorem fst_stepD (ps : List (Int × Int)) : (ps.map stepD).map fstD = (ps.map (·.1)).map D.int := by
  rw [List.map_map, List.map_map]; rfl
theorem isClauseD_ok {c : Cl} (h : c.Ok) : isClauseD c.d = true := by
  show (isStart (.str (if c.land then "landing" else "release")) && (decide (0 ≤ c.free) && decide (c.free ≤ 6)) && true && true && isStepsD (.tup (c.steps.map stepD)) && true) = true
  have st : isStepsD (.tup (c.steps.map stepD)) = true := by
    show (decide (1 ≤ (c.steps.map stepD).length) && decide ((c.steps.map stepD).length ≤ 3) && (c.steps.map stepD).all isStepD && D.eqv (((c.steps.map stepD).map fstD).getD 0 .non) (.int 1) && risesD ((c.steps.map stepD).map fstD)) = true
    rw [fst_stepD, rises_ints, h.up, List.length_map, decide_eq_true h.len.1, decide_eq_true h.len.2]
    have a : (c.steps.map stepD).all isStepD = true := by
      rw [List.all_eq_true]
      intro d hd
      obtain ⟨p, hp, rfl⟩ := List.mem_map.mp hd
      exact isStep_stepD (h.step p hp)
    have o := h.one
    have e : D.eqv (((c.steps.map (·.1)).map D.int).getD 0 .non) (.int 1) = true := by
      cases hm : c.steps.map (·.1) with
      | nil => rw [hm] at o; cases o
      | cons x r => rw [hm] at o; cases o; simp [D.eqv]
    rw [a, e]; rfl
  rw [isStart_land, st, decide_eq_true h.free.1, decide_eq_true h.free.2]; rfl
theorem sp_cl {c : Cl} (h : c.Ok) : D.sp 3 6 c.d := by
  refine sp_tup.mpr ⟨by show 6 ≤ 6; decide, fun d hd => ?_⟩
  simp only [List.mem_cons, List.not_mem_nil, or_false] at hd
  rcases hd with e | e | e | e | e | e <;> subst e
  · exact sp_str _ _ (by cases c.land <;> decide +kernel)
  · exact sp_int _ _ _
  · exact sp_tup.mpr ⟨by show 2 ≤ 6; decide, fun d hd => by
      simp only [List.mem_cons, List.not_mem_nil, or_false] at hd
      rcases hd with e | e <;> subst e <;> exact sp_bl _ _ _⟩
  · exact sp_tup.mpr ⟨by show 2 ≤ 6; decide, fun d hd => by
      simp only [List.mem_cons, List.not_mem_nil, or_false] at hd
      rcases hd with e | e <;> subst e <;> exact sp_bl _ _ _⟩
  · refine sp_tup.mpr ⟨by rw [List.length_map]; have := h.len.2; omega, fun d hd => ?_⟩
    obtain ⟨p, hp, rfl⟩ := List.mem_map.mp hd
    exact sp_tup.mpr ⟨by show 2 ≤ 6; decide, fun d hd => by
      simp only [List.mem_cons, List.not_mem_nil, or_false] at hd
      rcases hd with e | e <;> subst e <;> exact sp_int _ _ _⟩
  · exact sp_bl _ _ _
theorem sp_box (l r : Int) : D.sp 3 6 (boxD l r) := by
  refine sp_tup.mpr ⟨by show 2 ≤ 6; decide, fun d hd => ?_⟩
  simp only [List.mem_cons, List.not_mem_nil, or_false] at hd
  rcases hd with e | e <;> subst e <;> exact sp_int _ _ _
instance (c : Cl) : Decidable c.Ok := decidable_of_iff ((0 ≤ c.free ∧ c.free ≤ 6) ∧ (1 ≤ c.steps.length ∧ c.steps.length ≤ 3) ∧ (∀ p ∈ c.steps, (1 ≤ p.1 ∧ p.1 ≤ 6) ∧ 0 ≤ p.2 ∧ p.2 ≤ 5) ∧ (c.steps.map (·.1)).head? = some 1 ∧ rising (c.steps.map (·.1)) = true)
  ⟨fun ⟨a, b, c, d, e⟩ => ⟨a, b, c, d, e⟩, fun ⟨a, b, c, d, e⟩ => ⟨a, b, c, d, e⟩⟩
/-- one of a few -/
theorem mem_ix {α : Type} {es : List α} {r : Int} (h0 : 0 ≤ r) (h1 : r < es.length) {Q : α → Prop} (q : ∀ d ∈ es, Q d) : onO (atI es r) Q := by
  obtain ⟨j, rfl⟩ := Int.eq_ofNat_of_zero_le h0
  have hj : j < es.length := by omega
  exact onO_i (atI_nat (List.getElem?_eq_getElem hj)) (q _ (List.getElem_mem hj))
end Bx

set_option Elab.async false
set_option linter.all false
set_option maxRecDepth 100000
set_option maxHeartbeats 4000000
namespace Bx
open PySem PySem.Spec L2
open PyProof.Rows hiding St
/-! ### zip, each of the two a list or a tuple -/
/-- t: a tuple -/
def Kit (t : Bool) (h : Heap) (it l : Addr) (i : Nat) : Prop := match t with | true => h.IsTupleIter it l i | false => h.IsListIter it l i
def Ksq (t : Bool) (h : Heap) (l : Addr) (xs : Array Value) : Prop := match t with | true => h.IsTuple l xs | false => h.IsList l xs
theorem Kit.ext {t : Bool} {a : Addr} {h h' : Heap} {it l : Addr} {i : Nat} (k : Kit t h it l i) (e : Heap.ExtBut a h h') (n : it ≠ a) : Kit t h' it l i := by
  cases t
  · exact Heap.IsListIter.extBut k e n
  · exact Heap.IsTupleIter.extBut k e n
theorem Ksq.ext {t : Bool} {a : Addr} {h h' : Heap} {l : Addr} {xs : Array Value} (k : Ksq t h l xs) (e : Heap.ExtBut a h h') (n : l ≠ a) : Ksq t h' l xs := by
  cases t
  · exact Heap.IsList.extBut k e n
  · exact Heap.IsTuple.extBut k e n
theorem Kit.at {t : Bool} {h h' : Heap} {it l : Addr} {i : Nat} (k : Kit t h it l i) (e : ∀ o, h.get? it = some o → h'.get? it = some o) : Kit t h' it l i := by
  cases t
  · exact Heap.IsListIter.at k e
  · exact Heap.IsTupleIter.at k e
theorem Kit.obj {t : Bool} {h : Heap} {it l : Addr} {i : Nat} (k : Kit t h it l i) : ∃ o, h.get? it = some o ∧ o.data = .fields #[.ref l, .int i 0] := by
  cases t
  · obtain ⟨o, e, _, d⟩ := (show h.IsListIter it l i from k); exact ⟨o, e, d⟩
  · obtain ⟨o, e, _, d⟩ := (show h.IsTupleIter it l i from k); exact ⟨o, e, d⟩
section
variable {prog : Program} {w : World} {A : Around} {E : Value → Shared → Prop} {s : Shared}
theorem knext_item {t : Bool} {it l : Addr} {i : Nat} {items : Array Value} {x : Value} {Q : Value → Shared → Prop} (hit : Kit t s.heap it l i) (hl : Ksq t s.heap l items) (hx : items[i]? = some x)
    (hQ : ∀ h', Kit t h' it l (i + 1) → Heap.SameBut it s.heap h' → Q x { s with heap := h' }) : wpAny (model prog w) A (Builtin.SmallTypes.nextOf (.ref it)) Q E s := by
  cases t
  · exact wpAny_nextOf_list_item hit hl hx hQ
  · exact RZ.nextOf_tuple_item hit hl hx hQ
theorem knext_end {t : Bool} {it l : Addr} {i : Nat} {items : Array Value} {Q : Value → Shared → Prop} (hh : A.handled = none) (hit : Kit t s.heap it l i) (hl : Ksq t s.heap l items) (hx : items[i]? = none)
    (hE : ∀ h' e, Heap.ExtBut it s.heap h' → (∃ o, h'.get? e = some o ∧ o.cls = .type "StopIteration") → E (.ref e) { s with heap := h' }) : wpAny (model prog w) A (Builtin.SmallTypes.nextOf (.ref it)) Q E s := by
  cases t
  · exact wpAny_nextOf_list_end hh hit hl hx hE
  · exact RZ.nextOf_tuple_end hh hit hl hx hE
theorem kzip_item {t u : Bool} {z TI TO i1 i2 l1 l2 : Addr} {k1 k2 : Nat} {xs ys : Array Value} {x y a b : Value} {Q : Value → Shared → Prop} (D : ZipApart z TI TO i1 i2 l1 l2)
    (hz : IsZip s.heap z TI TO .none) (hTI : IsPair s.heap TI (.ref i1) (.ref i2)) (hTO : IsPair s.heap TO a b)
    (h1 : Kit t s.heap i1 l1 k1) (h2 : Kit u s.heap i2 l2 k2) (hl1 : Ksq t s.heap l1 xs) (hl2 : Ksq u s.heap l2 ys) (hx : xs[k1]? = some x) (hy : ys[k2]? = some y)
    (hQ : ∀ h', IsZip h' z TI TO (rawInt s.heap.objs.size) → IsPair h' TO x y → Kit t h' i1 l1 (k1 + 1) → Kit u h' i2 l2 (k2 + 1) → IsPair h' s.heap.objs.size x y → h'.objs.size = s.heap.objs.size + 1 →
      (∀ c o, c ≠ z → c ≠ TO → c ≠ i1 → c ≠ i2 → s.heap.get? c = some o → h'.get? c = some o) → Q (.ref s.heap.objs.size) { s with heap := h' }) :
    wpAny (model prog w) A (Builtin.«zip.__next__» ⟨[.ref z], []⟩) (fun fin s' => ∃ v, fin = .done (.ret v) ∧ Q v s') E s := by
  show wpAny _ _ (field (.ref z) 2 >>= _) _ _ _
  refine wpAny_bind (wpAny_field hz rfl (x := .bool false) rfl ?_)
  show wpAny _ _ (field (.ref z) 3 >>= _) _ _ _
  refine wpAny_bind (wpAny_field hz rfl (x := .ref TI) rfl (wpAny_bind (wpAny_seqItems hTI rfl ?_)))
  show wpAny _ _ (Builtin.SmallTypes.ownedTupleIsFree (.ref z) >>= _) _ _ _
  refine wpAny_bind ?_
  unfold Builtin.SmallTypes.ownedTupleIsFree
  refine wpAny_bind (wpAny_field hz rfl (x := .none) rfl (wpAny_pure ?_))
  simp only [if_true]
  refine wpAny_bind (wpAny_rule (wpAny_bind (wpAny_field hz rfl (x := .ref TO) rfl (wpAny_bind (wpAny_setField_rec hz (by simp) fun g1 z1 s1 => ?_)))))
  replace z1 : IsZip g1 z TI TO .ellipsis := z1
  refine wpAny_bind ?_
  simp only [List.zipIdx_cons, List.zipIdx_nil, List.forIn_cons, List.forIn_nil]
  refine wpAny_bind (wpAny_bind (wpAny_onRaise ?_))
  show wpAny _ _ (Builtin.SmallTypes.nextOf (.ref i1) >>= _) _ _ _
  refine wpAny_bind (knext_item (h1.ext s1.extBut D.i1z) (hl1.ext s1.extBut D.l1z) hx fun g2 h12 s2 => wpAny_pure ?_)
  have p2 : IsPair g2 TO a b := s2.extBut _ _ D.TOi1 (s1.extBut _ _ D.TOz hTO)
  refine wpAny_bind (wpAny_seqItems p2 rfl (wpAny_bind (wpAny_updateSeq_pair p2 fun g3 p3 s3 => ?_)))
  replace p3 : IsPair g3 TO x b := p3
  refine wpAny_bind (wpAny_letGo (wpAny_pure (wpAny_bind (wpAny_bind (wpAny_onRaise ?_)))))
  show wpAny _ _ (Builtin.SmallTypes.nextOf (.ref i2) >>= _) _ _ _
  refine wpAny_bind (knext_item (((h2.ext s1.extBut D.i2z).ext s2.extBut D.i12.symm).ext s3.extBut D.TOi2.symm) (((hl2.ext s1.extBut D.l2z).ext s2.extBut D.l2i1).ext s3.extBut D.l2TO) hy fun g4 h24 s4 => wpAny_pure ?_)
  have p4 : IsPair g4 TO x b := s4.extBut _ _ D.TOi2 p3
  refine wpAny_bind (wpAny_seqItems p4 rfl (wpAny_bind (wpAny_updateSeq_pair p4 fun g5 p5 s5 => ?_)))
  replace p5 : IsPair g5 TO x y := p5
  refine wpAny_bind (wpAny_letGo (wpAny_pure (wpAny_pure (wpAny_bind (wpAny_seqItems p5 rfl (wpAny_bind (wpAny_newTuple ?_)))))))
  have hsz : g5.objs.size = s.heap.objs.size := by rw [s5.1, s4.1, s3.1, s2.1, s1.1]
  have z5 : IsZip g5 z TI TO .ellipsis := s5.extBut _ _ D.TOz.symm (s4.extBut _ _ D.i2z.symm (s3.extBut _ _ D.TOz.symm (s2.extBut _ _ D.i1z.symm z1)))
  have k5 : ∀ c o, c ≠ z → c ≠ TO → c ≠ i1 → c ≠ i2 → s.heap.get? c = some o → g5.get? c = some o := fun c o c1 c2 c3 c4 e =>
    s5.extBut _ _ c2 (s4.extBut _ _ c4 (s3.extBut _ _ c2 (s2.extBut _ _ c3 (s1.extBut _ _ c1 e))))
  have h15 : Kit t g5 i1 l1 (k1 + 1) := ((h12.ext s3.extBut D.TOi1.symm).ext s4.extBut D.i12).ext s5.extBut D.TOi1.symm
  have h25 : Kit u g5 i2 l2 (k2 + 1) := h24.ext s5.extBut D.TOi2.symm
  have zl : z < g5.objs.size := Heap.lt_size z5
  show wpAny _ _ (Builtin.SmallTypes.ownedTupleHandOut (.ref z) (.ref g5.objs.size) >>= _) _ _ _
  refine wpAny_bind ?_
  unfold Builtin.SmallTypes.ownedTupleHandOut
  have z6 : IsZip (g5.push { cls := .type "tuple", data := .seq #[x, y] }) z TI TO .ellipsis := Heap.get?_push_of_some _ z5
  refine wpAny_bind (wpAny_setField_rec z6 (by simp) fun g7 z7 s7 => ?_)
  replace z7 : IsZip g7 z TI TO (rawInt g5.objs.size) := z7
  refine wpAny_setField_rec z7 (by simp) fun g8 z8 s8 => ?_
  replace z8 : IsZip g8 z TI TO (rawInt g5.objs.size) := z8
  have up : ∀ c o, c ≠ z → g5.get? c = some o → g8.get? c = some o := fun c o c1 e => s8.extBut _ _ c1 (s7.extBut _ _ c1 (Heap.get?_push_of_some _ e))
  have T8 : IsPair g8 g5.objs.size x y := s8.extBut _ _ (Nat.ne_of_gt zl) (s7.extBut _ _ (Nat.ne_of_gt zl) (Heap.get?_push_size _ rfl))
  have sz8 : g8.objs.size = g5.objs.size + 1 := by rw [s8.1, s7.1, Heap.size_push]
  rw [hsz] at z8 T8 sz8
  refine wpAny_pure ⟨_, rfl, ?_⟩
  show Q (.ref g5.objs.size) _
  rw [hsz]
  exact hQ g8 z8 (up _ _ D.TOz p5) (h15.at fun o e => up _ o D.i1z e) (h25.at fun o e => up _ o D.i2z e) T8 sz8 fun c o c1 c2 c3 c4 e => up c o c1 (k5 c o c1 c2 c3 c4 e)
theorem kzip_end {t u : Bool} {z TI TO i1 i2 l1 l2 : Addr} {k1 k2 : Nat} {xs ys : Array Value} {a b : Value} {Q : Fin → Shared → Prop} (hh : A.handled = none) (D : ZipApart z TI TO i1 i2 l1 l2)
    (hz : IsZip s.heap z TI TO .none) (hTI : IsPair s.heap TI (.ref i1) (.ref i2)) (hTO : IsPair s.heap TO a b)
    (h1 : Kit t s.heap i1 l1 k1) (h2 : Kit u s.heap i2 l2 k2) (hl1 : Ksq t s.heap l1 xs) (hl2 : Ksq u s.heap l2 ys) (hend : xs[k1]? = none ∨ ys[k2]? = none)
    (hE : ∀ h' e, (∀ c o, c ≠ z → c ≠ TO → c ≠ i1 → c ≠ i2 → s.heap.get? c = some o → h'.get? c = some o) → (∃ o, h'.get? e = some o ∧ o.cls = .type "StopIteration") → E (.ref e) { s with heap := h' }) :
    wpAny (model prog w) A (Builtin.«zip.__next__» ⟨[.ref z], []⟩) Q E s := by
  show wpAny _ _ (field (.ref z) 2 >>= _) _ _ _
  refine wpAny_bind (wpAny_field hz rfl (x := .bool false) rfl ?_)
  show wpAny _ _ (field (.ref z) 3 >>= _) _ _ _
  refine wpAny_bind (wpAny_field hz rfl (x := .ref TI) rfl (wpAny_bind (wpAny_seqItems hTI rfl ?_)))
  show wpAny _ _ (Builtin.SmallTypes.ownedTupleIsFree (.ref z) >>= _) _ _ _
  refine wpAny_bind ?_
  unfold Builtin.SmallTypes.ownedTupleIsFree
  refine wpAny_bind (wpAny_field hz rfl (x := .none) rfl (wpAny_pure ?_))
  simp only [if_true]
  refine wpAny_bind (wpAny_rule (wpAny_bind (wpAny_field hz rfl (x := .ref TO) rfl (wpAny_bind (wpAny_setField_rec hz (by simp) fun g1 z1 s1 => ?_)))))
  replace z1 : IsZip g1 z TI TO .ellipsis := z1
  refine wpAny_bind ?_
  simp only [List.zipIdx_cons, List.zipIdx_nil, List.forIn_cons, List.forIn_nil]
  refine wpAny_bind (wpAny_bind (wpAny_onRaise ?_))
  show wpAny _ _ (Builtin.SmallTypes.nextOf (.ref i1) >>= _) _ _ _
  cases hx : xs[k1]? with
  | none =>
    refine wpAny_bind (knext_end hh (h1.ext s1.extBut D.i1z) (hl1.ext s1.extBut D.l1z) hx fun g2 e s2 he => ?_)
    obtain ⟨oe, hoe, hce⟩ := he
    have z2 : IsZip g2 z TI TO .ellipsis := s2 _ _ D.i1z.symm z1
    have hez : e ≠ z := fun x => by subst x; rw [z2] at hoe; cases hoe; simp at hce
    refine wpAny_setField_rec z2 (by simp) fun g3 _ s3 => hE g3 e (fun c o c1 _ c3 _ x => s3.extBut _ _ c1 (s2 _ _ c3 (s1.extBut _ _ c1 x))) ⟨oe, s3.extBut _ _ hez hoe, hce⟩
  | some x =>
    have hy : ys[k2]? = none := by
      rcases hend with h | h
      · rw [hx] at h; cases h
      · exact h
    refine wpAny_bind (knext_item (h1.ext s1.extBut D.i1z) (hl1.ext s1.extBut D.l1z) hx fun g2 h12 s2 => wpAny_pure ?_)
    have p2 : IsPair g2 TO a b := s2.extBut _ _ D.TOi1 (s1.extBut _ _ D.TOz hTO)
    refine wpAny_bind (wpAny_seqItems p2 rfl (wpAny_bind (wpAny_updateSeq_pair p2 fun g3 p3 s3 => ?_)))
    refine wpAny_bind (wpAny_letGo (wpAny_pure (wpAny_bind (wpAny_bind (wpAny_onRaise ?_)))))
    show wpAny _ _ (Builtin.SmallTypes.nextOf (.ref i2) >>= _) _ _ _
    refine wpAny_bind (knext_end hh (((h2.ext s1.extBut D.i2z).ext s2.extBut D.i12.symm).ext s3.extBut D.TOi2.symm) (((hl2.ext s1.extBut D.l2z).ext s2.extBut D.l2i1).ext s3.extBut D.l2TO) hy fun g4 e s4 he => ?_)
    obtain ⟨oe, hoe, hce⟩ := he
    have z4 : IsZip g4 z TI TO .ellipsis := s4 _ _ D.i2z.symm (s3.extBut _ _ D.TOz.symm (s2.extBut _ _ D.i1z.symm z1))
    have hez : e ≠ z := fun x => by subst x; rw [z4] at hoe; cases hoe; simp at hce
    refine wpAny_setField_rec z4 (by simp) fun g5 _ s5 => hE g5 e (fun c o c1 c2 c3 c4 x => s5.extBut _ _ c1 (s4 _ _ c4 (s3.extBut _ _ c2 (s2.extBut _ _ c3 (s1.extBut _ _ c1 x))))) ⟨oe, s5.extBut _ _ hez hoe, hce⟩
theorem kzip_pyNext_item {t u : Bool} {z TI TO i1 i2 l1 l2 : Addr} {k1 k2 : Nat} {xs ys : Array Value} {x y a b : Value} {Q : Option Value → Shared → Prop} (D : ZipApart z TI TO i1 i2 l1 l2)
    (hz : IsZip s.heap z TI TO .none) (hTI : IsPair s.heap TI (.ref i1) (.ref i2)) (hTO : IsPair s.heap TO a b)
    (h1 : Kit t s.heap i1 l1 k1) (h2 : Kit u s.heap i2 l2 k2) (hl1 : Ksq t s.heap l1 xs) (hl2 : Ksq u s.heap l2 ys) (hx : xs[k1]? = some x) (hy : ys[k2]? = some y)
    (hQ : ∀ h', IsZip h' z TI TO (rawInt s.heap.objs.size) → IsPair h' TO x y → Kit t h' i1 l1 (k1 + 1) → Kit u h' i2 l2 (k2 + 1) → IsPair h' s.heap.objs.size x y → h'.objs.size = s.heap.objs.size + 1 →
      (∀ c o, c ≠ z → c ≠ TO → c ≠ i1 → c ≠ i2 → s.heap.get? c = some o → h'.get? c = some o) → Q (some (.ref s.heap.objs.size)) { s with heap := h' }) :
    wpAny (model prog w) A (pyNext (.ref z)) Q E s := by
  have hT : s.TypeIs (.ref z) "zip" := ⟨_, hz, rfl⟩
  unfold pyNext
  exact wpAny_bind (wpAny_attempt (wpAny_callSpecial?_slot (name := Str.ofString "__next__") hT F.slot_zip_next
    (wpAny_call_entry F.slot_zip_next hT F.entry_zip_next
      (kzip_item D hz hTI hTO h1 h2 hl1 hl2 hx hy fun h' a1 a2 a3 a4 a5 a6 a7 => wpAny_pure (hQ h' a1 a2 a3 a4 a5 a6 a7)) (F.args_zip_next_1 _))))
theorem kzip_pyNext_end {t u : Bool} {z TI TO i1 i2 l1 l2 : Addr} {k1 k2 : Nat} {xs ys : Array Value} {a b : Value} {Q : Option Value → Shared → Prop} (hh : A.handled = none) (D : ZipApart z TI TO i1 i2 l1 l2)
    (hz : IsZip s.heap z TI TO .none) (hTI : IsPair s.heap TI (.ref i1) (.ref i2)) (hTO : IsPair s.heap TO a b)
    (h1 : Kit t s.heap i1 l1 k1) (h2 : Kit u s.heap i2 l2 k2) (hl1 : Ksq t s.heap l1 xs) (hl2 : Ksq u s.heap l2 ys) (hend : xs[k1]? = none ∨ ys[k2]? = none)
    (hQ : ∀ h', (∀ c o, c ≠ z → c ≠ TO → c ≠ i1 → c ≠ i2 → s.heap.get? c = some o → h'.get? c = some o) → Q none { s with heap := h' }) : wpAny (model prog w) A (pyNext (.ref z)) Q E s := by
  have hT : s.TypeIs (.ref z) "zip" := ⟨_, hz, rfl⟩
  unfold pyNext
  refine wpAny_bind (wpAny_attempt (wpAny_callSpecial?_slot (name := Str.ofString "__next__") hT F.slot_zip_next
    (wpAny_call_entry F.slot_zip_next hT F.entry_zip_next (kzip_end hh D hz hTI hTO h1 h2 hl1 hl2 hend fun h' e hk he => ?_) (F.args_zip_next_1 _))))
  obtain ⟨o, ho, hc⟩ := he
  exact wpAny_bind (wpAny_isInstance (T := "StopIteration") (b := true) ⟨o, ho, hc⟩ isSubtype_stop (wpAny_pure (hQ _ hk)))
/-- zip(a tuple, a list) -/
abbrev zG1 (h : Heap) (l1 : Addr) : Heap := h.push { cls := .type "tuple_iterator", data := .fields #[.ref l1, .int 0 0] }
abbrev zG2 (h : Heap) (l1 l2 : Addr) : Heap := (zG1 h l1).push { cls := .type "list_iterator", data := .fields #[.ref l2, .int 0 0] }
abbrev zG3 (h : Heap) (l1 l2 : Addr) : Heap := (zG2 h l1 l2).push { cls := .type "tuple", data := .seq #[.ref h.objs.size, .ref (zG1 h l1).objs.size] }
abbrev zG4 (h : Heap) (l1 l2 : Addr) : Heap := (zG3 h l1 l2).push { cls := .type "tuple", data := .seq #[.none, .none] }
abbrev zG5 (h : Heap) (l1 l2 : Addr) : Heap := (zG4 h l1 l2).push { cls := .type "zip", data := .fields #[.none, .bool false, .bool false, .ref (zG2 h l1 l2).objs.size, .ref (zG3 h l1 l2).objs.size] }
theorem meets_zipTL (l1 l2 : Addr) (xs ys : Array Value) :
    Meets (Builtin.«zip.__new__» ⟨[.type "zip", .ref l1, .ref l2], []⟩) (fun _ R s => s.heap.IsTuple l1 xs ∧ s.heap.IsList l2 ys ∧ R (.ok (.ret (.ref (zG4 s.heap l1 l2).objs.size))) { s with heap := zG5 s.heap l1 l2 }) :=
  .of_wp fun prog w A R s h => by
    obtain ⟨hp, g, d, tk, os⟩ := s; obtain ⟨hl1, hl2, h⟩ := h
    have hsub := sub_zip
    have hL1 : Heap.IsTuple (Shared.heap ⟨hp, g, d, tk, os⟩) l1 xs := hl1
    have hL2 : Heap.IsList (Shared.heap ⟨hp.push { cls := .type "tuple_iterator", data := .fields #[.ref l1, .int 0 0] }, g, d, tk, os⟩) l2 ys := Heap.IsList.push hl2 _
    wp_walk using wpAny_pyIter_tuple hL1, wpAny_pyIter_list hL2
    exact ⟨_, rfl, h⟩
theorem call_zipTL {l1 l2 : Addr} {xs ys : Array Value} {Q : Value → Shared → Prop} (hl1 : s.heap.IsTuple l1 xs) (hl2 : s.heap.IsList l2 ys)
    (h : ∀ h', IsZip h' (s.heap.objs.size + 4) (s.heap.objs.size + 2) (s.heap.objs.size + 3) .none → IsPair h' (s.heap.objs.size + 2) (.ref s.heap.objs.size) (.ref (s.heap.objs.size + 1)) →
      IsPair h' (s.heap.objs.size + 3) .none .none → h'.IsTupleIter s.heap.objs.size l1 0 → h'.IsListIter (s.heap.objs.size + 1) l2 0 → h'.objs.size = s.heap.objs.size + 5 →
      (∀ c o, s.heap.get? c = some o → h'.get? c = some o) → Q (.ref (s.heap.objs.size + 4)) { s with heap := h' }) :
    wpAny (model prog w) A (call (.type "zip") [.ref l1, .ref l2]) Q E s := by
  refine callType_new F.called_zip (by decide) (F.typeCall_zip_2 _ _) (F.newCall_zip_2 _ _) (fun obj => F.args_object_init_3 obj _ _) F.entry_zip_new (meets_zipTL l1 l2 xs ys) ⟨hl1, hl2, ?_⟩
  have z1 : (zG1 s.heap l1).objs.size = s.heap.objs.size + 1 := Heap.size_push ..
  have z2 : (zG2 s.heap l1 l2).objs.size = s.heap.objs.size + 2 := by rw [Heap.size_push, z1]
  have z3 : (zG3 s.heap l1 l2).objs.size = s.heap.objs.size + 3 := by rw [Heap.size_push, z2]
  have z4 : (zG4 s.heap l1 l2).objs.size = s.heap.objs.size + 4 := by rw [Heap.size_push, z3]
  have z5 : (zG5 s.heap l1 l2).objs.size = s.heap.objs.size + 5 := by rw [Heap.size_push, z4]
  have g5 : (zG5 s.heap l1 l2).get? (zG4 s.heap l1 l2).objs.size = some _ := Heap.get?_push_size _ rfl
  have g4 : (zG5 s.heap l1 l2).get? (zG3 s.heap l1 l2).objs.size = some _ := Heap.get?_push_of_some _ (Heap.get?_push_size _ rfl)
  have g3 : (zG5 s.heap l1 l2).get? (zG2 s.heap l1 l2).objs.size = some _ := Heap.get?_push_of_some _ (Heap.get?_push_of_some _ (Heap.get?_push_size _ rfl))
  have g2 : (zG5 s.heap l1 l2).get? (zG1 s.heap l1).objs.size = some _ := Heap.get?_push_of_some _ (Heap.get?_push_of_some _ (Heap.get?_push_of_some _ (Heap.get?_push_size _ rfl)))
  have g1 : (zG5 s.heap l1 l2).get? s.heap.objs.size = some _ := Heap.get?_push_of_some _ (Heap.get?_push_of_some _ (Heap.get?_push_of_some _ (Heap.get?_push_of_some _ (Heap.get?_push_size _ rfl))))
  show _ ∧ _
  rw [z2, z3, z4] at g5
  rw [z1, z2] at g3
  rw [z3] at g4
  rw [z1] at g2
  rw [z4]
  exact ⟨⟨_, g5, rfl⟩, h _ g5 g3 g4 ⟨_, g1, rfl, rfl⟩ ⟨_, g2, rfl, rfl⟩ z5 fun c o x =>
    Heap.get?_push_of_some _ (Heap.get?_push_of_some _ (Heap.get?_push_of_some _ (Heap.get?_push_of_some _ (Heap.get?_push_of_some _ x))))⟩
end
/-- the tuple at a, the list at b, the items in new pairs -/
def ItzM (K : PySem.W.Frag) (a b : Addr) : It :=
  ⟨fun i H => ∃ (xs ys : List V) (x y : V), SqT K H a xs ∧ SqL K H b ys ∧ xs[i]? = some x ∧ ys[i]? = some y,
    fun i H v H' => ∃ T x y, v = .ref T ∧ H T = none ∧ H' = upd H T (.tup [x, y]) ∧ (∀ xs, SqT K H a xs → xs[i]? = some x) ∧ ∀ ys, SqL K H b ys → ys[i]? = some y,
    fun i H => ∃ xs ys : List V, SqT K H a xs ∧ SqL K H b ys ∧ (xs.length ≤ i ∨ ys.length ≤ i)⟩
theorem five {c z TI TO i1 i2 : Addr} (h : c ∈ [z, TI, TO, i1, i2]) : c = z ∨ c = TI ∨ c = TO ∨ c = i1 ∨ c = i2 := by simpa using h
theorem turn_zipM {P : Program} {w : World} {K : PySem.W.Frag} {elts : List Expr} {kk : Nat} {tpos : Pos} {a b z TI TO i1 i2 : Addr} (D : ZipApart z TI TO i1 i2 a b) :
    Turn P w K (.Tuple elts kk tpos) (ItzM K a b) [z, TI, TO, i1, i2] z (fun i h => IsZip h z TI TO .none ∧ IsPair h TI (.ref i1) (.ref i2) ∧ (∃ x y, IsPair h TO x y) ∧ Kit true h i1 a i ∧ Kit false h i2 b i) where
  mem := by simp
  obj := fun i h st c hc => by
    obtain ⟨hz, hTI, ⟨x, y, hTO⟩, h1, h2⟩ := st
    obtain ⟨o1, e1, d1⟩ := h1.obj
    obtain ⟨o2, e2, d2⟩ := h2.obj
    rcases five hc with q | q | q | q | q <;> subst q
    · exact ⟨_, hz, fun v q => nomatch q⟩
    · exact ⟨_, hTI, fun v q => nomatch q⟩
    · exact ⟨_, hTO, fun v q => nomatch q⟩
    · exact ⟨o1, e1, fun v q => by rw [d1] at q; cases q⟩
    · exact ⟨o2, e2, fun v q => by rw [d2] at q; cases q⟩
  keep := fun i h h' st k => by
    obtain ⟨hz, hTI, ⟨x, y, hTO⟩, h1, h2⟩ := st
    exact ⟨k z (by simp) _ hz, k TI (by simp) _ hTI, ⟨x, y, k TO (by simp) _ hTO⟩, h1.at fun o q => k i1 (by simp) o q, h2.at fun o q => k i2 (by simp) o q⟩
  item := by
    intro X hP hw hK hc i pins s σ H E I hf st hg
    subst hP hw hK
    obtain ⟨hz, hTI, ⟨x0, y0, hTO⟩, h1, h2⟩ := st
    obtain ⟨xs, ys, x, y, hqx, hqy, hx, hy⟩ := hg
    obtain ⟨its, rv, p, _⟩ := I.tuple hqx
    obtain ⟨its2, rv2, p2, _⟩ := I.list hqy
    obtain ⟨u, hu, ru⟩ := rv.get hx
    obtain ⟨u2, hu2, ru2⟩ := rv2.get hy
    have hzl : z < s.heap.objs.size := Heap.lt_size hz
    have out : ∀ c : Addr, c ∉ [z, TI, TO, i1, i2] → c ≠ z ∧ c ≠ TO ∧ c ≠ i1 ∧ c ≠ i2 := fun c h => ⟨fun q => h (by simp [q]), fun q => h (by simp [q]), fun q => h (by simp [q]), fun q => h (by simp [q])⟩
    refine kzip_pyNext_item D hz hTI hTO h1 h2 p p2.isList (x := u) (y := u2) (by simpa using hu) (by simpa using hu2) fun h' z' TO' h1' h2' hT hsz hk => ?_
    refine ⟨_, rfl, wpAny_letOwnedTupleGo_zip (s := { s with heap := h' }) z' fun h'' z'' sb => ?_⟩
    have hT2 : h''.get? s.heap.objs.size = some { cls := .type "tuple", data := .seq #[u, u2] } := (sb.2 _ (Nat.ne_of_gt hzl)).trans hT
    have new : ObjOk X.prog X.w (upd H s.heap.objs.size (.tup [x, y])) h'' s.heap.objs.size (.tup [x, y]) :=
      ⟨by show 2 ≤ sizeLine; decide, [u, u2], .cons ru (.cons ru2 .nil), ⟨_, hT2, rfl, _, rfl⟩⟩
    have I1 : Inv X pins σ (upd H s.heap.objs.size (.tup [x, y])) { s with heap := h'' } :=
      I.turnedNew (t' := s.toks) (ch := [z, TI, TO, i1, i2]) (fun c o hb q => (sb.2 c (out c hb).1).trans (hk c o (out c hb).1 (out c hb).2.1 (out c hb).2.2.1 (out c hb).2.2.2 q)) hf (Nat.le_refl _) new
    obtain ⟨_, l1, _⟩ := h1.obj
    obtain ⟨_, l2, _⟩ := h2.obj
    refine ⟨.ref s.heap.objs.size, _, I1, rfl, ⟨_, x, y, rfl, I.hok.fresh (Nat.le_refl _), rfl, fun l hl => by rw [I.tuple_inj hl hqx]; exact hx, fun l hl => by rw [I.list_inj hl hqy]; exact hy⟩, ⟨z'', ?_, ⟨u, u2, ?_⟩, ?_, ?_⟩, fun c hcm => ?_⟩
    · exact (sb.2 _ D.TIz).trans (hk _ _ D.TIz D.TITO D.TIi1 D.TIi2 hTI)
    · exact (sb.2 _ D.TOz).trans TO'
    · exact h1'.at fun o q => (sb.2 _ D.i1z).trans q
    · exact h2'.at fun o q => (sb.2 _ D.i2z).trans q
    · have hlt : c < s.heap.objs.size := by
        rcases five hcm with q | q | q | q | q <;> subst q
        · exact hzl
        · exact Heap.lt_size hTI
        · exact Heap.lt_size hTO
        · exact Heap.lt_size l1
        · exact Heap.lt_size l2
      rw [upd_ne (Nat.ne_of_lt hlt)]
      exact (hf c hcm).1
  done := by
    intro X hP hw hK hc i pins s σ H E I hf st hg
    subst hP hw hK
    obtain ⟨hz, hTI, ⟨x0, y0, hTO⟩, h1, h2⟩ := st
    obtain ⟨xs, ys, hqx, hqy, hend⟩ := hg
    obtain ⟨its, rv, p, _⟩ := I.tuple hqx
    obtain ⟨its2, rv2, p2, _⟩ := I.list hqy
    have l1 := rv.length
    have l2 := rv2.length
    have he : its.toArray[i]? = none ∨ its2.toArray[i]? = none := by
      rcases hend with q | q
      · exact .inl (by simp; omega)
      · exact .inr (by simp; omega)
    have out : ∀ c : Addr, c ∉ [z, TI, TO, i1, i2] → c ≠ z ∧ c ≠ TO ∧ c ≠ i1 ∧ c ≠ i2 := fun c h => ⟨fun q => h (by simp [q]), fun q => h (by simp [q]), fun q => h (by simp [q]), fun q => h (by simp [q])⟩
    exact kzip_pyNext_end (I.ok.hd hc) D hz hTI hTO h1 h2 p p2.isList he fun h' hk => ⟨rfl, I.turnedL (t' := s.toks) (ch := [z, TI, TO, i1, i2]) (fun c o hb q =>
      hk c o (out c hb).1 (out c hb).2.1 (out c hb).2.2.1 (out c hb).2.2.2 q) hf⟩
  self := fun A i s Q E st h => wpAny_pyIter_zip st.1 h
def iZipM (K : PySem.W.Frag) (ta : TA) : TI := fun σ H R => ta σ H fun vs H1 => ∃ a b xs ys, vs = [.ref a, .ref b] ∧ SqT K H1 a xs ∧ SqL K H1 b ys ∧ R (ItzM K a b) H1
theorem pi_zipM {X : Cx} {e e2 : Expr} {ta : TA} {p pos tpos : Pos} {elts : List Expr} {kk : Nat} (hg : Gl X "zip") (hm : X.mg "zip" = none) (ha : PA X [e, e2] ta)
    (hs : starEach [e, e2] X.env = (false, eval e X.env) :: starEach [e2] X.env := by rfl) (hpl : (backTo pos (starEach [e2] X.env)).any (·.1) = false := by rfl) :
    PI X (.Tuple elts kk tpos) (.Call (.Name "zip" p) [e, e2] [] pos) (iZipM X.K ta) := by
  refine ⟨fun pins s σ H R I h => ?_⟩
  refine Call_ (ld_blt I hg hm PyProof.Rows.boot_zip (PyProof.Rows.callWith_type1 (thn (ha.run pos pins s σ H _ I h) fun us s1 ⟨vs, H1, I1, r1, q1⟩ => ?_) hs hpl))
  obtain ⟨a, b, xs, ys, ex, hqx, hqy, q⟩ := q1
  subst ex
  cases r1 with
  | cons r rr =>
    cases rr with
    | cons r' rr =>
      cases rr
      cases r
      cases r'
      obtain ⟨its, rv, p1, _⟩ := I1.tuple hqx
      obtain ⟨its2, rv2, p2, _⟩ := I1.list hqy
      have lb : b < s1.heap.objs.size := p2.lt
      obtain ⟨o1, ho1, _⟩ := id p1
      refine call_zipTL (show s1.heap.IsTuple a its.toArray from p1) p2.isList fun h' hz hTI hTO h1 h2 hsz hk => wpAny_pyIter_zip hz ?_
      have I2 : Inv X pins σ H1 { s1 with heap := h' } := I1.kept (t' := s1.toks) hk
      refine ⟨s1.heap.objs.size + 4, [s1.heap.objs.size + 4, s1.heap.objs.size + 2, s1.heap.objs.size + 3, s1.heap.objs.size, s1.heap.objs.size + 1], _, _, H1, rfl, I2, turn_zipM (PySem.W.ktu_apart s1.heap.objs.size a b (Heap.lt_size ho1) lb), ⟨hz, hTI, ⟨_, _, hTO⟩, h1, h2⟩, fun c hcm => ?_, q⟩
      have hle : s1.heap.objs.size ≤ c := by
        rcases five hcm with q | q | q | q | q <;> subst q
        · exact Nat.le_add_right _ _
        · exact Nat.le_add_right _ _
        · exact Nat.le_add_right _ _
        · exact Nat.le_refl _
        · exact Nat.le_add_right _ _
      exact I1.fpOk hle (I1.hok.fresh hle)
section
variable {X : Cx} {E : XK} {k : Nat} {a b : Expr} {pos : Pos}
def wZipM (wr : DTA) : DTI := fun δ M Q => wr δ M fun ds M1 => match ds with | [.tup xs, .lst ys] => Q (zipD xs ys) M1 | _ => False
theorem di_zipM {wr : DTA} {p tpos : Pos} {elts : List Expr} {kk : Nat} (hm : X.mg "zip" = none) (ha : DA X E [a, b] wr) (hg : Gl X "zip" := by rfl) (hs : starEach [a, b] X.env = (false, eval a X.env) :: starEach [b] X.env := by rfl) (hpl : (backTo pos (starEach [b] X.env)).any (·.1) = false := by rfl) :
    DI X E (.Tuple elts kk tpos) (.Call (.Name "zip" p) [a, b] [] pos) (wZipM wr) := by
  refine pi_mono (pi_zipM hg hm ha hs hpl) fun σ H R ⟨F, δ, M, Q, sm, lx, hw, lk⟩ => ?_
  refine ⟨F, δ, M, _, sm, lx, hw, fun vs H1 ds M1 r1 w1 e1 q1 => ?_⟩
  match ds, r1, q1 with
  | [.tup xs, .lst ys], .cons (.tup (a := p) (xs := us) h1 a1) (.cons (.lst (a := q) (xs := zs) h2 n2 a2) .nil), q1 =>
    refine ⟨p, q, us, zs, rfl, h1, .of h2, lk _ H1 _ M1 w1 ?_ e1 q1⟩
    intro F' M' H' hF wd e
    have s1 : SqT X.K H' p us := SqT.ext w1 e h1
    have s2 : SqL X.K H' q zs := .of (e.keep _ _ h2 (.inr (bar_none n2)))
    refine ⟨fun i d hd => ?_, fun i hi => ⟨us, zs, s1, s2, by rw [zipD_len] at hi; rw [a1.length, a2.length]; omega⟩⟩
    obtain ⟨x, y, hx, hy, rfl⟩ := zipD_get hd
    obtain ⟨vx, hvx, rx⟩ := a1.get hx
    obtain ⟨vy, hvy, ry⟩ := a2.get hy
    refine ⟨⟨us, zs, vx, vy, s1, s2, hvx, hvy⟩, fun v H2 ⟨T, x', y', ev, nT, eH, fx, fy⟩ => ?_⟩
    subst ev; subst eH
    have : x' = vx := Option.some.inj ((fx us s1).symm.trans hvx)
    subst this
    have : y' = vy := Option.some.inj ((fy zs s2).symm.trans hvy)
    subst this
    exact ⟨.newTup wd nT (.cons (Rep.extF w1 e hF x _ rx) (.cons (Rep.extF w1 e hF y _ ry) .nil)), wd.laid nT, ext_laid nT⟩
end
theorem loose_int {lv : List (Str × PySem.W.WData)} {mg : Str → Option Value} {h : Heap} {x : Str} {i : Int} (V : PySem.W.LooseAre lv mg h) (hx : (x, PySem.W.WData.int i) ∈ lv) : IntAt mg x i := by
  obtain ⟨v, a, b⟩ := V.val _ hx
  obtain ⟨t, rfl, _⟩ := PySem.W.readsW_int_inv b
  exact ⟨t, a⟩
end Bx

set_option Elab.async false
set_option linter.all false
set_option maxRecDepth 100000
set_option maxHeartbeats 2000000
namespace Bx
open PySem PySem.Spec L2
open PyProof.Rows hiding St
/-! ### raise X('m') -/
/-- the own exception class named x stands, below ValueError; ex x is its value -/
def ErrAt (K : PySem.W.Frag) (mg : Str → Option Value) (ex : Str → Value) (x : Str) : Prop := ∃ (C : Addr) (bmB : List Value) (B newId initId : String), ExcBaseFacts B newId initId bmB ∧ PySem.W.excIn K C bmB newId = true ∧ mg x = some (.ref C) ∧ ex x = .ref C ∧
  PySem.W.keepIn K (.ref C) = true ∧ PySem.W.subIn K (.ref C) (.type "BaseException") = some true ∧ PySem.W.typeIn K (.ref C) = some (.type "type")
def exOf (mg : Str → Option Value) (x : Str) : Value := (mg x).getD .none
theorem err_mk {K : PySem.W.Frag} {h : Heap} {mg : Str → Option Value} {x : Str} {C : Addr} (X : K.In h) (G : h.Ns mainGlobals mg) (a : PySem.W.nsIn K mainGlobals x = some (some (.ref C)))
    (q : PySem.W.excIn K C [.type "ValueError", .type "Exception", .type "BaseException", .type "object"] "ValueError.__new__" = true) (k : PySem.W.keepIn K (.ref C) = true)
    (s : PySem.W.subIn K (.ref C) (.type "BaseException") = some true) (t : PySem.W.typeIn K (.ref C) = some (.type "type")) : ErrAt K mg (exOf mg) x := by
  have m := PySem.W.mg_of X G a
  exact ⟨C, _, _, _, _, PySem.F.excBase_ValueError, q, m, by unfold exOf; rw [m]; rfl, k, s, t⟩
def wRaise (c : Value) : DTS := fun _ δ M => δ.x c M
section
variable {X : Cx} {E : XK} {k : Nat} {pos pos' p p2 : Pos}
theorem ds_raise {ex : Str → Value} {x m : Str} {j : Nat} (hX : DX X E k) (F : ErrAt X.K X.mg ex x) (hg : Gl X x := by rfl) (hdb : (x == ("__debug__" : Str)) = false := by decide) :
    DS X E (.Raise (some (.Call (.Name x p) [.Constant (.str m) j p2] [] pos)) none pos') (wRaise (ex x)) := by
  obtain ⟨C, bmB, B, newId, initId, F, q, gC, eC, kC, s, t⟩ := F
  refine ps_mono (L2N.ps_raise hX.calm hX.tk (L2N.pmk_own F q gC kC (L2.raises_own s t) hg hdb)) fun Dh σ H ⟨F1, δ, M, Dd, sm, lx, ld, hw⟩ => ?_
  have hw : δ.x (ex x) M := hw
  rw [eC] at hw
  exact lx (.ref C) none H M sm.wd (.refl _ _ _) (.inl ⟨rfl, hw⟩)
end
end Bx

set_option Elab.async false
set_option linter.all false
set_option maxRecDepth 100000
set_option maxHeartbeats 2000000
namespace Bx
open PySem PySem.Spec L2
open PyProof.Rows hiding St
/-! ### sum, max, min, sorted of a list of ints -/
def wSum : DRC := fun ds M Q => match ds with | [d] => onO (sqL M d) fun es => onO (intsD es) fun ns => Q (.int ns.sum) M | _ => False
def wMax1 : DRC := fun ds M Q => match ds with | [d] => onO (sqL M d) fun es => onO (intsD es) fun ns => 0 < ns.length ∧ ∀ m, m ∈ ns → (∀ y, y ∈ ns → y ≤ m) → Q (.int m) M | _ => False
def wMin1 : DRC := fun ds M Q => match ds with | [d] => onO (sqL M d) fun es => onO (intsD es) fun ns => 0 < ns.length ∧ ∀ m, m ∈ ns → (∀ y, y ∈ ns → m ≤ y) → Q (.int m) M | _ => False
def wSorted : DRC := fun ds M Q => match ds with | [d] => onO (sqL M d) fun es => onO (intsD es) fun ns => ns.length < 64 ∧ ∀ ns' : List Int, ns'.Perm ns → ns'.Pairwise (· ≤ ·) → Q (.lst (ns'.map D.int)) M | _ => False
theorem ok_agg {K : PySem.W.Frag} {r : List V → Hp → VK → Prop} {w : DRC} {g : List Int → Mem → DK → Prop} (hw : ∀ d M Q, w [d] M Q → onO (sqL M d) fun es => onO (intsD es) fun ns => g ns M Q) (h1 : ∀ ds M Q, w ds M Q → ∃ d, ds = [d])
    (h : ∀ F M H a ns (Q : DK) (Q' : VK), Wd K F M H → SqL K H a (ns.map V.int) → g ns M Q → (∀ v H' d M', Rep K (Bar F M') H' v d → Wd K F M' H' → Ext F M H M' H' → Q d M' → Q' v H') → r [.ref a] H Q') : OkC K r w := by
  intro F M H vs ds Q Q' wd ra hq lk
  obtain ⟨d, rfl⟩ := h1 _ _ _ hq
  cases ra with
  | cons r1 r2 =>
    cases r2
    obtain ⟨es, hs, hq⟩ := onO_e (hw _ _ _ hq)
    obtain ⟨ns, hn, hq⟩ := onO_e hq
    obtain ⟨p, xs, rfl, hl, ra⟩ := r1.sqL wd hs
    have e := intsD_rep ra hn
    subst e
    exact h F M H p ns Q Q' wd hl hq lk
theorem one_of {w : List D → Prop} (h0 : ¬ w []) (h2 : ∀ a b r, ¬ w (a :: b :: r)) : ∀ ds, w ds → ∃ d, ds = [d]
  | [], h => (h0 h).elim
  | [d], _ => ⟨d, rfl⟩
  | a :: b :: r, h => (h2 a b r h).elim
section
variable {X : Cx} {E : XK} {k : Nat} {a b c e : Expr} {wa wb wc : DTE} {pos : Pos}
theorem de_sum {wr : DTA} {p : Pos} (hX : DX X E k) (hm : X.mg "sum" = none) (ha : DA X E [e] wr) (hg : Gl X "sum" := by rfl) (he : starEach [e] X.env = (false, eval e X.env) :: starEach [] X.env := by rfl) (hpl : (backTo pos (starEach [] X.env)).any (·.1) = false := by rfl) : DE X E (.Call (.Name "sum" p) [e] [] pos) (wCB wSum wr) :=
  de_cb (cr_sum hX.calm) (ok_agg (g := fun ns M Q => Q (.int ns.sum) M) (fun _ _ _ h => h) (fun ds M Q h => one_of (w := fun ds => wSum ds M Q) (fun z => z) (fun _ _ _ z => z) ds h)
    fun F M H a ns Q Q' wd hl q lk => ⟨a, ns, rfl, hl, lk _ H _ M (.int _) wd (.refl _ _ _) q⟩) hm ha (by decide +kernel) hg (by decide) (by decide) he hpl
theorem de_max1 {wr : DTA} {p : Pos} (hX : DX X E k) (hm : X.mg "max" = none) (ha : DA X E [e] wr) (hg : Gl X "max" := by rfl) (he : starEach [e] X.env = (false, eval e X.env) :: starEach [] X.env := by rfl) (hpl : (backTo pos (starEach [] X.env)).any (·.1) = false := by rfl) : DE X E (.Call (.Name "max" p) [e] [] pos) (wCB wMax1 wr) :=
  de_cb (cr_max hX.calm) (ok_agg (g := fun ns M Q => 0 < ns.length ∧ ∀ m, m ∈ ns → (∀ y, y ∈ ns → y ≤ m) → Q (.int m) M) (fun _ _ _ h => h) (fun ds M Q h => one_of (w := fun ds => wMax1 ds M Q) (fun z => z) (fun _ _ _ z => z) ds h)
    fun F M H a ns Q Q' wd hl q lk => ⟨a, ns, rfl, hl, q.1, fun m h1 h2 => lk _ H _ M (.int _) wd (.refl _ _ _) (q.2 m h1 h2)⟩) hm ha (by decide +kernel) hg (by decide) (by decide) he hpl
theorem de_min1 {wr : DTA} {p : Pos} (hX : DX X E k) (hm : X.mg "min" = none) (ha : DA X E [e] wr) (hg : Gl X "min" := by rfl) (he : starEach [e] X.env = (false, eval e X.env) :: starEach [] X.env := by rfl) (hpl : (backTo pos (starEach [] X.env)).any (·.1) = false := by rfl) : DE X E (.Call (.Name "min" p) [e] [] pos) (wCB wMin1 wr) :=
  de_cb (cr_min hX.calm) (ok_agg (g := fun ns M Q => 0 < ns.length ∧ ∀ m, m ∈ ns → (∀ y, y ∈ ns → m ≤ y) → Q (.int m) M) (fun _ _ _ h => h) (fun ds M Q h => one_of (w := fun ds => wMin1 ds M Q) (fun z => z) (fun _ _ _ z => z) ds h)
    fun F M H a ns Q Q' wd hl q lk => ⟨a, ns, rfl, hl, q.1, fun m h1 h2 => lk _ H _ M (.int _) wd (.refl _ _ _) (q.2 m h1 h2)⟩) hm ha (by decide +kernel) hg (by decide) (by decide) he hpl
theorem de_sorted {wr : DTA} {p : Pos} (hX : DX X E k) (hm : X.mg "sorted" = none) (ha : DA X E [e] wr) (hg : Gl X "sorted" := by rfl) (he : starEach [e] X.env = (false, eval e X.env) :: starEach [] X.env := by rfl) (hpl : (backTo pos (starEach [] X.env)).any (·.1) = false := by rfl) : DE X E (.Call (.Name "sorted" p) [e] [] pos) (wCB wSorted wr) :=
  de_cb cr_sorted (ok_agg (g := fun ns M Q => ns.length < 64 ∧ ∀ ns' : List Int, ns'.Perm ns → ns'.Pairwise (· ≤ ·) → Q (.lst (ns'.map D.int)) M) (fun _ _ _ h => h) (fun ds M Q h => one_of (w := fun ds => wSorted ds M Q) (fun z => z) (fun _ _ _ z => z) ds h)
    fun F M H a ns Q Q' wd hl q lk => ⟨a, ns, rfl, hl, q.1, fun ns' p h1 h2 hp => lk _ _ _ M (.newLst wd hp (repAll_ints ns')) (wd.laid hp) (ext_laid hp) (q.2 ns' h1 h2)⟩) hm ha (by decide +kernel) hg (by decide) (by decide) he hpl
end
end Bx

set_option Elab.async false
set_option linter.all false
set_option maxRecDepth 100000
namespace Bx
open PySem PySem.Spec L2
open PyProof.Rows hiding St
/-! ### the costs, plainly -/
def isWk (d : Int) : Bool := decide (5 ≤ d % 7)
def mx0 (x : Int) : Int := if x > 0 then x else 0
def wkTo (d : Int) : Int := (d + 1) / 7 * 2 + mx0 ((d + 1) % 7 - 5)
def Cl.e (c : Cl) (late : Bool) : Bool := match late with | true => c.e1 | false => c.e0
def Cl.s (c : Cl) (late : Bool) : Bool := match late with | true => c.s1 | false => c.s0
/-- counted: w a weekend, s struck -/
def Cl.cnt (c : Cl) (late w s : Bool) : Bool := (!w || c.e late) && !(s && c.s late)
def Cl.start (c : Cl) (l r : Int) : Int := match c.land with | true => l | false => r
def hit (ss : List Int) (d : Int) : Bool := ss.any fun z => z == d
def b1 (b : Bool) : Int := match b with | true => 1 | false => 0
/-- the day at which the free days are used up -/
def freeRun (c : Cl) (ss : List Int) : Nat → Int → Int → Int
  | 0, day, _ => day
  | n + 1, day, left => match decide (left > 0) with | true => freeRun c ss n (day + 1) (left - b1 (c.cnt false (isWk (day + 1)) (hit ss (day + 1)))) | false => day
/-- a strike that costs nothing -/
def Cl.off (c : Cl) (D f : Int) (s : Int) : Bool := c.s1 && (decide (D < s) && decide (s ≤ f) && c.cnt true (isWk s) false)
def lateC (c : Cl) (D f : Int) (ss : List Int) : Int := mx0 (f - D) - (match c.e1 with | true => 0 | false => mx0 (wkTo f - wkTo D)) - ((ss.filter (c.off D f)).length : Int)
def Cl.free0 (c : Cl) (l r f : Int) (ss : List Int) : Int := freeRun c ss (f - c.start l r).toNat (c.start l r) c.free
def dearC (c : Cl) (l r f : Int) (ss : List Int) : Int := lateC c (c.free0 l r f ss) f ss
/-- the price of the number-th day -/
def priceF (ps : List (Int × Int)) (n : Int) : Int := ps.foldl (fun a p => if p.1 ≤ n then p.2 else a) 0
def mn (a b : Int) : Int := if b < a then b else a
def amtG (zs : List ((Int × Int) × Int)) (n : Int) : Int := zs.foldl (fun a z => a + mx0 (mn (z.2 - 1) n - z.1.1 + 1) * z.1.2) 0
def Cl.ends (c : Cl) (n : Int) : List Int := (c.steps.map (·.1)).tail ++ [n + 1]
def amtC (c : Cl) (n : Int) : Int := match c.whole with | true => (match decide (n > 0) with | true => n * priceF c.steps n | false => 0) | false => amtG (c.steps.zip (c.ends n)) n
def costC (c : Cl) (l r f : Int) (ss : List Int) : Int := amtC c (dearC c l r f ss)
/-! as the law has it -/
def daysL (lo : Int) (n : Nat) : List Int := (List.range n).map fun i => lo + (i : Nat)
def dayStep (c : Cl) (ss : List Int) (st : Int × Int) (d : Int) : Int × Int :=
  match c.cnt (st.1 == 0) (isWk d) (hit ss d) with | false => st | true => (match st.1 == 0 with | true => (st.1, st.2 + 1) | false => (st.1 - 1, st.2))
def dayFold (c : Cl) (ss : List Int) (st : Int × Int) (lo : Int) (n : Nat) : Int × Int := (daysL lo n).foldl (dayStep c ss) st
def lawDays (c : Cl) (l r f : Int) (ss : List Int) : Int := (dayFold c ss (c.free, 0) (c.start l r + 1) (f - c.start l r).toNat).2
def sumF (ps : List (Int × Int)) (n : Nat) : Int := ((daysL 1 n).map (priceF ps)).sum
def sumC (c : Cl) (n : Int) : Int := match c.whole with | true => n * priceF c.steps n | false => sumF c.steps n.toNat
def lawCost (c : Cl) (l r f : Int) (ss : List Int) : Int := sumC c (lawDays c l r f ss)

/-! ### days -/
theorem daysL_zero (lo : Int) : daysL lo 0 = [] := rfl
theorem daysL_succ (lo : Int) (n : Nat) : daysL lo (n + 1) = daysL lo n ++ [lo + (n : Nat)] := by unfold daysL; rw [List.range_succ, List.map_append]; rfl
theorem daysL_cons (lo : Int) (n : Nat) : daysL lo (n + 1) = lo :: daysL (lo + 1) n := by
  unfold daysL
  rw [List.range_succ_eq_map, List.map_cons, List.map_map]
  congr 1
  · simp
  · apply List.map_congr_left
    intro i _
    show lo + ((i + 1 : Nat) : Int) = lo + 1 + (i : Nat)
    omega
/-- counted days without a free day left -/
def cntLate (c : Cl) (ss : List Int) (lo : Int) (n : Nat) : Int := ((daysL lo n).map fun d => b1 (c.cnt true (isWk d) (hit ss d))).sum
theorem sum_append (xs ys : List Int) : (xs ++ ys).sum = xs.sum + ys.sum := by induction xs with | nil => simp | cons x xs ih => simp [ih]; omega
theorem cntLate_succ (c : Cl) (ss : List Int) (lo : Int) (n : Nat) : cntLate c ss lo (n + 1) = cntLate c ss lo n + b1 (c.cnt true (isWk (lo + (n : Nat))) (hit ss (lo + (n : Nat)))) := by
  unfold cntLate
  rw [daysL_succ, List.map_append, sum_append]
  simp
theorem dayStep_late (c : Cl) (ss : List Int) (g d : Int) : dayStep c ss (0, g) d = (0, g + b1 (c.cnt true (isWk d) (hit ss d))) := by
  unfold dayStep
  show (match c.cnt true (isWk d) (hit ss d) with | false => ((0 : Int), g) | true => (0, g + 1)) = _
  cases c.cnt true (isWk d) (hit ss d) <;> simp [b1]
theorem dayFold_late (c : Cl) (ss : List Int) (g lo : Int) : ∀ n : Nat, dayFold c ss (0, g) lo n = (0, g + cntLate c ss lo n)
  | 0 => by simp [dayFold, cntLate, daysL]
  | n + 1 => by
    have ih := dayFold_late c ss g lo n
    unfold dayFold at ih ⊢
    rw [daysL_succ, List.foldl_append, ih, List.foldl_cons, List.foldl_nil, dayStep_late, cntLate_succ]
    congr 1
    omega
theorem freeRun_range (c : Cl) (ss : List Int) : ∀ (n : Nat) (day left : Int), day ≤ freeRun c ss n day left ∧ freeRun c ss n day left ≤ day + n
  | 0, day, left => by simp [freeRun]
  | n + 1, day, left => by
    unfold freeRun
    cases decide (left > 0) with
    | false => exact ⟨Int.le_refl _, by show day ≤ day + ((n + 1 : Nat) : Int); omega⟩
    | true =>
      have ih := freeRun_range c ss n (day + 1) (left - b1 (c.cnt false (isWk (day + 1)) (hit ss (day + 1))))
      show day ≤ freeRun c ss n (day + 1) _ ∧ freeRun c ss n (day + 1) _ ≤ day + ((n + 1 : Nat) : Int)
      omega
theorem dayFold_run (c : Cl) (ss : List Int) : ∀ (n : Nat) (day left g : Int), 0 ≤ left → (dayFold c ss (left, g) (day + 1) n).2 = g + cntLate c ss (freeRun c ss n day left + 1) (day + n - freeRun c ss n day left).toNat
  | 0, day, left, g, _ => by
    have e : (day + ((0 : Nat) : Int) - day).toNat = 0 := by omega
    simp only [freeRun]
    rw [e]
    simp [dayFold, cntLate, daysL]
  | n + 1, day, left, g, h => by
    by_cases h0 : left > 0
    · have hne : (left == 0) = false := by rw [beq_eq_false_iff_ne]; omega
      have ih := dayFold_run c ss n (day + 1) (left - b1 (c.cnt false (isWk (day + 1)) (hit ss (day + 1)))) g (by
        cases c.cnt false (isWk (day + 1)) (hit ss (day + 1)) <;> simp [b1] <;> omega)
      have e : freeRun c ss (n + 1) day left = freeRun c ss n (day + 1) (left - b1 (c.cnt false (isWk (day + 1)) (hit ss (day + 1)))) := by
        show (match decide (left > 0) with | true => _ | false => _) = _
        rw [decide_eq_true h0]
      have s : dayStep c ss (left, g) (day + 1) = (left - b1 (c.cnt false (isWk (day + 1)) (hit ss (day + 1))), g) := by
        unfold dayStep
        show (match c.cnt (left == 0) (isWk (day + 1)) (hit ss (day + 1)) with | false => (left, g) | true => (match left == 0 with | true => (left, g + 1) | false => (left - 1, g))) = _
        rw [hne]
        cases c.cnt false (isWk (day + 1)) (hit ss (day + 1)) <;> simp [b1]
      rw [e]
      unfold dayFold at ih ⊢
      rw [daysL_cons, List.foldl_cons, s, ih]
      congr 2
      congr 1
      omega
    · have h1 : left = 0 := by omega
      subst h1
      rw [dayFold_late]
      have e : freeRun c ss (n + 1) day 0 = day := rfl
      rw [e, show (day + ((n + 1 : Nat) : Int) - day).toNat = n + 1 by omega]
/-! ### counted days by formula -/
theorem wkTo_succ (d : Int) : wkTo (d + 1) = wkTo d + b1 (isWk (d + 1)) := by
  unfold wkTo mx0 isWk
  by_cases h : 5 ≤ (d + 1) % 7
  · rw [decide_eq_true h]
    show _ = _ + (1 : Int)
    split <;> split <;> omega
  · rw [decide_eq_false h]
    show _ = _ + (0 : Int)
    split <;> split <;> omega
theorem wkTo_mono (d : Int) : ∀ n : Nat, wkTo d ≤ wkTo (d + n)
  | 0 => by simp
  | n + 1 => by
    have ih := wkTo_mono d n
    have : d + ((n + 1 : Nat) : Int) = d + n + 1 := by omega
    rw [this, wkTo_succ]
    cases isWk (d + n + 1) <;> simp only [b1] <;> omega
theorem wkTo_week (d w : Int) : wkTo (d + 7 * w) = wkTo d + 2 * w := by unfold wkTo mx0; split <;> split <;> omega
theorem isWk_week (d w : Int) : isWk (d + 7 * w) = isWk d := by unfold isWk; congr 1; simp only [eq_iff_iff]; omega
theorem hit_iff {ss : List Int} {d : Int} : hit ss d = true ↔ d ∈ ss := by
  unfold hit
  rw [List.any_eq_true]
  constructor
  · rintro ⟨z, h1, h2⟩; rw [eq_of_beq h2] at h1; exact h1
  · intro h; exact ⟨d, h, beq_self_eq_true d⟩
theorem filter_eq_len : ∀ {ss : List Int}, ss.Pairwise (· < ·) → ∀ (d : Int) (b : Bool), ((ss.filter fun s => b && s == d).length : Int) = b1 (b && hit ss d)
  | [], _, d, b => by simp [hit, b1]
  | s :: ss, hp, d, b => by
    have ⟨h1, h2⟩ := List.pairwise_cons.mp hp
    have ih := filter_eq_len h2 d b
    cases b with
    | false => simp [b1]
    | true =>
      simp only [Bool.true_and] at ih ⊢
      rw [List.filter_cons]
      by_cases e : s = d
      · subst e
        have : hit ss s = false := by
          cases hh : hit ss s with
          | false => rfl
          | true => have := h1 s (hit_iff.mp hh); omega
        rw [this] at ih
        have h3 : hit (s :: ss) s = true := hit_iff.mpr List.mem_cons_self
        rw [h3, if_pos (beq_self_eq_true s), List.length_cons]
        simp only [b1] at ih ⊢
        omega
      · have : hit (s :: ss) d = hit ss d := by simp [hit, e]
        rw [this, if_neg (by simpa using e)]
        exact ih
theorem filter_split {p q r : Int → Bool} : ∀ {ss : List Int}, (∀ s, p s = (q s || r s)) → (∀ s, (q s && r s) = false) → (ss.filter p).length = (ss.filter q).length + (ss.filter r).length
  | [], _, _ => rfl
  | s :: ss, h1, h2 => by
    have ih := filter_split (ss := ss) h1 h2
    have a := h1 s
    have b := h2 s
    rw [List.filter_cons, List.filter_cons, List.filter_cons]
    cases hq : q s <;> cases hr : r s <;> rw [hq, hr] at a b <;> simp at a b <;> rw [a] <;> simp [ih] <;> omega
theorem filter_none_len {p : Int → Bool} : ∀ {ss : List Int}, (∀ s ∈ ss, p s = false) → (ss.filter p).length = 0
  | [], _ => rfl
  | s :: ss, h => by
    rw [List.filter_cons, h s List.mem_cons_self]
    exact filter_none_len fun t ht => h t (List.mem_cons_of_mem _ ht)
theorem off_succ (c : Cl) (D : Int) (n : Nat) (s : Int) : c.off D (D + ((n + 1 : Nat) : Int)) s = (c.off D (D + n) s || ((c.s1 && c.cnt true (isWk (D + n + 1)) false) && s == D + n + 1)) := by
  unfold Cl.off
  by_cases e : s = D + n + 1
  · subst e
    rw [decide_eq_true (show D < D + n + 1 by omega), decide_eq_true (show D + (n : Int) + 1 ≤ D + ((n + 1 : Nat) : Int) by omega), decide_eq_false (show ¬ D + (n : Int) + 1 ≤ D + n by omega), beq_self_eq_true]
    simp
  · have e1 : (s == D + n + 1) = false := by rw [beq_eq_false_iff_ne]; exact e
    have e2 : decide (s ≤ D + ((n + 1 : Nat) : Int)) = decide (s ≤ D + n) := by
      congr 1
      simp only [eq_iff_iff]
      omega
    rw [e1, e2]
    simp
theorem cntLate_formula (c : Cl) {ss : List Int} (hp : ss.Pairwise (· < ·)) (D : Int) : ∀ n : Nat, cntLate c ss (D + 1) n = (n : Int) - (match c.e1 with | true => 0 | false => wkTo (D + n) - wkTo D) - ((ss.filter (c.off D (D + n))).length : Int)
  | 0 => by
    have : (ss.filter (c.off D (D + ((0 : Nat) : Int)))).length = 0 := filter_none_len fun s _ => by
      unfold Cl.off
      by_cases h : D < s
      · rw [decide_eq_false (show ¬ s ≤ D + ((0 : Nat) : Int) by omega)]; simp
      · rw [decide_eq_false h]; simp
    rw [this]
    have e : wkTo (D + ((0 : Nat) : Int)) - wkTo D = 0 := by simp
    rw [e]
    cases c.e1 <;> simp [cntLate, daysL]
  | n + 1 => by
    have ih := cntLate_formula c hp D n
    have e : D + 1 + (n : Int) = D + n + 1 := by omega
    have fl : (ss.filter (c.off D (D + ((n + 1 : Nat) : Int)))).length = (ss.filter (c.off D (D + n))).length + (ss.filter fun s => (c.s1 && c.cnt true (isWk (D + n + 1)) false) && s == D + n + 1).length :=
      filter_split (off_succ c D n) fun s => by
        unfold Cl.off
        by_cases e : s = D + n + 1
        · subst e
          rw [decide_eq_false (show ¬ D + (n : Int) + 1 ≤ D + n by omega)]; simp
        · have e1 : (s == D + n + 1) = false := by rw [beq_eq_false_iff_ne]; exact e
          rw [e1]; simp
    have fe := filter_eq_len hp (D + n + 1) (c.s1 && c.cnt true (isWk (D + n + 1)) false)
    rw [cntLate_succ, ih, e, fl]
    have ew : wkTo (D + ((n + 1 : Nat) : Int)) = wkTo (D + n) + b1 (isWk (D + n + 1)) := by
      rw [← wkTo_succ]; congr 1; omega
    rw [ew]
    have key : b1 (c.cnt true (isWk (D + n + 1)) (hit ss (D + n + 1))) = 1 - (match c.e1 with | true => 0 | false => b1 (isWk (D + n + 1))) - b1 ((c.s1 && c.cnt true (isWk (D + n + 1)) false) && hit ss (D + n + 1)) := by
      unfold Cl.cnt
      show b1 ((!isWk (D + n + 1) || c.e1) && !(hit ss (D + n + 1) && c.s1)) = 1 - _ - b1 ((c.s1 && ((!isWk (D + n + 1) || c.e1) && !(false && c.s1))) && hit ss (D + n + 1))
      cases isWk (D + n + 1) <;> cases hit ss (D + n + 1) <;> cases c.e1 <;> cases c.s1 <;> rfl
    rw [key]
    push_cast
    cases c.e1 <;> simp only [] <;> omega
/-- the days that cost: as the law counts them -/
theorem dear_law {c : Cl} (hc : 0 ≤ c.free) {l r f : Int} {ss : List Int} (hp : ss.Pairwise (· < ·)) (hf : c.start l r ≤ f) : dearC c l r f ss = lawDays c l r f ss := by
  unfold dearC lawDays Cl.free0
  rw [dayFold_run c ss _ _ _ _ hc]
  have hr := freeRun_range c ss (f - c.start l r).toNat (c.start l r) c.free
  have ef : c.start l r + ((f - c.start l r).toNat : Int) = f := by omega
  rw [ef] at hr ⊢
  generalize freeRun c ss (f - c.start l r).toNat (c.start l r) c.free = D at hr ⊢
  rw [cntLate_formula c hp D]
  have en : ((f - D).toNat : Int) = f - D := by omega
  have eD : D + ((f - D).toNat : Int) = f := by omega
  rw [eD, en]
  have mono := wkTo_mono D (f - D).toNat
  rw [eD] at mono
  unfold lateC
  have m1 : mx0 (f - D) = f - D := by unfold mx0; split <;> omega
  have m2 : mx0 (wkTo f - wkTo D) = wkTo f - wkTo D := by unfold mx0; split <;> omega
  rw [m1, m2]
  omega
/-! ### the price -/
def prD (n : Int) : D → Option D
  | .tup [.int f, .int p] => (match decide (f ≤ n) with | true => some (.int p) | false => none)
  | _ => none
theorem prD_step (n : Int) (p : Int × Int) : prD n (stepD p) = (match decide (p.1 ≤ n) with | true => some (.int p.2) | false => none) := rfl
theorem price_filter (ps : List (Int × Int)) (n : Int) : (ps.map stepD).filterMap (prD n) = ((ps.filter fun p => decide (p.1 ≤ n)).map fun p => D.int p.2) := by
  induction ps with
  | nil => rfl
  | cons p ps ih =>
    rw [List.map_cons, List.filterMap_cons, List.filter_cons, prD_step, ih]
    cases decide (p.1 ≤ n) <;> rfl
theorem price_fold (ps : List (Int × Int)) (n a : Int) : (ps.filter fun p => decide (p.1 ≤ n)) = [] ∧ ps.foldl (fun a p => if p.1 ≤ n then p.2 else a) a = a ∨ ∃ xs p, (ps.filter fun p => decide (p.1 ≤ n)) = xs ++ [p] ∧ ps.foldl (fun a p => if p.1 ≤ n then p.2 else a) a = p.2 := by
  induction ps generalizing a with
  | nil => exact .inl ⟨rfl, rfl⟩
  | cons q ps ih =>
    rw [List.filter_cons, List.foldl_cons]
    by_cases h : q.1 ≤ n
    · rw [if_pos (decide_eq_true h), if_pos h]
      rcases ih q.2 with ⟨e1, e2⟩ | ⟨xs, p, e1, e2⟩
      · exact .inr ⟨[], q, by rw [e1]; rfl, e2⟩
      · exact .inr ⟨q :: xs, p, by rw [e1]; rfl, e2⟩
    · rw [if_neg (by rw [decide_eq_false h]; simp), if_neg h]
      exact ih a
theorem price_last {c : Cl} (hc : c.Ok) {n : Int} (hn : 1 ≤ n) : ∃ xs, ((c.steps.filter fun p => decide (p.1 ≤ n)).map fun p => D.int p.2) = xs ++ [D.int (priceF c.steps n)] := by
  rcases price_fold c.steps n 0 with ⟨e1, _⟩ | ⟨xs, p, e1, e2⟩
  · exfalso
    have o := hc.one
    cases hs : c.steps with
    | nil => rw [hs] at o; cases o
    | cons q r =>
      rw [hs] at o e1
      have o : some q.1 = some 1 := o
      have : q.1 = 1 := Option.some.inj o
      rw [List.filter_cons, if_pos (decide_eq_true (by omega))] at e1
      cases e1
  · exact ⟨xs.map fun p => D.int p.2, by rw [e1, List.map_append]; unfold priceF; rw [e2]; rfl⟩
theorem price_bound {c : Cl} (hc : c.Ok) (n : Int) : 0 ≤ priceF c.steps n ∧ priceF c.steps n ≤ 5 := by
  rcases price_fold c.steps n 0 with ⟨e1, e2⟩ | ⟨xs, p, e1, e2⟩
  · unfold priceF; rw [e2]; omega
  · have hp : p ∈ c.steps := by
      have : p ∈ c.steps.filter fun p => decide (p.1 ≤ n) := by rw [e1]; simp
      exact (List.mem_filter.mp this).1
    unfold priceF; rw [e2]; exact (hc.step p hp).2
theorem any_ints (ss : List Int) (d : Int) : ((ss.map D.int).any fun z => D.eqv z (.int d)) = hit ss d := by
  unfold hit
  rw [List.any_map]
  congr 1
theorem flat_ints (ss : List Int) : (ss.map D.int).all D.flat = true := by
  rw [List.all_map, List.all_eq_true]
  intro i _
  rfl
theorem fit_land (n : Nat) (b : Bool) : D.fit n (.str (if b then "landing" else "release")) = true := (sp_str n 0 (by cases b <;> decide +kernel)).1
theorem eqv_land (b : Bool) : D.eqv (.str (if b then "landing" else "release")) (.str "landing") = b := by cases b <;> decide +kernel
theorem pw_nodup {ns : List Int} (h : ns.Pairwise (· < ·)) : ns.Nodup := h.imp fun h e => by omega
theorem nodup_len : ∀ {ns is : List Int}, ns.Nodup → (∀ s ∈ ns, s ∈ is) → ns.length ≤ is.length
  | [], _, _, _ => Nat.zero_le _
  | n :: ns, is, h, m => by
    have ⟨h1, h2⟩ := List.nodup_cons.mp h
    have hn := m n List.mem_cons_self
    have : ns.length ≤ (is.erase n).length := nodup_len h2 fun s hs => by
      have := m s (List.mem_cons_of_mem _ hs)
      exact (List.mem_erase_of_ne (fun e => h1 (by rw [← e]; exact hs))).mpr this
    rw [List.length_erase_of_mem hn] at this
    have : 0 < is.length := List.length_pos_of_mem hn
    simp only [List.length_cons]
    omega
end Bx

set_option Elab.async false
set_option linter.all false
set_option maxRecDepth 100000
namespace Bx
open PySem PySem.Spec L2
open PyProof.Rows hiding St
/-! ### the sum of the prices -/
def amtR : List (Int × Int) → Int → Int
  | [], _ => 0
  | [p], n => mx0 (mn n n - p.1 + 1) * p.2
  | p :: q :: r, n => mx0 (mn (q.1 - 1) n - p.1 + 1) * p.2 + amtR (q :: r) n
theorem amtG_R (n : Int) : ∀ (r : List (Int × Int)) (p : Int × Int) (a : Int), ((p :: r).zip ((r.map (·.1)) ++ [n + 1])).foldl (fun a z => a + mx0 (mn (z.2 - 1) n - z.1.1 + 1) * z.1.2) a = a + amtR (p :: r) n
  | [], p, a => by
    show a + mx0 (mn (n + 1 - 1) n - p.1 + 1) * p.2 = _
    rw [show n + 1 - 1 = n by omega]
    rfl
  | q :: r, p, a => by
    have ih := amtG_R n r q (a + mx0 (mn (q.1 - 1) n - p.1 + 1) * p.2)
    show ((q :: r).zip ((r.map (·.1)) ++ [n + 1])).foldl _ (a + mx0 (mn (q.1 - 1) n - p.1 + 1) * p.2) = _
    rw [ih]
    show _ = a + (mx0 (mn (q.1 - 1) n - p.1 + 1) * p.2 + amtR (q :: r) n)
    omega
theorem amt_R {c : Cl} (hc : c.Ok) (n : Int) : amtG (c.steps.zip (c.ends n)) n = amtR c.steps n := by
  unfold amtG Cl.ends
  have h1 := hc.len.1
  cases hs : c.steps with
  | nil => rw [hs] at h1; simp at h1
  | cons p r =>
    have := amtG_R n r p 0
    simp only [Int.zero_add] at this
    exact this
abbrev pfold (m : Int) (a : Int) (ps : List (Int × Int)) : Int := ps.foldl (fun a p => if p.1 ≤ m then p.2 else a) a
theorem pfold_none {m : Int} : ∀ {ps : List (Int × Int)} (a : Int), (∀ p ∈ ps, m < p.1) → pfold m a ps = a
  | [], _, _ => rfl
  | p :: ps, a, h => by
    have := h p List.mem_cons_self
    show pfold m (if p.1 ≤ m then p.2 else a) ps = a
    rw [if_neg (by omega)]
    exact pfold_none a fun q hq => h q (List.mem_cons_of_mem _ hq)
theorem rising_gt {a : Int} {r : List Int} (h : rising (a :: r) = true) : ∀ x ∈ r, a < x := (List.pairwise_cons.mp (rising_pw.mp h)).1
theorem rising_tail {a : Int} {r : List Int} (h : rising (a :: r) = true) : rising r = true := rising_pw.mpr (List.pairwise_cons.mp (rising_pw.mp h)).2
theorem ite_mul (x p : Int) (m f : Int) : mx0 (m - f + 1) * p - mx0 (m - 1 - f + 1) * p = if f ≤ m then p else 0 := by
  by_cases h : f ≤ m
  · rw [if_pos h]
    have e1 : mx0 (m - f + 1) = (m - f) + 1 := by unfold mx0; rw [if_pos (by omega)]
    have e2 : mx0 (m - 1 - f + 1) = m - f := by unfold mx0; split <;> omega
    rw [e1, e2, Int.add_mul, Int.one_mul]
    omega
  · rw [if_neg h]
    have e1 : mx0 (m - f + 1) = 0 := by unfold mx0; rw [if_neg (by omega)]
    have e2 : mx0 (m - 1 - f + 1) = 0 := by unfold mx0; rw [if_neg (by omega)]
    rw [e1, e2]
    simp
theorem amtR_step (m : Int) : ∀ ps : List (Int × Int), rising (ps.map (·.1)) = true → amtR ps m - amtR ps (m - 1) = pfold m 0 ps
  | [], _ => by simp [amtR]
  | [p], _ => by
    have e1 : mn m m = m := by unfold mn; split <;> rfl
    have e2 : mn (m - 1) (m - 1) = m - 1 := by unfold mn; split <;> rfl
    show mx0 (mn m m - p.1 + 1) * p.2 - mx0 (mn (m - 1) (m - 1) - p.1 + 1) * p.2 = if p.1 ≤ m then p.2 else 0
    rw [e1, e2]
    exact ite_mul 0 _ _ _
  | p :: q :: r, h => by
    have ih := amtR_step m (q :: r) (rising_tail h)
    have hg : p.1 < q.1 := rising_gt h _ (by simp)
    have hall : ∀ x ∈ q :: r, q.1 ≤ x.1 := fun x hx => by
      rcases List.mem_cons.mp hx with e | hx
      · subst e; exact Int.le_refl _
      · have z : q.1 < x.1 := rising_gt (rising_tail h) x.1 (List.mem_map.mpr ⟨x, hx, rfl⟩)
        omega
    show (mx0 (mn (q.1 - 1) m - p.1 + 1) * p.2 + amtR (q :: r) m) - (mx0 (mn (q.1 - 1) (m - 1) - p.1 + 1) * p.2 + amtR (q :: r) (m - 1)) = pfold m (if p.1 ≤ m then p.2 else 0) (q :: r)
    by_cases hm : q.1 ≤ m
    · have e1 : mn (q.1 - 1) m = q.1 - 1 := by unfold mn; rw [if_neg (by omega)]
      have e2 : mn (q.1 - 1) (m - 1) = q.1 - 1 := by unfold mn; rw [if_neg (by omega)]
      rw [e1, e2]
      have e3 : pfold m (if p.1 ≤ m then p.2 else 0) (q :: r) = pfold m 0 (q :: r) := by
        show pfold m (if q.1 ≤ m then q.2 else _) r = pfold m (if q.1 ≤ m then q.2 else 0) r
        rw [if_pos hm, if_pos hm]
      rw [e3, ← ih]
      omega
    · have e1 : mn (q.1 - 1) m = m := by unfold mn; split <;> omega
      have e2 : mn (q.1 - 1) (m - 1) = m - 1 := by unfold mn; split <;> omega
      have n1 := pfold_none (m := m) (ps := q :: r) (if p.1 ≤ m then p.2 else 0) fun x hx => by have := hall x hx; omega
      have n2 := pfold_none (m := m) (ps := q :: r) 0 fun x hx => by have := hall x hx; omega
      rw [n1, e1, e2]
      rw [n2] at ih
      have := ite_mul 0 p.2 m p.1
      omega
theorem amtR_zero : ∀ ps : List (Int × Int), (∀ p ∈ ps, 1 ≤ p.1) → amtR ps 0 = 0
  | [], _ => rfl
  | [p], h => by
    have := h p List.mem_cons_self
    show mx0 (mn 0 0 - p.1 + 1) * p.2 = 0
    have e : mx0 (mn 0 0 - p.1 + 1) = 0 := by unfold mx0 mn; rw [if_neg (by simp; omega)]
    rw [e]; simp
  | p :: q :: r, h => by
    have h1 := h p List.mem_cons_self
    have h2 := h q (by simp)
    show mx0 (mn (q.1 - 1) 0 - p.1 + 1) * p.2 + amtR (q :: r) 0 = 0
    have e : mx0 (mn (q.1 - 1) 0 - p.1 + 1) = 0 := by
      have : mn (q.1 - 1) 0 = 0 := by unfold mn; split <;> omega
      rw [this]; unfold mx0; rw [if_neg (by omega)]
    rw [e, amtR_zero (q :: r) fun x hx => h x (List.mem_cons_of_mem _ hx)]; simp
theorem sumF_succ (ps : List (Int × Int)) (n : Nat) : sumF ps (n + 1) = sumF ps n + priceF ps (1 + (n : Nat)) := by
  unfold sumF
  rw [daysL_succ, List.map_append, sum_append]
  simp
theorem amtR_sum {c : Cl} (hc : c.Ok) : ∀ n : Nat, amtR c.steps n = sumF c.steps n
  | 0 => by
    rw [show ((0 : Nat) : Int) = 0 from rfl, amtR_zero c.steps fun p hp => (hc.step p hp).1.1]
    rfl
  | n + 1 => by
    have := amtR_step ((n + 1 : Nat) : Int) c.steps hc.up
    rw [show ((n + 1 : Nat) : Int) - 1 = (n : Int) by omega, amtR_sum hc n] at this
    rw [sumF_succ, show (1 : Int) + (n : Nat) = ((n + 1 : Nat) : Int) by omega]
    have e : priceF c.steps ((n + 1 : Nat) : Int) = pfold ((n + 1 : Nat) : Int) 0 c.steps := rfl
    rw [e]
    omega
/-- what the days cost: as the law sums it up -/
theorem amt_law {c : Cl} (hc : c.Ok) {n : Int} (h : 0 ≤ n) : amtC c n = sumC c n := by
  unfold amtC sumC
  cases c.whole with
  | true =>
    show (match decide (n > 0) with | true => n * priceF c.steps n | false => 0) = n * priceF c.steps n
    by_cases h0 : n > 0
    · rw [decide_eq_true h0]
    · rw [decide_eq_false h0]
      have : n = 0 := by omega
      subst this
      simp
  | false =>
    show amtG (c.steps.zip (c.ends n)) n = sumF c.steps n.toNat
    rw [amt_R hc]
    have := amtR_sum hc n.toNat
    rw [show ((n.toNat : Nat) : Int) = n by omega] at this
    exact this
theorem cntLate_range (c : Cl) (ss : List Int) (lo : Int) : ∀ n : Nat, 0 ≤ cntLate c ss lo n ∧ cntLate c ss lo n ≤ n
  | 0 => by simp [cntLate, daysL]
  | n + 1 => by
    have ih := cntLate_range c ss lo n
    rw [cntLate_succ]
    cases c.cnt true (isWk (lo + (n : Nat))) (hit ss (lo + (n : Nat))) <;> simp only [b1] <;> omega
theorem lawDays_range {c : Cl} (hc : 0 ≤ c.free) (l r f : Int) (ss : List Int) : 0 ≤ lawDays c l r f ss ∧ lawDays c l r f ss ≤ (f - c.start l r).toNat := by
  unfold lawDays
  rw [dayFold_run c ss _ _ _ _ hc]
  have hr := freeRun_range c ss (f - c.start l r).toNat (c.start l r) c.free
  generalize freeRun c ss (f - c.start l r).toNat (c.start l r) c.free = z at hr ⊢
  have := cntLate_range c ss (z + 1) (c.start l r + ((f - c.start l r).toNat : Int) - z).toNat
  omega
theorem cost_law {c : Cl} (hc : c.Ok) {l r f : Int} {ss : List Int} (hp : ss.Pairwise (· < ·)) (hf : c.start l r ≤ f) : costC c l r f ss = lawCost c l r f ss := by
  unfold costC lawCost
  rw [dear_law hc.free.1 hp hf]
  exact amt_law hc (lawDays_range hc.free.1 l r f ss).1
/-! ### far days -/
theorem dayFold_split (c : Cl) (ss : List Int) (st : Int × Int) (lo : Int) (n : Nat) : ∀ m : Nat, dayFold c ss st lo (n + m) = dayFold c ss (dayFold c ss st lo n) (lo + n) m
  | 0 => by simp [dayFold, daysL]
  | m + 1 => by
    have ih := dayFold_split c ss st lo n m
    unfold dayFold at ih ⊢
    rw [← Nat.add_assoc, daysL_succ, List.foldl_append, ih, daysL_succ, List.foldl_append]
    congr 2
    omega
/-- free days go on weekdays without a strike -/
theorem left_low (c : Cl) (ss : List Int) (d0 left g : Int) (h0 : 0 ≤ left) : ∀ n : Nat, (∀ s ∈ ss, ¬ (d0 < s ∧ s ≤ d0 + n)) → 0 ≤ (dayFold c ss (left, g) (d0 + 1) n).1 ∧ ((dayFold c ss (left, g) (d0 + 1) n).1 = 0 ∨ (dayFold c ss (left, g) (d0 + 1) n).1 ≤ left - (n - (wkTo (d0 + n) - wkTo d0)))
  | 0, _ => by
    simp only [dayFold, daysL, List.range_zero, List.map_nil, List.foldl_nil]
    exact ⟨h0, .inr (by rw [show d0 + ((0 : Nat) : Int) = d0 by omega]; omega)⟩
  | n + 1, h => by
    have ih := left_low c ss d0 left g h0 n fun s hs ⟨a, b⟩ => h s hs ⟨a, by omega⟩
    have es : dayFold c ss (left, g) (d0 + 1) (n + 1) = dayStep c ss (dayFold c ss (left, g) (d0 + 1) n) (d0 + 1 + (n : Nat)) := by
      unfold dayFold
      rw [daysL_succ, List.foldl_append]; rfl
    have ew : wkTo (d0 + ((n + 1 : Nat) : Int)) = wkTo (d0 + n) + b1 (isWk (d0 + 1 + (n : Nat))) := by
      rw [show d0 + ((n + 1 : Nat) : Int) = d0 + n + 1 by omega, wkTo_succ]
      congr 3
      omega
    have nh : hit ss (d0 + 1 + (n : Nat)) = false := by
      cases e : hit ss (d0 + 1 + (n : Nat)) with
      | false => rfl
      | true => exact absurd ⟨by omega, by omega⟩ (h _ (hit_iff.mp e))
    rw [es]
    generalize dayFold c ss (left, g) (d0 + 1) n = s at ih ⊢
    rw [ew]
    unfold dayStep
    rw [nh]
    by_cases z : s.1 = 0
    · rw [show (s.1 == 0) = true from by rw [z]; rfl]
      cases c.cnt true (isWk (d0 + 1 + (n : Nat))) false <;> exact ⟨ih.1, .inl z⟩
    · rw [show (s.1 == 0) = false from by rw [beq_eq_false_iff_ne]; exact z]
      cases hw : isWk (d0 + 1 + (n : Nat)) with
      | true =>
        cases c.cnt false true false with
        | true =>
          show 0 ≤ s.1 - 1 ∧ (s.1 - 1 = 0 ∨ s.1 - 1 ≤ _)
          simp only [b1]
          omega
        | false =>
          show 0 ≤ s.1 ∧ (s.1 = 0 ∨ s.1 ≤ _)
          simp only [b1]
          omega
      | false =>
        have : c.cnt false false false = true := rfl
        rw [this]
        show 0 ≤ s.1 - 1 ∧ (s.1 - 1 = 0 ∨ s.1 - 1 ≤ _)
        simp only [b1]
        omega
/-- the days of a week that count -/
def wk7 (b : Bool) : Int := match b with | true => 7 | false => 5
/-- a month behind the landing and the last strike no free day is left -/
theorem far_days {c : Cl} (hc : c.Ok) {l r N : Int} {ss : List Int} (hp : ss.Pairwise (· < ·)) (hN : c.start l r + 30 ≤ N) (hs : ∀ s ∈ ss, s + 30 ≤ N) {w : Int} (hw : 0 ≤ w) :
    lawDays c l r (N + 7 * w) ss = lawDays c l r N ss + w * wk7 c.e1 := by
  unfold lawDays
  generalize c.start l r = st at hN ⊢
  have e1 : (N + 7 * w - st).toNat = (N - st).toNat + (7 * w).toNat := by omega
  have e2 : (N - st).toNat = (N - 30 - st).toNat + 30 := by omega
  rw [e1, dayFold_split]
  have hleft : (dayFold c ss (c.free, 0) (st + 1) (N - st).toNat).1 = 0 := by
    rw [e2, dayFold_split]
    have lim : 0 ≤ (dayFold c ss (c.free, 0) (st + 1) (N - 30 - st).toNat).1 ∧ (dayFold c ss (c.free, 0) (st + 1) (N - 30 - st).toNat).1 ≤ 6 := left_range c ss _ _ hc.free.1 hc.free.2 _
    generalize dayFold c ss (c.free, 0) (st + 1) (N - 30 - st).toNat = s at lim ⊢
    obtain ⟨s1, s2⟩ := s
    have := left_low c ss (N - 30) s1 s2 lim.1 30 fun s h ⟨a, b⟩ => by have := hs s h; omega
    have e3 : st + 1 + ((N - 30 - st).toNat : Int) = N - 30 + 1 := by omega
    rw [e3]
    have e4 : wkTo (N - 30 + ((30 : Nat) : Int)) - wkTo (N - 30) ≤ 10 := by
      unfold wkTo mx0
      split <;> split <;> omega
    have lim2 : s1 ≤ 6 := lim.2
    omega
  generalize hS : dayFold c ss (c.free, 0) (st + 1) (N - st).toNat = s at hleft ⊢
  obtain ⟨s1, s2⟩ := s
  have hleft : s1 = 0 := hleft
  subst hleft
  rw [dayFold_late]
  show s2 + _ = s2 + _
  have e5 : st + 1 + ((N - st).toNat : Int) = N + 1 := by omega
  rw [e5, cntLate_formula c hp N]
  have e6 : ((7 * w).toNat : Int) = 7 * w := by omega
  have e7 : (ss.filter (c.off N (N + ((7 * w).toNat : Int)))).length = 0 := filter_none_len fun s h => by
    unfold Cl.off
    have := hs s h
    rw [decide_eq_false (show ¬ N < s by omega)]; simp
  rw [e7, e6, wkTo_week]
  cases c.e1 <;> simp only [wk7] <;> omega
where
  left_range (c : Cl) (ss : List Int) (left lo : Int) (h0 : 0 ≤ left) (h6 : left ≤ 6) : ∀ n : Nat, 0 ≤ (dayFold c ss (left, 0) lo n).1 ∧ (dayFold c ss (left, 0) lo n).1 ≤ 6
    | 0 => ⟨h0, h6⟩
    | n + 1 => by
      have ih := left_range c ss left lo h0 h6 n
      have es : dayFold c ss (left, 0) lo (n + 1) = dayStep c ss (dayFold c ss (left, 0) lo n) (lo + (n : Nat)) := by
        unfold dayFold
        rw [daysL_succ, List.foldl_append]; rfl
      rw [es]
      generalize dayFold c ss (left, 0) lo n = s at ih ⊢
      unfold dayStep
      by_cases z : s.1 = 0
      · rw [show (s.1 == 0) = true from by rw [z]; rfl]
        cases c.cnt true (isWk (lo + (n : Nat))) (hit ss (lo + (n : Nat))) <;> exact ih
      · rw [show (s.1 == 0) = false from by rw [beq_eq_false_iff_ne]; exact z]
        cases c.cnt false (isWk (lo + (n : Nat))) (hit ss (lo + (n : Nat))) with
        | false => exact ih
        | true => exact ⟨by show 0 ≤ s.1 - 1; omega, by show s.1 - 1 ≤ 6; omega⟩
/-! ### all moved by whole weeks -/
theorem hit_week (ss : List Int) (d w : Int) : hit (ss.map fun s => s + 7 * w) (d + 7 * w) = hit ss d := by
  unfold hit
  rw [List.any_map]
  congr 1
  funext s
  show (s + 7 * w == d + 7 * w) = (s == d)
  by_cases h : s = d
  · subst h; simp
  · rw [beq_eq_false_iff_ne.mpr h, beq_eq_false_iff_ne.mpr (by omega)]
theorem freeRun_week (c : Cl) (ss : List Int) (w : Int) : ∀ (n : Nat) (day left : Int), freeRun c (ss.map fun s => s + 7 * w) n (day + 7 * w) left = freeRun c ss n day left + 7 * w
  | 0, _, _ => rfl
  | n + 1, day, left => by
    show (match decide (left > 0) with | true => freeRun c (ss.map fun s => s + 7 * w) n (day + 7 * w + 1) (left - b1 (c.cnt false (isWk (day + 7 * w + 1)) (hit (ss.map fun s => s + 7 * w) (day + 7 * w + 1)))) | false => day + 7 * w) = (match decide (left > 0) with | true => freeRun c ss n (day + 1) (left - b1 (c.cnt false (isWk (day + 1)) (hit ss (day + 1)))) | false => day) + 7 * w
    rw [show day + 7 * w + 1 = day + 1 + 7 * w by omega, isWk_week, hit_week]
    cases decide (left > 0) with
    | true => exact freeRun_week c ss w n (day + 1) _
    | false => rfl
theorem off_week (c : Cl) (z f w : Int) (s : Int) : c.off (z + 7 * w) (f + 7 * w) (s + 7 * w) = c.off z f s := by
  unfold Cl.off
  rw [isWk_week]
  congr 2
  congr 1
  · congr 1; simp only [eq_iff_iff]; omega
  · congr 1; simp only [eq_iff_iff]; omega
theorem dear_week (c : Cl) (l r f w : Int) (ss : List Int) : dearC c (l + 7 * w) (r + 7 * w) (f + 7 * w) (ss.map fun s => s + 7 * w) = dearC c l r f ss := by
  unfold dearC Cl.free0
  have e1 : c.start (l + 7 * w) (r + 7 * w) = c.start l r + 7 * w := by unfold Cl.start; cases c.land <;> rfl
  rw [e1, show f + 7 * w - (c.start l r + 7 * w) = f - c.start l r by omega, freeRun_week]
  generalize freeRun c ss (f - c.start l r).toNat (c.start l r) c.free = z
  unfold lateC
  have e2 : ((ss.map fun s => s + 7 * w).filter (c.off (z + 7 * w) (f + 7 * w))).length = (ss.filter (c.off z f)).length := by
    rw [List.filter_map, List.length_map]
    congr 2
    funext s
    exact off_week c z f w s
  rw [e2, wkTo_week, wkTo_week, show f + 7 * w - (z + 7 * w) = f - z by omega]
  have e3 : wkTo f + 2 * w - (wkTo z + 2 * w) = wkTo f - wkTo z := by omega
  rw [e3]
/-! ### the last price -/
theorem price_end {c : Cl} (hc : c.Ok) {n : Int} (hn : 6 ≤ n) {xs : List (Int × Int)} {p : Int × Int} (e : c.steps = xs ++ [p]) : priceF c.steps n = p.2 := by
  have hp := hc.step p (by rw [e]; simp)
  unfold priceF
  rw [e, List.foldl_append]
  show (if p.1 ≤ n then p.2 else _) = p.2
  rw [if_pos (by omega)]
theorem sumF_end {c : Cl} (hc : c.Ok) {xs : List (Int × Int)} {p : Int × Int} (e : c.steps = xs ++ [p]) : ∀ n : Nat, sumF c.steps (6 + n) = sumF c.steps 6 + n * p.2
  | 0 => by simp
  | n + 1 => by
    rw [← Nat.add_assoc, sumF_succ, sumF_end hc e n, price_end hc (by omega) e]
    have : ((n + 1 : Nat) : Int) * p.2 = n * p.2 + p.2 := by push_cast; rw [Int.add_mul, Int.one_mul]
    omega
theorem amt_end {c : Cl} (hc : c.Ok) {xs : List (Int × Int)} {p : Int × Int} (e : c.steps = xs ++ [p]) {n : Int} (hn : 6 ≤ n) : amtC c n = n * p.2 + (match c.whole with | true => 0 | false => sumC c 6 - 6 * p.2) := by
  rw [amt_law hc (by omega)]
  unfold sumC
  cases c.whole with
  | true => show n * priceF c.steps n = n * p.2 + 0; rw [price_end hc hn e]; omega
  | false =>
    show sumF c.steps n.toNat = n * p.2 + (sumF c.steps (6 : Int).toNat - 6 * p.2)
    have := sumF_end hc e (n.toNat - 6)
    rw [show 6 + (n.toNat - 6) = n.toNat by omega] at this
    rw [this, show ((n.toNat - 6 : Nat) : Int) = n - 6 by omega, Int.sub_mul]
    show sumF c.steps 6 + (n * p.2 - 6 * p.2) = n * p.2 + (sumF c.steps 6 - 6 * p.2)
    omega
end Bx

set_option Elab.async false
set_option linter.all false
set_option maxRecDepth 100000
set_option maxHeartbeats 4000000
namespace Bx
open PySem PySem.Spec L2 HotX
open PyProof.Rows hiding St
/-! ### ends of walks while an exception is handled -/
section
variable {prog : Program} {w : World} {A : Around} {E : Value → Shared → Prop} {s : Shared}
theorem hot_ne_iter {x1 it l : Addr} {k : Nat} {h : Heap} (hot : HotAt A x1 h) {o : Obj} (ho : h.get? it = some o) (hd : o.data = .fields #[.ref l, .int k 0]) : x1 ≠ it := by
  obtain ⟨_, o1, vs1, h1, d1, c1⟩ := hot
  intro z
  subst z
  rw [h1] at ho
  cases ho
  rw [d1] at hd
  cases hd
  simp at c1
theorem lnext_end_hot {it l x1 : Addr} {i : Nat} {items : Array Value} {Q : Value → Shared → Prop} (hot : HotAt A x1 s.heap) (hit : s.heap.IsListIter it l i) (hl : s.heap.IsList l items) (hx : items[i]? = none)
    (hE : ∀ h' e, Heap.ExtBut it s.heap h' → (∃ o, h'.get? e = some o ∧ o.cls = .type "StopIteration") → E (.ref e) { s with heap := h' }) : wpAny (model prog w) A (Builtin.SmallTypes.nextOf (.ref it)) Q E s := by
  obtain ⟨o, ho, hc, hd⟩ := id hit
  have hne := hot_ne_iter hot ho hd
  obtain ⟨hh, o1, vs1, h1, d1, c1⟩ := hot
  obtain ⟨ol, hol, _, nl, hdl⟩ := hl
  unfold Builtin.SmallTypes.nextOf
  refine wpAny_bind (wpAny_callSpecial?_slot (name := Str.ofString "__next__") hit.typeIs slot_listiter_next
    (wpAny_call_entry slot_listiter_next hit.typeIs entry_listiter_next ?_ (args_listiter_next _)))
  show wpAny _ _ (field (.ref it) 0 >>= _) _ _ s
  refine wpAny_bind (wpAny_field ho hd (x := .ref l) rfl ?_)
  show wpAny _ _ (if (Value.ref l == Value.none) = true then _ else _) _ _ s
  rw [if_neg (show ¬ ((Value.ref l == Value.none) = true) from Bool.false_ne_true)]
  show wpAny _ _ (field (.ref it) 1 >>= _) _ _ s
  refine wpAny_bind (wpAny_field ho hd (x := .int i 0) rfl ?_)
  show wpAny _ _ (seqItems? (.ref l) >>= _) _ _ s
  refine wpAny_bind (wpAny_seqItems hol hdl ?_)
  simp only [Int.toNat_natCast, hx]
  refine wpAny_bind (wpAny_rule (wpAny_bind (wpAny_setField ho hd (by simp) ?_)))
  show wpAny _ _ (newExc (.type "StopIteration") [] >>= _) _ _ _
  refine wpAny_bind ?_
  simp only [newExc, newTuple]
  refine wpAny_bind (wpAny_newObj_type ?_ (by size_fits))
  refine wpAny_bind (m := firstArgMember _ _) (wpAny_of_eq (a := Value.none) (by first | rfl | (simp only [firstArgMember]; rfl)) ?_)
  refine wpAny_newObj_type ?_ (by size_fits)
  have h1' := Heap.get?_update_other s.heap (Obj.mapFields (·.setIfInBounds 0 Value.none)) (Ne.symm hne)
  rw [h1] at h1'
  refine raiseNew_hot ⟨hh, o1, vs1, Heap.get?_push_of_some _ (Heap.get?_push_of_some _ h1'), d1, c1⟩ (Nat.ne_of_lt (Heap.lt_size (Heap.get?_push_of_some _ h1'))) (Heap.get?_push_size _ rfl) rfl (by first | (simp; done) | (simp; omega) | (simp only [Array.size_append]; simp; omega)) ?_
  refine hE _ _ (fun b ob hb e => ?_) ⟨_, Heap.get?_update_self _ (Heap.get?_push_size _ rfl) rfl, rfl⟩
  have e1 := (Heap.get?_update_other s.heap (Obj.mapFields (·.setIfInBounds 0 Value.none)) (Ne.symm hb)).trans e
  rw [Heap.get?_update_other _ _ (Nat.ne_of_gt (Heap.lt_size (Heap.get?_push_of_some _ e1)))]
  exact Heap.get?_push_of_some _ (Heap.get?_push_of_some _ e1)
theorem _root_.HotX.HotAt.ext {a x1 : Addr} {h h' : Heap} (k : HotAt A x1 h) (e : Heap.ExtBut a h h') (n : x1 ≠ a) : HotAt A x1 h' := by
  obtain ⟨hh, o1, vs1, h1, d1, c1⟩ := k
  exact ⟨hh, o1, vs1, e _ _ n h1, d1, c1⟩
theorem zip_end_hot {x1 z TI TO i1 i2 l1 l2 : Addr} {k1 k2 : Nat} {xs ys : Array Value} {a b : Value} {Q : Fin → Shared → Prop} (hot : HotAt A x1 s.heap) (D : ZipApart z TI TO i1 i2 l1 l2)
    (hz : IsZip s.heap z TI TO .none) (hTI : IsPair s.heap TI (.ref i1) (.ref i2)) (hTO : IsPair s.heap TO a b)
    (h1 : Kit false s.heap i1 l1 k1) (h2 : Kit false s.heap i2 l2 k2) (hl1 : Ksq false s.heap l1 xs) (hl2 : Ksq false s.heap l2 ys) (hend : xs[k1]? = none ∨ ys[k2]? = none)
    (hE : ∀ h' e, (∀ c o, c ≠ z → c ≠ TO → c ≠ i1 → c ≠ i2 → s.heap.get? c = some o → h'.get? c = some o) → (∃ o, h'.get? e = some o ∧ o.cls = .type "StopIteration") → E (.ref e) { s with heap := h' }) :
    wpAny (model prog w) A (Builtin.«zip.__next__» ⟨[.ref z], []⟩) Q E s := by
  have nz : x1 ≠ z := fun e => by
    obtain ⟨_, o1, vs1, h1, d1, c1⟩ := hot
    rw [e] at h1
    rw [hz] at h1
    cases h1
    cases d1
    simp at c1
  have nTO : x1 ≠ TO := fun e => by
    obtain ⟨_, o1, vs1, h1, d1, c1⟩ := hot
    rw [e] at h1
    rw [hTO] at h1
    cases h1
    cases d1
  have n1 : x1 ≠ i1 := by
    obtain ⟨o, e, d⟩ := h1.obj
    exact hot_ne_iter hot e d
  have n2 : x1 ≠ i2 := by
    obtain ⟨o, e, d⟩ := h2.obj
    exact hot_ne_iter hot e d
  show wpAny _ _ (field (.ref z) 2 >>= _) _ _ _
  refine wpAny_bind (wpAny_field hz rfl (x := .bool false) rfl ?_)
  show wpAny _ _ (field (.ref z) 3 >>= _) _ _ _
  refine wpAny_bind (wpAny_field hz rfl (x := .ref TI) rfl (wpAny_bind (wpAny_seqItems hTI rfl ?_)))
  show wpAny _ _ (Builtin.SmallTypes.ownedTupleIsFree (.ref z) >>= _) _ _ _
  refine wpAny_bind ?_
  unfold Builtin.SmallTypes.ownedTupleIsFree
  refine wpAny_bind (wpAny_field hz rfl (x := .none) rfl (wpAny_pure ?_))
  simp only [if_true]
  refine wpAny_bind (wpAny_rule (wpAny_bind (wpAny_field hz rfl (x := .ref TO) rfl (wpAny_bind (wpAny_setField_rec hz (by simp) fun g1 z1 s1 => ?_)))))
  replace z1 : IsZip g1 z TI TO .ellipsis := z1
  refine wpAny_bind ?_
  simp only [List.zipIdx_cons, List.zipIdx_nil, List.forIn_cons, List.forIn_nil]
  refine wpAny_bind (wpAny_bind (wpAny_onRaise ?_))
  show wpAny _ _ (Builtin.SmallTypes.nextOf (.ref i1) >>= _) _ _ _
  cases hx : xs[k1]? with
  | none =>
    refine wpAny_bind (lnext_end_hot (hot.ext s1.extBut nz) (h1.ext s1.extBut D.i1z) (hl1.ext s1.extBut D.l1z) hx fun g2 e s2 he => ?_)
    obtain ⟨oe, hoe, hce⟩ := he
    have z2 : IsZip g2 z TI TO .ellipsis := s2 _ _ D.i1z.symm z1
    have hez : e ≠ z := fun x => by subst x; rw [z2] at hoe; cases hoe; simp at hce
    refine wpAny_setField_rec z2 (by simp) fun g3 _ s3 => hE g3 e (fun c o c1 _ c3 _ x => s3.extBut _ _ c1 (s2 _ _ c3 (s1.extBut _ _ c1 x))) ⟨oe, s3.extBut _ _ hez hoe, hce⟩
  | some x =>
    have hy : ys[k2]? = none := by
      rcases hend with h | h
      · rw [hx] at h; cases h
      · exact h
    refine wpAny_bind (knext_item (h1.ext s1.extBut D.i1z) (hl1.ext s1.extBut D.l1z) hx fun g2 h12 s2 => wpAny_pure ?_)
    have p2 : IsPair g2 TO a b := s2.extBut _ _ D.TOi1 (s1.extBut _ _ D.TOz hTO)
    refine wpAny_bind (wpAny_seqItems p2 rfl (wpAny_bind (wpAny_updateSeq_pair p2 fun g3 p3 s3 => ?_)))
    refine wpAny_bind (wpAny_letGo (wpAny_pure (wpAny_bind (wpAny_bind (wpAny_onRaise ?_)))))
    show wpAny _ _ (Builtin.SmallTypes.nextOf (.ref i2) >>= _) _ _ _
    refine wpAny_bind (lnext_end_hot (((hot.ext s1.extBut nz).ext s2.extBut n1).ext s3.extBut nTO) (((h2.ext s1.extBut D.i2z).ext s2.extBut D.i12.symm).ext s3.extBut D.TOi2.symm) (((hl2.ext s1.extBut D.l2z).ext s2.extBut D.l2i1).ext s3.extBut D.l2TO) hy fun g4 e s4 he => ?_)
    obtain ⟨oe, hoe, hce⟩ := he
    have z4 : IsZip g4 z TI TO .ellipsis := s4 _ _ D.i2z.symm (s3.extBut _ _ D.TOz.symm (s2.extBut _ _ D.i1z.symm z1))
    have hez : e ≠ z := fun x => by subst x; rw [z4] at hoe; cases hoe; simp at hce
    refine wpAny_setField_rec z4 (by simp) fun g5 _ s5 => hE g5 e (fun c o c1 c2 c3 c4 x => s5.extBut _ _ c1 (s4 _ _ c4 (s3.extBut _ _ c2 (s2.extBut _ _ c3 (s1.extBut _ _ c1 x))))) ⟨oe, s5.extBut _ _ hez hoe, hce⟩
theorem zip_pyNext_end_hot {x1 z TI TO i1 i2 l1 l2 : Addr} {k1 k2 : Nat} {xs ys : Array Value} {a b : Value} {Q : Option Value → Shared → Prop} (hot : HotAt A x1 s.heap) (D : ZipApart z TI TO i1 i2 l1 l2)
    (hz : IsZip s.heap z TI TO .none) (hTI : IsPair s.heap TI (.ref i1) (.ref i2)) (hTO : IsPair s.heap TO a b)
    (h1 : Kit false s.heap i1 l1 k1) (h2 : Kit false s.heap i2 l2 k2) (hl1 : Ksq false s.heap l1 xs) (hl2 : Ksq false s.heap l2 ys) (hend : xs[k1]? = none ∨ ys[k2]? = none)
    (hQ : ∀ h', (∀ c o, c ≠ z → c ≠ TO → c ≠ i1 → c ≠ i2 → s.heap.get? c = some o → h'.get? c = some o) → Q none { s with heap := h' }) : wpAny (model prog w) A (pyNext (.ref z)) Q E s := by
  have hT : s.TypeIs (.ref z) "zip" := ⟨_, hz, rfl⟩
  unfold pyNext
  refine wpAny_bind (wpAny_attempt (wpAny_callSpecial?_slot (name := Str.ofString "__next__") hT F.slot_zip_next
    (wpAny_call_entry F.slot_zip_next hT F.entry_zip_next (zip_end_hot hot D hz hTI hTO h1 h2 hl1 hl2 hend fun h' e hk he => ?_) (F.args_zip_next_1 _))))
  obtain ⟨o, ho, hc⟩ := he
  exact wpAny_bind (wpAny_isInstance (T := "StopIteration") (b := true) ⟨o, ho, hc⟩ isSubtype_stop (wpAny_pure (hQ _ hk)))
end
/-- a walk whose end raises under a handled exception -/
structure TurnZ (P : Program) (w : World) (K : PySem.W.Frag) (tg : Expr) (J : It) (fp : List Addr) (it : Addr) (tn : Nat → Heap → Prop) : Prop where
  mem : it ∈ fp
  obj : ∀ i h, tn i h → ∀ b ∈ fp, ∃ o, h.get? b = some o ∧ ∀ v, o.data ≠ .cell v
  keep : ∀ i h h', tn i h → (∀ b ∈ fp, ∀ o, h.get? b = some o → h'.get? b = some o) → tn i h'
  item : ∀ (X : Cx), X.prog = P → X.w = w → X.K = K → ∀ (i : Nat) (pins : List (Addr × Obj)) (s : Shared) (σ : L2.St) (H : Hp) (E : Value → Shared → Prop), Inv X pins σ H s → (∀ b ∈ fp, FpOk X pins H b) → tn i s.heap → J.go i H →
    wpAny (model P w) X.A (pyNext (.ref it)) (fun r s1 => ∃ u, r = some u ∧
      wpAny (model P w) X.A (letOwnedTupleGo tg (.ref it) u) (fun _ s2 => ∃ x H', Inv X pins σ H' s2 ∧ RelV x u ∧ J.yld i H x H' ∧ tn (i + 1) s2.heap ∧ ∀ b ∈ fp, H' b = none) E s1) E s
  done : ∀ (X : Cx), X.prog = P → X.w = w → X.K = K → ∀ (i : Nat) (pins : List (Addr × Obj)) (s : Shared) (σ : L2.St) (H : Hp) (E : Value → Shared → Prop), (∃ x1, HotAt X.A x1 s.heap) → Inv X pins σ H s → (∀ b ∈ fp, FpOk X pins H b) → tn i s.heap → J.stop i H →
    wpAny (model P w) X.A (pyNext (.ref it)) (fun r s1 => r = none ∧ Inv X pins σ H s1) E s
  self : ∀ (A : Around) (i : Nat) (s : Shared) (Q : Value → Shared → Prop) (E : Value → Shared → Prop), tn i s.heap → Q (.ref it) s → wpAny (model P w) A (pyIter (.ref it)) Q E s
theorem turn_zipH {P : Program} {w : World} {K : PySem.W.Frag} {elts : List Expr} {kk : Nat} {tpos : Pos} {a b z TI TO i1 i2 : Addr} (D : ZipApart z TI TO i1 i2 a b) :
    TurnZ P w K (.Tuple elts kk tpos) (Itz K a b) [z, TI, TO, i1, i2] z (fun i h => IsZip h z TI TO .none ∧ IsPair h TI (.ref i1) (.ref i2) ∧ (∃ x y, IsPair h TO x y) ∧ Kit false h i1 a i ∧ Kit false h i2 b i) where
  mem := by simp
  obj := fun i h st c hc => by
    obtain ⟨hz, hTI, ⟨x, y, hTO⟩, h1, h2⟩ := st
    obtain ⟨o1, e1, d1⟩ := h1.obj
    obtain ⟨o2, e2, d2⟩ := h2.obj
    rcases five hc with q | q | q | q | q <;> subst q
    · exact ⟨_, hz, fun v q => nomatch q⟩
    · exact ⟨_, hTI, fun v q => nomatch q⟩
    · exact ⟨_, hTO, fun v q => nomatch q⟩
    · exact ⟨o1, e1, fun v q => by rw [d1] at q; cases q⟩
    · exact ⟨o2, e2, fun v q => by rw [d2] at q; cases q⟩
  keep := fun i h h' st k => by
    obtain ⟨hz, hTI, ⟨x, y, hTO⟩, h1, h2⟩ := st
    exact ⟨k z (by simp) _ hz, k TI (by simp) _ hTI, ⟨x, y, k TO (by simp) _ hTO⟩, h1.at fun o q => k i1 (by simp) o q, h2.at fun o q => k i2 (by simp) o q⟩
  item := by
    intro X hP hw hK i pins s σ H E I hf st hg
    subst hP hw hK
    obtain ⟨hz, hTI, ⟨x0, y0, hTO⟩, h1, h2⟩ := st
    obtain ⟨xs, ys, x, y, hqx, hqy, hx, hy⟩ := hg
    obtain ⟨its, rv, p, _⟩ := I.list hqx
    obtain ⟨its2, rv2, p2, _⟩ := I.list hqy
    obtain ⟨u, hu, ru⟩ := rv.get hx
    obtain ⟨u2, hu2, ru2⟩ := rv2.get hy
    have hzl : z < s.heap.objs.size := Heap.lt_size hz
    have out : ∀ c : Addr, c ∉ [z, TI, TO, i1, i2] → c ≠ z ∧ c ≠ TO ∧ c ≠ i1 ∧ c ≠ i2 := fun c h => ⟨fun q => h (by simp [q]), fun q => h (by simp [q]), fun q => h (by simp [q]), fun q => h (by simp [q])⟩
    refine kzip_pyNext_item D hz hTI hTO h1 h2 p.isList p2.isList (x := u) (y := u2) (by simpa using hu) (by simpa using hu2) fun h' z' TO' h1' h2' hT hsz hk => ?_
    refine ⟨_, rfl, wpAny_letOwnedTupleGo_zip (s := { s with heap := h' }) z' fun h'' z'' sb => ?_⟩
    have hT2 : h''.get? s.heap.objs.size = some { cls := .type "tuple", data := .seq #[u, u2] } := (sb.2 _ (Nat.ne_of_gt hzl)).trans hT
    have new : ObjOk X.prog X.w (upd H s.heap.objs.size (.tup [x, y])) h'' s.heap.objs.size (.tup [x, y]) :=
      ⟨by show 2 ≤ sizeLine; decide, [u, u2], .cons ru (.cons ru2 .nil), ⟨_, hT2, rfl, _, rfl⟩⟩
    have I1 : Inv X pins σ (upd H s.heap.objs.size (.tup [x, y])) { s with heap := h'' } :=
      I.turnedNew (t' := s.toks) (ch := [z, TI, TO, i1, i2]) (fun c o hb q => (sb.2 c (out c hb).1).trans (hk c o (out c hb).1 (out c hb).2.1 (out c hb).2.2.1 (out c hb).2.2.2 q)) hf (Nat.le_refl _) new
    obtain ⟨_, l1, _⟩ := h1.obj
    obtain ⟨_, l2, _⟩ := h2.obj
    refine ⟨.ref s.heap.objs.size, _, I1, rfl, ⟨_, x, y, rfl, I.hok.fresh (Nat.le_refl _), rfl, fun l hl => by rw [I.list_inj hl hqx]; exact hx, fun l hl => by rw [I.list_inj hl hqy]; exact hy⟩, ⟨z'', ?_, ⟨u, u2, ?_⟩, ?_, ?_⟩, fun c hcm => ?_⟩
    · exact (sb.2 _ D.TIz).trans (hk _ _ D.TIz D.TITO D.TIi1 D.TIi2 hTI)
    · exact (sb.2 _ D.TOz).trans TO'
    · exact h1'.at fun o q => (sb.2 _ D.i1z).trans q
    · exact h2'.at fun o q => (sb.2 _ D.i2z).trans q
    · have hlt : c < s.heap.objs.size := by
        rcases five hcm with q | q | q | q | q <;> subst q
        · exact hzl
        · exact Heap.lt_size hTI
        · exact Heap.lt_size hTO
        · exact Heap.lt_size l1
        · exact Heap.lt_size l2
      rw [upd_ne (Nat.ne_of_lt hlt)]
      exact (hf c hcm).1
  done := by
    intro X hP hw hK i pins s σ H E ⟨x1, hot⟩ I hf st hg
    subst hP hw hK
    obtain ⟨hz, hTI, ⟨x0, y0, hTO⟩, h1, h2⟩ := st
    obtain ⟨xs, ys, hqx, hqy, hend⟩ := hg
    obtain ⟨its, rv, p, _⟩ := I.list hqx
    obtain ⟨its2, rv2, p2, _⟩ := I.list hqy
    have l1 := rv.length
    have l2 := rv2.length
    have he : its.toArray[i]? = none ∨ its2.toArray[i]? = none := by
      rcases hend with q | q
      · exact .inl (by simp; omega)
      · exact .inr (by simp; omega)
    have out : ∀ c : Addr, c ∉ [z, TI, TO, i1, i2] → c ≠ z ∧ c ≠ TO ∧ c ≠ i1 ∧ c ≠ i2 := fun c h => ⟨fun q => h (by simp [q]), fun q => h (by simp [q]), fun q => h (by simp [q]), fun q => h (by simp [q])⟩
    exact zip_pyNext_end_hot hot D hz hTI hTO h1 h2 p.isList p2.isList he fun h' hk => ⟨rfl, I.turnedL (t' := s.toks) (ch := [z, TI, TO, i1, i2]) (fun c o hb q =>
      hk c o (out c hb).1 (out c hb).2.1 (out c hb).2.2.1 (out c hb).2.2.2 q) hf⟩
  self := fun A i s Q E st h => wpAny_pyIter_zip st.1 h
end Bx

set_option Elab.async false
set_option linter.all false
set_option maxRecDepth 100000
set_option maxHeartbeats 4000000
namespace Bx
open PySem PySem.Spec L2 HotX
open PyProof.Rows hiding St
def PIEZ (X : Cx) (pins : List (Addr × Obj)) (σ : L2.St) (tg : Expr) (R : It → Hp → Prop) (itv : Value) (s2 : Shared) : Prop :=
  ∃ (it : Addr) (fp : List Addr) (tn : Nat → Heap → Prop) (J : It) (H' : Hp), itv = .ref it ∧ Inv X pins σ H' s2 ∧ TurnZ X.prog X.w X.K tg J fp it tn ∧ tn 0 s2.heap ∧ (∀ b ∈ fp, FpOk X pins H' b) ∧ R J H'
structure PIZ (X : Cx) (tg iter : Expr) (wi : TI) : Prop where
  run : ∀ (pins : List (Addr × Obj)) (s : Shared) (σ : L2.St) (H : Hp) (R : It → Hp → Prop), Inv X pins σ H s → wi σ H R →
    wpAny (model X.prog X.w) X.A (eval iter X.env) (fun v s1 => wpAny (model X.prog X.w) X.A (pyIter v) (PIEZ X pins σ tg R) X.xe s1) X.xe s
theorem lcz_core {X : Cx} {pins : List (Addr × Obj)} {s : Shared} {σ : L2.St} {H : Hp} {Q : VK} {elt tg iter : Expr} {ifs : List Expr} {scope : Scope} {own : List (Str × Nat)} {pos pos' : Pos} {wi : TI} {g : TG} {tt : TT} {te : TE} {use : Option (Value → Sem Unit)} {Qf : Value → Shared → Prop}
    (hc : ∃ p : Addr × Obj, p ∈ X.pn ∧ X.A.handled = some (.ref p.1) ∧ ∃ vs : Array Value, p.2.data = .fields vs ∧ vs[2]? = some .none) (hN : X.N.Nodup) (I : Inv X pins σ H s) (hi : PIZ X tg iter wi) (ok : BlkOk X.N X.env.scope scope own)
    (hg : ∀ (s : Shared) (H : Hp) (C : Addr) (cl : List (Str × Addr)) (fp : List Addr), (∀ (pins' : List (Addr × Obj)) (s' : Shared) (σ' : L2.St) (H' : Hp), Inv (X.blk s H scope (compEnvC scope cl C X.env) fp) pins' σ' H' s' → ∃ x1, HotAt X.A x1 s'.heap) → PG (X.blk s H scope (compEnvC scope cl C X.env) fp) tg g) (ht : ∀ (s : Shared) (H : Hp) (C : Addr) (cl : List (Str × Addr)) (fp : List Addr), PTs (X.blk s H scope (compEnvC scope cl C X.env) fp) ifs tt)
    (he : ∀ (s : Shared) (H : Hp) (C : Addr) (cl : List (Str × Addr)) (fp : List Addr), PE (X.blk s H scope (compEnvC scope cl C X.env) fp) elt te) (hs : ∀ x, foldedSetIterable iter X.env x = pure x)
    (h : tLc wi g tt te (own.map (·.2)) σ H Q)
    (hRR : ∀ D C s' m H', Inv X pins σ H' s' → Q (.ref D) H' → s'.heap.Ns C m → FpOk X pins H' C → compPost (model X.prog X.w) X.A X.xe use Qf (.ref D) C (.ok .next) s') :
    wpAny (model X.prog X.w) X.A (comprehension (.ListComp elt [⟨tg, iter, ifs, 0⟩] scope pos) scope X.env pos' (newList []) false (eval iter X.env) use) Qf X.xe s := by
  have hfree : ∀ y ∈ scope.names, y.2 = .free → ∃ c, X.env.cells.lookup y.1 = some c := fun y hy e => by
    rcases ok.free y hy e with k | k
    · exact I.ok.has _ (.inl k)
    · exact I.ok.has _ (.inr k)
  refine wpAny_comprehension_free (use := use) rfl hs (closure_ok hfree) ok.kind (fun y hy e => by rw [ok.uniq y hy, e])
    (thn (hi.run pins s σ H _ I h) fun xv s1 hx => thn hx fun itv s2 h2 => ?_)
  obtain ⟨it, fp, tn, J, H2, e, I2, T, st2, f2, q⟩ := h2
  subst e
  refine wpAny_newObj_type (newEnv_comp ?_) (by show 0 ≤ sizeLine; decide)
  generalize hD : s2.heap.objs.size = D
  have hDn : H2 D = none := I2.hok.fresh (Nat.le_of_eq hD)
  obtain ⟨W, ⟨m0, w0⟩, turn⟩ := q D hDn
  -- the new list
  generalize hs3 : ({ s2 with heap := s2.heap.push { cls := .type "list", data := .seq ([] : List Value).toArray } } : Shared) = s3
  have I3 : Inv X pins σ (upd H2 D (.lst [])) s3 := by
    rw [← hs3]
    refine I2.laid (t' := s2.toks) (fun b o e => Heap.get?_push_of_some _ e) (Nat.le_of_eq hD) ⟨Nat.zero_le _, [], 0, .nil, ?_⟩
    rw [← hD]
    exact Heap.get?_push_size _ rfl
  have h3 : s3.heap = s2.heap.push { cls := .type "list", data := .seq ([] : List Value).toArray } := by rw [← hs3]
  have sz : ∀ b ∈ fp, b < s2.heap.objs.size := fun b hb => by
    obtain ⟨o, e, _⟩ := T.obj _ _ st2 b hb
    exact Heap.lt_size e
  have f3 : ∀ b ∈ fp, FpOk X pins (upd H2 D (.lst [])) b ∧ b < s3.heap.objs.size := fun b hb => by
    have hlt := sz b hb
    refine ⟨⟨?_, (f2 b hb).2⟩, by rw [h3, Heap.size_push]; exact Nat.lt_succ_of_lt hlt⟩
    rw [upd_ne (by rw [← hD]; exact Nat.ne_of_lt hlt)]
    exact (f2 b hb).1
  have st3 : tn 0 s3.heap := T.keep _ _ _ st2 fun b _ o e => by rw [h3]; exact Heap.get?_push_of_some _ e
  have I4 := block_start I3 ok hN f3
  have hotB : ∀ (pins' : List (Addr × Obj)) (s' : Shared) (σ' : L2.St) (H' : Hp), Inv (X.blk s3 (upd H2 D (.lst [])) scope (compEnvC scope (cellsFrom (s3.heap.objs.size + 1) scope.names (cloFrom X.env.cells scope.names [])) s3.heap.objs.size X.env) fp) pins' σ' H' s' → ∃ x1, HotAt X.A x1 s'.heap := fun pins' s' σ' H' I' => by
    obtain ⟨p, hp, hh, vs, d1, c1⟩ := hc
    obtain ⟨g1, g2, g3, g4, g5⟩ := I3.pin p (List.mem_append_left _ hp)
    refine ⟨p.1, hh, p.2, vs, I'.base.keep p.1 p.2 g1 g2 (fun z => ?_) (fun z => ?_), d1, c1⟩
    · rcases List.mem_cons.mp (I3.stkSub _ z) with e | e
      · exact g3 e
      · exact g4 e
    · exact (f3 p.1 z).1.2.2.2.2.2 p (List.mem_append_left _ hp) rfl
  have pg := hg s3 (upd H2 D (.lst [])) s3.heap.objs.size (cellsFrom (s3.heap.objs.size + 1) scope.names (cloFrom X.env.cells scope.names [])) fp hotB
  have pt := ht s3 (upd H2 D (.lst [])) s3.heap.objs.size (cellsFrom (s3.heap.objs.size + 1) scope.names (cloFrom X.env.cells scope.names [])) fp
  have pe := he s3 (upd H2 D (.lst [])) s3.heap.objs.size (cellsFrom (s3.heap.objs.size + 1) scope.names (cloFrom X.env.cells scope.names [])) fp
  show codeAny _ _ (.compStart (.ListComp elt [⟨tg, iter, ifs, 0⟩] scope pos) 0 (.ref it) (.ref D) (compEnvC scope (cellsFrom (s3.heap.objs.size + 1) scope.names (cloFrom X.env.cells scope.names [])) s3.heap.objs.size X.env)) (compPost (model X.prog X.w) X.A X.xe use Qf (.ref D) s3.heap.objs.size) { s3 with heap := pushCells (s3.heap.push { cls := .type "dict", data := .dict #[] }) scope.names }
  have nfp : ∀ b ∈ fp, (upd H2 D (.lst [])) b = none := fun b hb => (f3 b hb).1.1
  generalize hce : compEnvC scope (cellsFrom (s3.heap.objs.size + 1) scope.names (cloFrom X.env.cells scope.names [])) s3.heap.objs.size X.env = ce at I4 pg pt pe hotB ⊢
  have cL : ce.locals = s3.heap.objs.size := by subst hce; rfl
  generalize hH3 : upd H2 D (.lst []) = H3 at I3 I4 pg pt pe w0 nfp f3 hotB
  generalize hs4 : ({ s3 with heap := pushCells (s3.heap.push { cls := .type "dict", data := .dict #[] }) scope.names } : Shared) = s4 at I4 ⊢
  have st4 : tn 0 s4.heap := T.keep _ _ _ st3 fun b _ o e => by rw [← hs4]; exact pushCells_keeps _ _ _ _ (Heap.get?_push_of_some _ e)
  have stat : ∀ {σ' : St} {H' : Hp} {s' : Shared}, Inv (X.blk s3 H3 scope ce fp) [] σ' H' s' → (∀ b ∈ fp, H' b = none) → ∀ b ∈ fp, FpOk (X.blk s3 H3 scope ce fp) [] H' b := fun {σ' H' s'} I' hn b hb =>
    ⟨hn b hb, (I'.ok.exf b hb).1, I'.ok.exfs b hb, .inl hb, fun x c e => (I'.ok.exf b hb).2 x c e, fun p hp => absurd (show p ∈ ([] : List (Addr × Obj)) ++ [] from hp) (by simp)⟩
  have loop : codeAny (model X.prog X.w) X.A (.compLoop (.ListComp elt [⟨tg, iter, ifs, 0⟩] scope pos) 0 (.ref it) (.ref D) ce) (compPost (model X.prog X.w) X.A X.xe use Qf (.ref D) s3.heap.objs.size) s4 := by
    refine compLoop_any (fun n s' => ∃ i H', Inv (X.blk s3 H3 scope ce fp) [] (wipe σ (own.map (·.2))) H' s' ∧ tn i s'.heap ∧ (∀ b ∈ fp, H' b = none) ∧ W i n H') ?_ m0 ⟨0, H3, I4, st4, nfp, w0⟩
    rintro n s5 ⟨i, H5, I5, st5, n5, w5⟩
    rcases turn i n H5 w5 with ⟨stop, qq⟩ | ⟨go, Nx, hNx, step⟩
    · have td := T.done (X.blk s3 H3 scope ce fp) rfl rfl rfl i [] s5 _ H5 (fun _ _ => False) (hotB _ _ _ _ I5) I5 (stat I5 n5) st5 stop
      refine thnF td fun r s6 ⟨hr, I6⟩ => ?_
      subst hr
      -- back in the def's context
      have I7 : Inv X pins σ H5 s6 := I3.call' (ch := fp) I6.os I6.base I6.hok I6.bare fun b hb => ⟨(f3 b hb).1.2.2.2.1, (f3 b hb).1.2.1, (f3 b hb).1.2.2.2.2.1, (f3 b hb).1.2.2.2.2.2⟩
      have nC : H5 s3.heap.objs.size = none := by
        have z : H5 ce.locals = none := I6.free
        rw [cL] at z
        exact z
      obtain ⟨m, hn, _⟩ := I6.loc
      have hn : s6.heap.Ns ce.locals m := hn
      rw [cL] at hn
      exact hRR D s3.heap.objs.size s6 m H5 I7 qq hn (I3.fpOk (Nat.le_refl _) nC)
    · have ti := T.item (X.blk s3 H3 scope ce fp) rfl rfl rfl i [] s5 _ H5 (fun _ _ => False) I5 (stat I5 n5) st5 go
      refine thnF ti fun r s6 ⟨u, hr, h6⟩ => ?_
      subst hr
      refine thnF h6 fun _ s7 ⟨x, H7, I7, r7, y7, st7, n7⟩ => ?_
      have I7' := I7.pinned (stat I7 n7) (T.obj _ _ st7)
      refine thnF (pg.run _ s7 _ H7 x u _ I7' r7 (step x H7 y7)) fun _ s8 ⟨σ8, H8, I8, hw8, q8⟩ => ?_
      refine thnF (pt.run _ s8 σ8 H8 _ I8 q8) fun b s9 ⟨H9, I9, q9⟩ => ?_
      -- the turn's end
      have fin : ∀ {s' : Shared} {H' : Hp}, Inv (X.blk s3 H3 scope ce fp) ([] ++ pinsAt fp s7.heap) σ8 H' s' → Nx H' → ∃ m, m < n ∧ ∃ i H', Inv (X.blk s3 H3 scope ce fp) [] (wipe σ (own.map (·.2))) H' s' ∧ tn i s'.heap ∧ (∀ b ∈ fp, H' b = none) ∧ W i m H' := fun {s' H'} I' nx => by
        obtain ⟨m', hm, w'⟩ := hNx H' nx
        have pin' : ∀ b ∈ fp, ∀ o, s7.heap.get? b = some o → s'.heap.get? b = some o ∧ H' b = none := fun b hb o e =>
          let z := I'.pin (b, o) (List.mem_append_right _ (List.mem_append_right _ (mem_pinsAt hb e)))
          ⟨z.1, z.2.1⟩
        have hl : (wipe σ (own.map (·.2))).length = σ8.length := by rw [← hw8, wipe_length]
        refine ⟨m', hm, i + 1, H', (I'.unpinned (pins := [])).weak hl (fun j v e => ?_), T.keep _ _ _ st7 fun b hb o e => (pin' b hb o e).1, fun b hb => ?_, w'⟩
        · rw [← hw8] at e
          exact (wipe_some e).1
        · obtain ⟨o, e, _⟩ := T.obj _ _ st7 b hb
          exact (pin' b hb o e).2
      cases b with
      | false =>
        simp only [Bool.false_eq_true, if_false] at q9 ⊢
        exact fin I9 q9
      | true =>
        simp only [if_true] at q9 ⊢
        refine thnF (pe.run _ s9 σ8 H9 _ I9 q9) fun z s10 ⟨yv, H10, I10, r10, acc, hD10, hz10, nx⟩ => ?_
        exact app_ok (X := X.blk s3 H3 scope ce fp) I10 hD10 hz10 r10 fun s11 I11 => fin I11 nx
  exact codeAny_compStart_list loop (T.self X.A 0 _ _ _ st4 loop)
end Bx

set_option Elab.async false
set_option linter.all false
set_option maxRecDepth 100000
set_option maxHeartbeats 4000000
namespace Bx
open PySem PySem.Spec L2 HotX
open PyProof.Rows hiding St
/-! ### a tuple unpacked while an exception is handled -/
section
variable {prog : Program} {w : World} {A : Around} {E : Value → Shared → Prop} {s : Shared}
theorem tnext_end_hot {it t x1 : Addr} {i : Nat} {items : Array Value} {Q : Option Value → Shared → Prop} (hot : HotAt A x1 s.heap) (hit : IsTupIter s.heap it t i) (ht : IsTup s.heap t items) (hx : items[i]? = none)
    (hQ : ∀ h', Heap.ExtBut it s.heap h' → Q none { s with heap := h' }) : wpAny (model prog w) A (pyNext (.ref it)) Q E s := by
  obtain ⟨o, ho, hc, hd⟩ := id hit
  have hne := hot_ne_iter hot ho hd
  obtain ⟨hh, o1, vs1, h1, d1, c1⟩ := hot
  obtain ⟨ol, hol, _, nl, hdl⟩ := ht
  unfold pyNext
  refine wpAny_bind (wpAny_attempt (wpAny_callSpecial?_slot (name := Str.ofString "__next__") hit.typeIs slot_tupleiter_next
    (wpAny_call_entry slot_tupleiter_next hit.typeIs entry_tupleiter_next ?_ (args_tupleiter_next _))))
  show wpAny _ _ (field (.ref it) 0 >>= _) _ _ s
  refine wpAny_bind (wpAny_field ho hd (x := .ref t) rfl ?_)
  show wpAny _ _ (if (Value.ref t == Value.none) = true then _ else _) _ _ s
  rw [if_neg (show ¬ ((Value.ref t == Value.none) = true) from Bool.false_ne_true)]
  show wpAny _ _ (field (.ref it) 1 >>= _) _ _ s
  refine wpAny_bind (wpAny_field ho hd (x := .int i 0) rfl ?_)
  show wpAny _ _ (seqItems? (.ref t) >>= _) _ _ s
  refine wpAny_bind (wpAny_seqItems hol hdl ?_)
  simp only [Int.toNat_natCast, hx]
  refine wpAny_bind (wpAny_rule (wpAny_bind (wpAny_setField ho hd (by simp) ?_)))
  show wpAny _ _ (newExc (.type "StopIteration") [] >>= _) _ _ _
  refine wpAny_bind ?_
  simp only [newExc, newTuple]
  refine wpAny_bind (wpAny_newObj_type ?_ (by size_fits))
  refine wpAny_bind (m := firstArgMember _ _) (wpAny_of_eq (a := Value.none) (by first | rfl | (simp only [firstArgMember]; rfl)) ?_)
  refine wpAny_newObj_type ?_ (by size_fits)
  have h1' := Heap.get?_update_other s.heap (Obj.mapFields (·.setIfInBounds 0 Value.none)) (Ne.symm hne)
  rw [h1] at h1'
  refine raiseNew_hot ⟨hh, o1, vs1, Heap.get?_push_of_some _ (Heap.get?_push_of_some _ h1'), d1, c1⟩ (Nat.ne_of_lt (Heap.lt_size (Heap.get?_push_of_some _ h1'))) (Heap.get?_push_size _ rfl) rfl (by first | (simp; done) | (simp; omega) | (simp only [Array.size_append]; simp; omega)) ?_
  refine wpAny_bind (wpAny_isInstance (T := "StopIteration") (b := true) ⟨_, Heap.get?_update_self _ (Heap.get?_push_size _ rfl) rfl, rfl⟩ isSubtype_stop ?_)
  refine wpAny_pure (hQ _ fun b ob hb e => ?_)
  have e1 := (Heap.get?_update_other s.heap (Obj.mapFields (·.setIfInBounds 0 Value.none)) (Ne.symm hb)).trans e
  rw [Heap.get?_update_other _ _ (Nat.ne_of_gt (Heap.lt_size (Heap.get?_push_of_some _ e1)))]
  exact Heap.get?_push_of_some _ (Heap.get?_push_of_some _ e1)
theorem unpackItems_hot {t x1 : Addr} {items : Array Value} {Q : List Value → Shared → Prop} (hot : HotAt A x1 s.heap) (ht : IsTup s.heap t items)
    (hQ : ∀ h', Heap.ExtBut s.heap.objs.size s.heap h' → Q items.toList { s with heap := h' }) : wpAny (model prog w) A (unpackItems (.ref t) items.size none) Q E s := by
  have hlt : t ≠ s.heap.objs.size := by obtain ⟨o, ho, _⟩ := ht; exact Nat.ne_of_lt (Heap.lt_size ho)
  have nx : x1 ≠ s.heap.objs.size := by obtain ⟨_, o, _, ho, _⟩ := hot; exact Nat.ne_of_lt (Heap.lt_size ho)
  obtain ⟨hh, o1, vs1, g1, d1, c1⟩ := hot
  unfold unpackItems notIterableAtAll
  refine wpAny_bind (wpAny_bind (wpAny_specialOf ht.typeIs slot_tuple_iter.lookup (wpAny_pure ?_)))
  simp only [Bool.false_eq_true, if_false]
  refine wpAny_bind (wpAny_holding (iter_tuple ht (wpAny_bind (wpAny_holding (draw_tuple hlt items.size 0 _ _ ⟨_, Heap.get?_push_size _ rfl, rfl, rfl⟩ (ht.push _) (by omega) fun g it1 s1 => ?_)))))
  have hall : List.take items.size (List.drop 0 items.toList) = items.toList := by rw [List.drop_zero]; exact List.take_of_length_le (by simp)
  rw [hall, if_neg (by simp)]
  refine wpAny_bind (wpAny_holding (tnext_end_hot ⟨hh, o1, vs1, s1.extBut x1 o1 nx (Heap.get?_push_of_some _ g1), d1, c1⟩ it1 ((ht.push _).extBut s1.extBut hlt) (by simp) fun g2 e2 => ?_))
  simp only [Option.isSome_none, Bool.false_eq_true, if_false]
  exact wpAny_pure (hQ g2 fun b o hb e => e2 b o hb (s1.extBut b o hb (Heap.get?_push_of_some _ e)))
theorem assign_tuple_hot {env : Env} {elts : List Expr} {x0 x1} {pos : Pos} {t : Addr} {items : Array Value} {Q : Unit → Shared → Prop} (hot : HotAt A x1 s.heap) (ht : IsTup s.heap t items)
    (hn : (assignEach elts env).length = items.size) (hstar : (assignEach elts env).findIdx? (·.1) = none)
    (h : ∀ h', Heap.ExtBut s.heap.objs.size s.heap h' → wpAny (model prog w) A (assignInOrder ((assignEach elts env).map (·.2)) items.toList) Q E { s with heap := h' }) :
    wpAny (model prog w) A (assign (.Tuple elts x0 pos) env (.ref t)) Q E s := by
  rw [assign_Tuple]
  refine wpAny_bind (wpAny_standAt ?_)
  unfold unpack
  rw [hn, hstar]
  exact wpAny_bind (wpAny_holding (unpackItems_hot hot ht h))
end
section
variable {X : Cx} {pos : Pos}
/-- (a, b, ..) = v, an exception being handled -/
theorem pg_tupH {es : List Expr} {k : Nat} {t : TGs} {n : Nat} (hot : ∀ (pins : List (Addr × Obj)) (s : Shared) (σ : L2.St) (H : Hp), Inv X pins σ H s → ∃ x1, HotAt X.A x1 s.heap) (h : PGs X es t)
    (hn : (assignEach es X.env).length = n := by rfl) (hst : (assignEach es X.env).findIdx? (·.1) = none := by rfl) : PG X (.Tuple es k pos) (gTup X.K n t) := by
  refine ⟨fun pins s σ H v u Q I r ⟨a, xs, e1, hq, hl, hw⟩ => ?_⟩
  subst e1
  cases r
  obtain ⟨its, rv, ht, hz⟩ := I.tuple hq
  obtain ⟨x1, hx⟩ := hot pins s σ H I
  refine assign_tuple_hot hx ht (by simp [hn, ← hl, rv.length]) hst fun h' hx => ?_
  have I1 : Inv X pins σ H { s with heap := h' } := I.kept (t' := s.toks) fun b o e => hx b o (Nat.ne_of_lt (Heap.lt_size e)) e
  exact h.run pins _ σ H xs _ Q I1 (by simpa using rv) hw
theorem pi_zipZ {e e2 : Expr} {ta : TA} {p pos tpos : Pos} {elts : List Expr} {kk : Nat} (hg : Gl X "zip") (hm : X.mg "zip" = none) (ha : PA X [e, e2] ta)
    (hs : starEach [e, e2] X.env = (false, eval e X.env) :: starEach [e2] X.env := by rfl) (hpl : (backTo pos (starEach [e2] X.env)).any (·.1) = false := by rfl) :
    PIZ X (.Tuple elts kk tpos) (.Call (.Name "zip" p) [e, e2] [] pos) (iZip X.K ta) := by
  refine ⟨fun pins s σ H R I h => ?_⟩
  refine Call_ (ld_blt I hg hm PyProof.Rows.boot_zip (PyProof.Rows.callWith_type1 (thn (ha.run pos pins s σ H _ I h) fun us s1 ⟨vs, H1, I1, r1, q1⟩ => ?_) hs hpl))
  obtain ⟨a, b, xs, ys, ex, hqx, hqy, q⟩ := q1
  subst ex
  cases r1 with
  | cons r rr =>
    cases rr with
    | cons r' rr =>
      cases rr
      cases r
      cases r'
      obtain ⟨its, rv, p1, _⟩ := I1.list hqx
      obtain ⟨its2, rv2, p2, _⟩ := I1.list hqy
      have la : a < s1.heap.objs.size := p1.lt
      have lb : b < s1.heap.objs.size := p2.lt
      refine call_zip_2 p1.isList p2.isList fun h' hz hTI hTO h1 h2 hsz hk => wpAny_pyIter_zip hz ?_
      have I2 : Inv X pins σ H1 { s1 with heap := h' } := I1.kept (t' := s1.toks) hk
      refine ⟨s1.heap.objs.size + 4, [s1.heap.objs.size + 4, s1.heap.objs.size + 2, s1.heap.objs.size + 3, s1.heap.objs.size, s1.heap.objs.size + 1], _, _, H1, rfl, I2, turn_zipH (PySem.W.ktu_apart s1.heap.objs.size a b la lb), ⟨hz, hTI, ⟨_, _, hTO⟩, h1, h2⟩, fun c hcm => ?_, q⟩
      have e' : c = s1.heap.objs.size + 4 ∨ c = s1.heap.objs.size + 2 ∨ c = s1.heap.objs.size + 3 ∨ c = s1.heap.objs.size ∨ c = s1.heap.objs.size + 1 := by simpa using hcm
      have hle : s1.heap.objs.size ≤ c := by
        rcases e' with z | z | z | z | z
        · rw [z]; exact Nat.le_add_right _ _
        · rw [z]; exact Nat.le_add_right _ _
        · rw [z]; exact Nat.le_add_right _ _
        · rw [z]; exact Nat.le_refl _
        · rw [z]; exact Nat.le_add_right _ _
      exact I1.fpOk hle (I1.hok.fresh hle)
theorem pe_lcz {elt tg iter : Expr} {ifs : List Expr} {scope : Scope} {own : List (Str × Nat)} {wi : TI} {g : TG} {tt : TT} {te : TE} (hc : ∃ p : Addr × Obj, p ∈ X.pn ∧ X.A.handled = some (.ref p.1) ∧ ∃ vs : Array Value, p.2.data = .fields vs ∧ vs[2]? = some .none) (hN : X.N.Nodup) (hi : PIZ X tg iter wi) (ok : BlkOk X.N X.env.scope scope own)
    (hg : ∀ (s : Shared) (H : Hp) (C : Addr) (cl : List (Str × Addr)) (fp : List Addr), (∀ (pins' : List (Addr × Obj)) (s' : Shared) (σ' : L2.St) (H' : Hp), Inv (X.blk s H scope (compEnvC scope cl C X.env) fp) pins' σ' H' s' → ∃ x1, HotAt X.A x1 s'.heap) → PG (X.blk s H scope (compEnvC scope cl C X.env) fp) tg g)
    (ht : ∀ (s : Shared) (H : Hp) (C : Addr) (cl : List (Str × Addr)) (fp : List Addr), PTs (X.blk s H scope (compEnvC scope cl C X.env) fp) ifs tt)
    (he : ∀ (s : Shared) (H : Hp) (C : Addr) (cl : List (Str × Addr)) (fp : List Addr), PE (X.blk s H scope (compEnvC scope cl C X.env) fp) elt te) (hs : ∀ x, foldedSetIterable iter X.env x = pure x := by intro _; rfl) :
    PE X (.ListComp elt [⟨tg, iter, ifs, 0⟩] scope pos) (tLc wi g tt te (own.map (·.2))) := by
  refine ⟨fun pins s σ H Q I h => ?_⟩
  rw [eval_ListComp]
  refine lcz_core hc hN I hi ok hg ht he hs h fun D C s' m H' I' q hn f => ⟨m, hn, fun h'' sb => ?_⟩
  obtain ⟨f0, f1, f2, f3, f4, f5⟩ := f
  exact ⟨.ref D, H', I'.turned (t' := s'.toks) (fun b o hb e => (sb.2 b hb).trans e) f0 f1 f3 f4 f5, rfl, q⟩
end
end Bx

set_option Elab.async false
set_option linter.all false
set_option maxRecDepth 100000
set_option maxHeartbeats 4000000
namespace Bx
open PySem PySem.Spec L2 HotX L2H
open PyProof.Rows hiding St
/-! ### a def handed the exception that is being handled -/
/-- e: an exception of the own class at D, in the air no more -/
structure FnE (P : Program) (w : World) (K : PySem.W.Frag) (mg : Str → Option Value) (base : Heap) (CX : CXT) (k : Nat) (f : Addr) (fd : FuncData) (ps : List Str) (D : Addr) (sp : Hp → VK → XK → Prop) : Prop where
  one : ps.length = 1
  run : ∀ (A : Around) (outer : List Env) (s : Shared) (H : Hp) (Q : VK) (E : XK) (p : Addr × Obj), RoomH k A → Hot1 A p → PinOk outer H s p → Zc (.ref D) none p.2 → Env0 P w K mg base A outer s H → BindsTo s fd ⟨[.ref p.1], []⟩ (ps.zip [.ref p.1]) → sp H Q E →
    codeAny (model P w) A (.call (.ref f) ⟨[.ref p.1], []⟩) (CR CX outer P w H s Q E) s
theorem fnE_of {CX : CXT} {P : Program} {w : World} {K : PySem.W.Frag} {mg : Str → Option Value} {base : Heap} {k : Nat} {f D : Addr} {name qual : Str} {params : Arguments} {body : List Stmt} {scope : Scope} {dV kV doc pm cdv ct oc : Value} {an od : Option Addr}
    {osl : Array (Option Value)} {N ps : List Str} {sp : Hp → VK → XK → Prop} (lk : K.lookup f = some ⟨oc, od, .func (PySem.W.fnOf name qual params body scope dV kV doc pm an cdv ct), osl⟩) (hcd : PySem.W.codeIn K cdv qual = true) (S : FnScope N ps scope) (one : ps.length = 1)
    (hbody : ∀ (A : Around) (outer : List Env) (s : Shared) (H : Hp) (Q : VK) (E : XK) (p : Addr × Obj), Hot1 A p → Zc (.ref D) none p.2 → RoomH k (A.deeper (envOfC qual scope s.heap.objs.size f cdv)) → sp H Q E →
      ∃ t, PSs (cxH CX P w K mg base N qual scope f cdv A outer s H E p) body t ∧ t { nx := fun _ H' => Q .non H', rt := Q } (L2.start N [.ref p.1]) H) :
    FnE P w K mg base CX (k + 1) f (PySem.W.fnOf name qual params body scope dV kV doc pm an cdv ct) ps D sp := by
  refine ⟨one, fun A outer s H Q E p hr hot hpin hz e0 hb hsp => ?_⟩
  have KX : K.In s.heap := e0.mod.kin.keeps fun b o e => (e0.bs b o e).1
  have lim : s.heap.NoLimit := e0.mod.nolimit.keeps fun b o e => (e0.bs b o e).1
  have hkind : ∀ y ∈ ps.zip [Value.ref p.1], scope.names.lookup y.1 = some .local ∨ (scope.names.lookup y.1 = some .cell ∧ ((cellsFrom (s.heap.objs.size + 1) scope.names []).lookup y.1).isSome = true) := fun ⟨n, v⟩ hy => by
    rcases S.par n (List.of_mem_zip hy).1 with q | q
    · exact .inl q
    · exact .inr ⟨q, PySem.W.cellsFrom_some _ _ _ (.inl q)⟩
  refine codeAny_call_function hr.depth (KX _ _ lk) rfl S.co S.gen rfl (PySem.W.codeRec_of KX hcd) (hb _ _ _ _ ?_)
  refine wpAny_newFunctionEnv_cells S.kind hkind fun env he s1 x => ?_
  subst he
  refine ⟨lim.keeps x.toInCall.keep, codeAny_func ?_⟩
  obtain ⟨t, ht, hq⟩ := hbody A outer s H Q E p hot hz (hr.deeper _) hsp
  have I : Inv (cxH CX P w K mg base N qual scope f cdv A outer s H E p) [] (L2.start N [.ref p.1]) H s1 := inv_startH S hpin e0 (by rw [one]; rfl) (.cons rfl .nil) x
  refine wpAny_mono (ht.run [] s1 (L2.start N [.ref p.1]) H _ I hq) (fun fl s' hs => ?_) fun e s' hs => hs
  have fin : ∀ {σ' : L2.St} {H' : Hp} {v : V} {u : Value}, Inv (cxH CX P w K mg base N qual scope f cdv A outer s H E p) [] σ' H' s' → RelV v u → Q v H' → CE outer P w H s Q u s' :=
    fun {σ' H' v u} J rv q => ⟨v, H', J.os, J.bare, J.base, J.hok, rv, q⟩
  cases fl with
  | ret u => obtain ⟨v, σ', H', J, rv, q⟩ := hs; exact fin J rv q
  | next => obtain ⟨σ', H', J, q⟩ := hs; exact fin (v := V.non) (u := Value.none) J rfl q
  | brk => obtain ⟨_, _, _, q⟩ := hs; exact False.elim q
  | cont => obtain ⟨_, _, _, q⟩ := hs; exact False.elim q
/-- isinstance(e, c), e the exception that the context bears -/
theorem call_isP {X : Cx} {D : Addr} {p : Addr × Obj} (C : ExcC X.K D) (hz : Zc (.ref D) none p.2) (hf : ∃ vs, p.2.data = .fields vs) (hp : p ∈ X.pn) : CallR X (.builtin "isinstance") (rIsE X.K D p.1) := by
  intro pins s σ H xs us Q I r h
  obtain ⟨c, cv, b, rfl, hcv, e, q⟩ := h
  cases r with
  | cons rx rr =>
    cases rr with
    | cons rt rr =>
      cases rr
      cases rx
      have ec := hcv _ rt
      subst ec
      obtain ⟨hget, _⟩ := I.pin p (List.mem_append_left _ hp)
      obtain ⟨vs, hv⟩ := hf
      have J : PySem.W.InstAt s.heap p.1 p.2 D none := by
        obtain ⟨a, oc, od, oda, osl⟩ := p
        obtain ⟨h1, h2⟩ := hz
        dsimp only at h1 h2 hv
        subst h1 h2 hv
        exact ⟨hget, rfl, rfl, trivial⟩
      exact PySem.W.kia_one (PySem.W.handS_kitx_exc C.hg C.hk C.hs C.hd C.ha C.hn C.ht C.hm) I.kIn J e (fun z => nomatch z) fun tk => ⟨.bl b, H, I.kept (t' := tk) fun _ _ z => z, rfl, q⟩
/-- the call of such a def in the suite -/
theorem run_fnE {X : Cx} {CX : CXT} {k : Nat} {f D : Addr} {fd : FuncData} {ps : List Str} {sp : Hp → VK → XK → Prop} {E : L2.St → XK} {pins : List (Addr × Obj)} {σ : L2.St} {H : Hp} {s : Shared} {Q : VK} {p : Addr × Obj} (F : FnE X.prog X.w X.K X.mg X.base CX k f fd ps D sp) (hr : RoomH k X.A)
    (hot : Hot1 X.A p) (hz : Zc (.ref D) none p.2) (hp : p ∈ X.pn) (hb : Binds X.K fd ps []) (hx : PassesAt CX X σ (E σ)) (I : Inv X pins σ H s) (h : sp H Q (E σ)) : wpAny (model X.prog X.w) X.A (call (.ref f) [.ref p.1]) (EP X pins σ Q) X.xe s := by
  have b := hb s [.ref p.1] I.kIn (by rw [List.append_nil, F.one]; rfl)
  rw [List.append_nil] at b
  have P1 := I.pin p (List.mem_append_left _ hp)
  have hpin : PinOk X.stack H s p := ⟨P1.1, P1.2.1, fun hm => (List.mem_cons.mp (I.stkSub p.1 hm)).elim P1.2.2.1 P1.2.2.2.1, P1.2.2.2.2⟩
  refine wpAny_call (codeAny_mono (F.run X.A X.stack s H Q (E σ) p hr hot hpin hz I.env0 b h) fun r s' hq => ?_)
  cases r with
  | error e => exact hx pins H s e s' I hq
  | ok fl =>
    cases fl with
    | ret u => exact I.after hq
    | next => exact False.elim hq
    | brk => exact False.elim hq
    | cont => exact False.elim hq
end Bx

set_option Elab.async false
set_option linter.all false
set_option maxRecDepth 100000
set_option maxHeartbeats 4000000
namespace Bx
open PySem PySem.Spec L2
open PyProof.Rows hiding St
/-! ### a.split(b), a.join(list of texts) -/
def strsD : List D → Option (List Str)
  | [] => some []
  | .str x :: ds => (match strsD ds with | some xs => some (x :: xs) | none => none)
  | _ :: _ => none
theorem strsD_map : ∀ xs : List Str, strsD (xs.map D.str) = some xs
  | [] => rfl
  | x :: xs => by show (match strsD (xs.map D.str) with | some xs => some (x :: xs) | none => none) = _; rw [strsD_map xs]
theorem strsD_rep {K : PySem.W.Frag} {B : Addr → Prop} {H : Hp} : ∀ {vs : List V} {ds : List D} {xs : List Str}, RepAll K B H vs ds → strsD ds = some xs → vs = xs.map V.str
  | _, [], _, h, e => by cases h; cases e; rfl
  | _, .str x :: ds, xs, h, e => by
    cases h with
    | cons h1 h2 =>
      have e : (match strsD ds with | some xs => some (x :: xs) | none => none) = some xs := e
      cases hd : strsD ds with
      | none => rw [hd] at e; cases e
      | some js => rw [hd] at e; cases e; cases h1; rw [strsD_rep h2 hd]; rfl
  | _, .non :: _, _, _, e => by cases e
  | _, .bl _ :: _, _, _, e => by cases e
  | _, .int _ :: _, _, _, e => by cases e
  | _, .tup _ :: _, _, _, e => by cases e
  | _, .lst _ :: _, _, _, e => by cases e
  | _, .fro _ :: _, _, _, e => by cases e
  | _, .ref _ :: _, _, _, e => by cases e
theorem repAll_strs {K : PySem.W.Frag} {B : Addr → Prop} {H : Hp} : ∀ xs : List Str, RepAll K B H (xs.map V.str) (xs.map D.str)
  | [] => .nil
  | _ :: xs => .cons (.str _) (repAll_strs xs)
section
variable {X : Cx} {E : XK} {k : Nat} {o e : Expr} {wo wa : DTE} {apos pos : Pos}
def wM1 (r : Str → D → Mem → DK → Prop) (wo wa : DTE) : DTE := fun δ M Q => wo δ M fun x M1 => match x with | .str a => wa δ M1 fun y M2 => r a y M2 Q | _ => False
theorem lift_m1 {K : PySem.W.Frag} {r : V → List V → Hp → VK → Prop} {w : Str → D → Mem → DK → Prop}
    (ok : ∀ F M H a y d (Q : DK) (Q' : VK), Wd K F M H → Rep K (Bar F M) H y d → w a d M Q → (∀ v H' d M', Rep K (Bar F M') H' v d → Wd K F M' H' → Ext F M H M' H' → Q d M' → Q' v H') → r (.str a) [y] H Q')
    {σ : L2.St} {H : Hp} {Q' : VK} (h : liftE K E (wM1 w wo wa) σ H Q') : tM1 r (liftE K E wo) (liftE K E wa) σ H Q' := by
  obtain ⟨F, δ, M, Q, sm, lx, hw, lk⟩ := h
  refine ⟨F, δ, M, _, sm, lx, hw, fun v H1 d M1 r1 w1 e1 q1 => ?_⟩
  cases d with
  | str a =>
    cases r1
    refine ⟨⟨a, rfl⟩, F, δ, M1, _, sm.ext w1 e1, lx.ext w1 e1, q1, fun u H2 d2 M2 r2 w2 e2 q2 => ?_⟩
    exact ok F M2 H2 a u d2 Q Q' w2 r2 q2 fun v' H' d' M' r3 w3 e3 q3 => lk v' H' d' M' r3 w3 (Ext.trans w1 e1 (Ext.trans w2 e2 e3)) q3
  | _ => exact (show False from q1).elim
def wSplit : DTE → DTE → DTE := wM1 fun a y M Q => match y with | .str b => ((b.length == 0) = false ∧ a.length + 2 ≤ sizeLine) ∧ Q (.lst ((Txt.split a b).map D.str)) M | _ => False
theorem de_split (ho : DE X E o wo) (ha : DE X E e wa) (hs : starEach [e] X.env = [(false, eval e X.env)] := by rfl) (hbase : attributeBase o "split" X.env (eval o X.env) = eval o X.env := by rfl) (hline : (apos.endLine == pos.line) = true := by rfl) :
    DE X E (.Call (.Attribute o "split" apos) [e] [] pos) (wSplit wo wa) := by
  refine pe_mono (pe_split ho ha hs hbase hline) fun σ H Q' h => lift_m1 (fun F M H a y d Q Q' wd r hw lk => ?_) h
  cases d with
  | str b =>
    cases r
    exact ⟨a, b, rfl, rfl, hw.1.1, hw.1.2, fun p hp => lk _ _ _ M (.newLst wd hp (repAll_strs _)) (wd.laid hp) (ext_laid hp) hw.2⟩
  | _ => exact (show False from hw).elim
def wJoin : DTE → DTE → DTE := wM1 fun a y M Q => onO (sq M y) fun ds => onO (strsD ds) fun ys => (ys.map (·.length)).sum + ys.length * a.length ≤ 16777216 ∧ Q (.str (Txt.join a ys)) M
theorem de_join (ho : DE X E o wo) (ha : DE X E e wa) (hs : starEach [e] X.env = [(false, eval e X.env)] := by rfl) (hbase : attributeBase o "join" X.env (eval o X.env) = eval o X.env := by rfl) (hline : (apos.endLine == pos.line) = true := by rfl) :
    DE X E (.Call (.Attribute o "join" apos) [e] [] pos) (wJoin wo wa) := by
  refine pe_mono (pe_join ho ha hs hbase hline) fun σ H Q' h => lift_m1 (fun F M H a y d Q Q' wd r hw lk => ?_) h
  obtain ⟨ds, h1, hw⟩ := onO_e hw
  obtain ⟨ys, h2, hw⟩ := onO_e hw
  obtain ⟨p, xs, rfl, hq, ra⟩ := r.sq wd h1
  have ex := strsD_rep ra h2
  subst ex
  exact ⟨a, p, ys, rfl, rfl, hq, hw.1, lk _ H _ M (.str _) wd (.refl _ _ _) hw.2⟩
end
end Bx

set_option Elab.async false
set_option linter.all false
set_option maxRecDepth 100000
set_option maxHeartbeats 4000000
namespace Bx
open PySem PySem.Spec L2 LamX NdefX
open PyProof.Rows hiding St

/-! ### lambdas made -/
def LF.nf (F : LF) : NF := ⟨"<lambda>", F.qual, F.params, [], F.scope, F.cl, F.c⟩
theorem lamO_at {P : Program} {w : World} {H : Hp} {h : Heap} {f : Addr} {F : LF} (hok : HOk P w H h) (e : H f = some (LamO f F)) :
    ∃ pm ctv : Value, h.get? f = some (PySem.W.kla_obj "<lambda>" F.qual F.params F.body F.scope F.cl pm F.c ctv) := by
  obtain ⟨z, _, _⟩ := hok f _ e
  exact z
/-- a lambda was made: f is new, the table at P may have one code object more -/
structure LamMd (P : Addr) (nm : Nat → Nat → Str) (F : LF) (H : Hp) (ps : Array Value) (f : Addr) (H1 : Hp) : Prop where
  keep : ∀ b o, H b = some o → b ≠ P → H1 b = some o
  new : H f = none
  at_ : H1 f = some (LamO f F)
  code : H1 F.c = some (CodeO F.c F.qual)
  tab : ∃ ps' : Array Value, H1 P = some (.tbl ps') ∧ TriplesOk ps'.toList ∧ ∀ (pos : Pos) (cv : Value), codeAmong pos ps'.toList = some cv → codeAmong pos ps.toList = some cv ∨ (cv = .ref F.c ∧ nm pos.line pos.col = F.qual)
  old : H F.c = none ∨ ∃ pos : Pos, codeAmong pos ps.toList = some (.ref F.c)
  ne : f ≠ F.c
section
variable {X : Cx} {pins : List (Addr × Obj)} {σ : L2.St} {H : Hp} {s : Shared}
theorem inv_lam {F : LF} {o : Obj} {t' : Nat} {pm ctv : Value} (I : Inv X pins σ H s) (ho : o = PySem.W.kla_obj "<lambda>" F.qual F.params F.body F.scope F.cl pm F.c ctv) :
    Inv X pins σ (upd H s.heap.objs.size (LamO s.heap.objs.size F)) { s with heap := s.heap.push o, toks := t' } := by
  subst ho
  refine I.laid (a := s.heap.objs.size) (fun b u e => Heap.get?_push_of_some _ e) (Nat.le_refl _) ?_
  have e : (s.heap.push (PySem.W.kla_obj "<lambda>" F.qual F.params F.body F.scope F.cl pm F.c ctv)).get? s.heap.objs.size = some (PySem.W.kla_obj "<lambda>" F.qual F.params F.body F.scope F.cl pm F.c ctv) := Heap.get?_push_size _ rfl
  exact ⟨⟨pm, ctv, e⟩, ⟨_, e⟩, fun h1 h2 ⟨p, t, z⟩ st => ⟨p, t, st _ z⟩⟩
theorem lam_make3 {nm : Nat → Nat → Str} {c P : Addr} {params : Arguments} {body : Expr} {scope : Scope} {pos : Pos} {E : Value → Shared → Prop} {Q : Value → Shared → Prop} {ps : Array Value} (I : Inv X pins σ H s) (TB : TabB X.base X.mg c P) (hcode : X.env.code = .ref c)
    (hn : nm pos.line pos.col = X.env.qual ++ "<lambda>") (hP : H P = some (.tbl ps)) (ht : TriplesOk ps.toList) (ha : ∀ (pos : Pos) (cv : Value), codeAmong pos ps.toList = some cv → ∃ c, cv = .ref c ∧ H c = some (CodeO c (nm pos.line pos.col)))
    (hdef : defaultsOf params X.env = ([], [])) (hfree : ∀ y ∈ scope.names, y.2 = .free → ∃ c, X.env.cells.lookup y.1 = some c)
    (h : ∀ (f c' : Addr) (H1 : Hp) (s' : Shared), Inv X pins σ H1 s' → LamMd P nm ⟨X.env.qual ++ "<lambda>", params, body, scope, cloFrom X.env.cells scope.names [], c'⟩ H ps f H1 → Q (.ref f) s') :
    wpAny (model X.prog X.w) X.A (eval (.Lambda params body scope pos) X.env) Q E s := by
  refine PySem.W.kla_eval hdef ?_
  have bP : s.heap.BuiltinsAt X.mg P := TB.bm.keeps I.bk
  have hP' : s.heap.get? P = some { cls := .none, data := .fields ps } := I.hok P _ hP
  cases hc : codeAmong pos ps.toList with
  | none =>
    refine PySem.W.kla_makeFunction (mg := X.mg) (c := c) (P := P) (ps := ps) (closure_ok hfree) I.ok.glob (I.mod.glob.keeps I.bk) hcode (TB.code.keeps I.bk) hP' ht hc TB.gP bP fun c' ctv h' tk hx hge hlt hrec htb => ?_
    obtain ⟨c2, oc, vs, t, e2, hoc, hd, hv⟩ := hrec
    cases e2
    have nC : H c' = none := I.hok.fresh hge
    have I1 := inv_table (t' := tk) (more := #[rawInt pos.line, rawInt pos.col, .ref c']) (h' := h') I hP (fun b o hb e => hx b o hb e) htb hge ⟨oc, vs, t, hoc, hd, hv⟩
    have eL : (ps ++ #[rawInt pos.line, rawInt pos.col, .ref c']).toList = ps.toList ++ [rawInt pos.line, rawInt pos.col, .ref c'] := by simp
    have nF := I1.hok.fresh (Nat.le_refl _)
    have nF0 : H h'.objs.size = none := I.hok.fresh (Nat.le_trans hge (Nat.le_of_lt hlt))
    have I2 := inv_lam (F := ⟨X.env.qual ++ "<lambda>", params, body, scope, cloFrom X.env.cells scope.names [], c'⟩) (t' := tk) (pm := (X.mg "__name__").getD .none) (ctv := ctv) I1 rfl
    have nPs : P ≠ h'.objs.size := ne_of_none hP nF0
    refine h h'.objs.size c' _ _ I2 ⟨fun b o e n => ?_, nF0, upd_same, ?_, ⟨ps ++ #[rawInt pos.line, rawInt pos.col, .ref c'], ?_, ?_, fun p' cv hcv => ?_⟩, .inl nC, Nat.ne_of_gt hlt⟩
    · rw [upd_ne (ne_of_none e nF0), upd_ne (ne_of_none e nC), upd_ne n]; exact e
    · exact (upd_ne (Nat.ne_of_lt hlt)).trans upd_same
    · rw [upd_ne nPs, upd_ne (ne_of_none hP nC), upd_same]
    · rw [eL]; exact PySem.TriplesOk_snoc _ _ _ _ ht
    · rw [eL] at hcv
      rcases among_app2 _ ht hcv with z | ⟨z, z1, z2⟩
      · exact .inl z
      · exact .inr ⟨z, by rw [← z1, ← z2]; exact hn⟩
  | some cv =>
    obtain ⟨c', e, hco⟩ := ha pos cv hc
    subst e
    rw [hn] at hco
    refine PySem.W.kla_makeFunctionHit (mg := X.mg) (c := c) (P := P) (ps := ps) (closure_ok hfree) I.ok.glob (I.mod.glob.keeps I.bk) hcode (TB.code.keeps I.bk) hP' ht hc bP fun ctv h' tk hx hsz => ?_
    have I1 : Inv X pins σ H { s with heap := h', toks := tk } := I.kept hx
    have nF : H h'.objs.size = none := I1.hok.fresh (Nat.le_refl _)
    have I2 := inv_lam (F := ⟨X.env.qual ++ "<lambda>", params, body, scope, cloFrom X.env.cells scope.names [], c'⟩) (t' := tk) (pm := (X.mg "__name__").getD .none) (ctv := ctv) I1 rfl
    refine h h'.objs.size c' _ _ I2 ⟨fun b o e n => ?_, nF, upd_same, ?_, ⟨ps, ?_, ht, fun p' cv hcv => .inl hcv⟩, .inr ⟨pos, hc⟩, Ne.symm (ne_of_none hco nF)⟩
    · rw [upd_ne (ne_of_none e nF)]; exact e
    · exact (upd_ne (ne_of_none hco nF)).trans hco
    · rw [upd_ne (ne_of_none hP nF)]; exact hP
end
/-- the reading of a lambda -/
def tLamE (P : Addr) (nm : Nat → Nat → Str) (mkF : Addr → LF) : TE := fun σ H Q => ∃ ps : Array Value, H P = some (.tbl ps) ∧ TriplesOk ps.toList ∧ (∀ (pos : Pos) (cv : Value), codeAmong pos ps.toList = some cv → ∃ c, cv = .ref c ∧ H c = some (CodeO c (nm pos.line pos.col))) ∧
  ∀ (f c' : Addr) (H1 : Hp), LamMd P nm (mkF c') H ps f H1 → Q (.ref f) H1
theorem pe_lamE {X : Cx} {nm : Nat → Nat → Str} {c P : Addr} {params : Arguments} {body : Expr} {scope : Scope} {pos : Pos} (TB : TabB X.base X.mg c P) (hcode : X.env.code = .ref c) (hn : nm pos.line pos.col = X.env.qual ++ "<lambda>") (hdef : defaultsOf params X.env = ([], []))
    (hfree : ∀ y ∈ scope.names, y.2 = .free → X.env.scope.names.lookup y.1 = some .cell ∨ X.env.scope.names.lookup y.1 = some .free) :
    PE X (.Lambda params body scope pos) (tLamE P nm fun c' => ⟨X.env.qual ++ "<lambda>", params, body, scope, cloFrom X.env.cells scope.names [], c'⟩) := by
  refine ⟨fun pins s σ H Q I ⟨ps, hP, ht, ha, h⟩ => ?_⟩
  exact lam_make3 I TB hcode hn hP ht ha hdef (fun y hy e => (hfree y hy e).elim (fun z => I.ok.has _ (.inl z)) fun z => I.ok.has _ (.inr z)) fun f c' H1 s' I1 md => ⟨.ref f, H1, I1, rfl, h f c' H1 md⟩
/-- the memory behind it -/
theorem wd_lam {K : PySem.W.Frag} {F : Addr → Prop} {M : Mem} {H H1 : Hp} {P f : Addr} {nm : Nat → Nat → Str} {Fn : LF} {ps : Array Value} {σ : L2.St} {s : List (Option D)} (w : Wd K F M H) (hM : M P = some (.tab nm)) (hps : H P = some (.tbl ps)) (rs : RepS K (Bar F M) H σ s) (m : LamMd P nm Fn H ps f H1) :
    M f = none ∧ Wd K F (updM M f (.clo ⟨Fn, σ⟩ s)) H1 ∧ Ext F M H (updM M f (.clo ⟨Fn, σ⟩ s)) H1 := by
  have hf : M f = none := w.noM m.new
  have fP : P ≠ f := ne_of_none hps m.new
  have hPF : ¬ F P := w.nf hM
  have e : Ext F M H (updM M f (.clo ⟨Fn, σ⟩ s)) H1 := by
    refine ⟨fun a o h q => m.keep a o h fun z => ?_, fun a o h => ?_⟩
    · subst z
      rcases q with q | q
      · exact hPF q
      · rw [hM] at q; cases q
    · by_cases z : a = f
      · subst z; exact .inr m.new
      · rw [updM_ne z] at h; exact .inl ⟨o, h⟩
  have unb : ∀ c, ¬ Bar F M c → c ≠ f → ¬ Bar F (updM M f (.clo ⟨Fn, σ⟩ s)) c := fun c n z => by
    rintro (q | ⟨o, q⟩)
    · exact n (.inl q)
    · rw [updM_ne z] at q; exact n (.inr ⟨o, q⟩)
  obtain ⟨ps0, h0, ht, ha⟩ := w.mem P _ hM
  rw [hps] at h0
  cases h0
  have uc : ¬ Bar F (updM M f (.clo ⟨Fn, σ⟩ s)) Fn.c := by
    refine unb _ ?_ (Ne.symm m.ne)
    rcases m.old with z | ⟨pos, z⟩
    · exact w.fresh z
    · obtain ⟨c, e1, _, e3⟩ := ha pos _ z
      cases e1
      exact e3
  refine ⟨hf, ⟨fun a u h => ?_, fun a h => ?_⟩, e⟩
  · by_cases z : a = f
    · subst z
      rw [updM_same] at h
      cases h
      exact ⟨m.at_, m.code, uc, RepS.ext w e rs⟩
    · rw [updM_ne z] at h
      by_cases zp : a = P
      · subst zp
        rw [hM] at h
        cases h
        obtain ⟨ps', t1, t2, t3⟩ := m.tab
        refine ⟨ps', t1, t2, fun pos cv hc => ?_⟩
        rcases t3 pos cv hc with y | ⟨y, y2⟩
        · obtain ⟨c, e1, e2, e3⟩ := ha pos cv y
          refine ⟨c, e1, m.keep _ _ e2 fun q => ?_, unb c e3 (ne_of_none e2 m.new)⟩
          rw [q, hps] at e2
          exact codeO_ne ps (Option.some.inj e2).symm
        · exact ⟨Fn.c, y, by rw [y2]; exact m.code, uc⟩
      · exact RepO.ext w e (fun o q => m.keep a o q zp) (w.mem a u h)
  · obtain ⟨h1, o, h2, h3⟩ := w.hid a h
    have zp : a ≠ P := fun z => by subst z; exact hPF h
    have zf : a ≠ f := ne_of_none h2 m.new
    exact ⟨by rw [updM_ne zf]; exact h1, o, m.keep a o h2 zp, h3⟩

/-! ### the ground at a call -/
/-- a later ground -/
structure Up (K : PySem.W.Frag) (mg : Str → Option Value) (b0 b1 : Heap) : Prop where
  keep : ∀ b o, b0.get? b = some o → b1.get? b = some o
  size : b0.objs.size ≤ b1.objs.size
  mod0 : Mod K mg b0
theorem Up.refl {K : PySem.W.Frag} {mg : Str → Option Value} {b : Heap} (m : Mod K mg b) : Up K mg b b := ⟨fun _ _ e => e, Nat.le_refl _, m⟩
theorem Up.trans {K : PySem.W.Frag} {mg : Str → Option Value} {b0 b1 b2 : Heap} (a : Up K mg b0 b1) (b : Up K mg b1 b2) : Up K mg b0 b2 := ⟨fun x o e => b.keep x o (a.keep x o e), Nat.le_trans a.size b.size, a.mod0⟩
def baseAt (h : Heap) (H : Hp) (fs : List Addr) : Heap := hidT h fun b => if b ∈ fs then some (.lst []) else H b
theorem baseAt_of {h : Heap} {H : Hp} {fs : List Addr} {b : Addr} {o : Obj} (e : (baseAt h H fs).get? b = some o) : h.get? b = some o ∧ H b = none ∧ b ∉ fs := by
  obtain ⟨h1, h2⟩ := of_hidT e
  by_cases z : b ∈ fs
  · rw [if_pos z] at h2; cases h2
  · rw [if_neg z] at h2; exact ⟨h1, h2, z⟩
theorem baseAt_get {h : Heap} {H : Hp} {fs : List Addr} {b : Addr} {o : Obj} (e : h.get? b = some o) (n : H b = none) (nf : b ∉ fs) : (baseAt h H fs).get? b = some o :=
  hidT_get e (by rw [if_neg nf]; exact n)
theorem ff_base {h b1 b2 : Heap} : ∀ {l : List Env}, h.FunFrames b1 l → (∀ L ∈ frs l, b2.get? L = none) → h.FunFrames b2 l
  | [], _, _ => trivial
  | env :: rest, hl, hn => by
    obtain ⟨hk, ⟨L, o, hf, _, ho, hd⟩, hr⟩ := hl
    have hm : L ∈ frs (env :: rest) := List.mem_filterMap.mpr ⟨env, List.mem_cons_self, hf⟩
    refine ⟨hk, ⟨L, o, hf, hn L hm, ho, hd⟩, ff_base hr fun L hL => hn L ?_⟩
    obtain ⟨e, he, q⟩ := List.mem_filterMap.mp hL
    exact List.mem_filterMap.mpr ⟨e, List.mem_cons_of_mem _ he, q⟩
theorem mod_up {K : PySem.W.Frag} {mg : Str → Option Value} {b0 b1 : Heap} (m : Mod K mg b0) (u : ∀ b o, b0.get? b = some o → b1.get? b = some o) : Mod K mg b1 :=
  ⟨m.kin.keeps u, m.glob.keeps u, let ⟨mb, h1, h2⟩ := m.blt; ⟨mb, h1.keeps u, h2⟩, m.nolimit.keeps u⟩
theorem Up.mod {K : PySem.W.Frag} {mg : Str → Option Value} {b0 b1 : Heap} (u : Up K mg b0 b1) : Mod K mg b1 := mod_up u.mod0 u.keep
theorem tabB_up {K : PySem.W.Frag} {b0 b1 : Heap} {mg : Str → Option Value} {c P : Addr} (t : TabB b0 mg c P) (u : Up K mg b0 b1) : TabB b1 mg c P := ⟨t.code.keeps u.keep, t.bm.keeps u.keep, t.gP⟩
section
variable {X : Cx} {pins : List (Addr × Obj)} {σ : L2.St} {H : Hp} {s : Shared}
theorem up_at (I : Inv X pins σ H s) : Up X.K X.mg X.base (baseAt s.heap H (frs X.stack)) := by
  refine ⟨fun b o e => ?_, ?_, I.ok.mod⟩
  · obtain ⟨h1, h2⟩ := I.bs b o e
    refine baseAt_get h1 h2 fun z => ?_
    have := (I.stack.mem z).1
    rw [e] at this; cases this
  · unfold baseAt
    rw [hidT_size]
    exact Nat.le_trans I.ok.bsz I.sz
theorem env0_at (I : Inv X pins σ H s) : Env0 X.prog X.w X.K X.mg (baseAt s.heap H (frs X.stack)) X.A X.stack s H :=
  ⟨I.ok.frames, mod_up I.ok.mod (up_at I).keep, fun b o e => let ⟨a, b, _⟩ := baseAt_of e; ⟨a, b⟩, Nat.le_of_eq (hidT_size _ _), ff_base I.stack fun L hL => by
    cases e : (baseAt s.heap H (frs X.stack)).get? L with
    | none => rfl
    | some o => exact absurd hL (baseAt_of e).2.2, I.stkFree, I.hok, I.bare⟩
/-- the cells are no frames -/
def NFc (X : Cx) : Prop := ∀ y c, X.env.cells.lookup y = some c → X.s_0.heap.objs.size ≤ c ∨ c ∉ X.fs
theorem NFc.no {c : Addr} {y : Str} (n : NFc X) (I : Inv X pins σ H s) (e : X.env.cells.lookup y = some c) : c ∉ frs X.stack := fun z => by
  rcases List.mem_cons.mp (I.stkSub c z) with q | q
  · exact I.cne y c e q
  · rcases n y c e with h | h
    · obtain ⟨_, o, ho, _⟩ := I.ok.funs.mem q
      exact absurd (Nat.lt_of_lt_of_le (Heap.lt_size ho) h) (Nat.lt_irrefl _)
    · exact h q
end
theorem cellsFrom_ge : ∀ {names : List (Str × NameKind)} {n : Nat} {acc : List (Str × Addr)} {x : Str} {c : Addr}, (x, c) ∈ cellsFrom n names acc → (x, c) ∈ acc ∨ n ≤ c
  | [], _, _, _, _, h => .inl h
  | (m, k) :: r, n, acc, x, c, hm => by
    unfold cellsFrom at hm
    split at hm
    · rcases cellsFrom_ge hm with z | z
      · rcases List.mem_cons.mp z with z | z
        · cases z; exact .inr (Nat.le_refl _)
        · exact .inl z
      · right; omega
    · exact cellsFrom_ge hm
theorem nfc_cx {CX : CXT} {P : Program} {w : World} {K : PySem.W.Frag} {mg : Str → Option Value} {base : Heap} {N : List Str} {qual : Str} {scope : Scope} {f : Addr} {cd : Value} {A : Around} {outer : List Env} {s : Shared} {H : Hp} {E : XK} : NFc (cxOf CX P w K mg base N qual scope f cd A outer s H E) := fun y c e => by
  rcases cellsFrom_ge (PySem.mem_of_lookup e) with z | z
  · cases z
  · left
    show s.heap.objs.size ≤ c
    omega
end Bx

set_option Elab.async false
set_option linter.all false
set_option maxRecDepth 100000
set_option maxHeartbeats 4000000
namespace Bx
open PySem PySem.Spec L2 LamX NdefX
open PyProof.Rows hiding St

/-! ### functions as values -/
/-- the function at f keeps the promise, over the ground base -/
structure FnV (P : Program) (w : World) (K : PySem.W.Frag) (mg : Str → Option Value) (base : Heap) (k n : Nat) (f : Addr) (spec : DSpec) : Prop where
  run : ∀ (A : Around) (outer : List Env) (s : Shared) (H : Hp) (us : List Value) (vs : List V) (Q : VK) (E : XK), Room k A → Env0 P w K mg base A outer s H → Vals vs us → DSp K n spec vs H Q E →
    codeAny (model P w) A (.call (.ref f) ⟨us, []⟩) (CR (L2N.CX P w) outer P w H s Q E) s
theorem FnV.mono {P : Program} {w : World} {K : PySem.W.Frag} {mg : Str → Option Value} {base : Heap} {j k n : Nat} {f : Addr} {spec : DSpec} (h : FnV P w K mg base j n f spec) (l : j ≤ k) : FnV P w K mg base k n f spec :=
  ⟨fun A outer s H us vs Q E hr => h.run A outer s H us vs Q E (hr.mono l)⟩
theorem Env0.down {P : Program} {w : World} {K : PySem.W.Frag} {mg : Str → Option Value} {b0 b1 : Heap} {A : Around} {outer : List Env} {s : Shared} {H : Hp} (e : Env0 P w K mg b1 A outer s H) (u : Up K mg b0 b1) : Env0 P w K mg b0 A outer s H := by
  refine ⟨e.frames, u.mod0, fun b o h => e.bs b o (u.keep b o h), Nat.le_trans u.size e.bsz, ff_base e.funs fun L hL => ?_, e.frf, e.hok, e.bare⟩
  cases q : b0.get? L with
  | none => rfl
  | some o =>
    have := (e.funs.mem hL).1
    rw [u.keep L o q] at this; cases this
/-- over a later ground -/
theorem FnV.up {P : Program} {w : World} {K : PySem.W.Frag} {mg : Str → Option Value} {b0 b1 : Heap} {k n : Nat} {f : Addr} {spec : DSpec} (h : FnV P w K mg b0 k n f spec) (u : Up K mg b0 b1) : FnV P w K mg b1 k n f spec :=
  ⟨fun A outer s H us vs Q E hr e0 r q => h.run A outer s H us vs Q E hr (Env0.down e0 u) r q⟩
theorem DFn.up {P : Program} {w : World} {K : PySem.W.Frag} {mg : Str → Option Value} {b0 b1 : Heap} {k n : Nat} {x : Str} {spec : DSpec} (h : DFn P w K mg b0 k x n spec) (u : Up K mg b0 b1) : DFn P w K mg b1 k x n spec := by
  obtain ⟨f, fd, ps, hl, F, hm, hk, hb⟩ := h
  exact ⟨f, fd, ps, hl, ⟨F.len, fun A outer s H args us vs Q E hr e0 b r q => F.run A outer s H args us vs Q E hr (Env0.down e0 u) b r q⟩, hm, hk, hb⟩
theorem FnV.imp {P : Program} {w : World} {K : PySem.W.Frag} {mg : Str → Option Value} {base : Heap} {k n : Nat} {f : Addr} {spec spec' : DSpec} (h : FnV P w K mg base k n f spec) (m : ∀ ds M Q Ed, ds.length = n → spec' ds M Q Ed → spec ds M Q Ed) : FnV P w K mg base k n f spec' :=
  ⟨fun A outer s H us vs Q E hr e0 r ⟨F1, M, ds, Qd, Ed, hn, ra, wd, lx, hs, lk⟩ => h.run A outer s H us vs Q E hr e0 r ⟨F1, M, ds, Qd, Ed, hn, ra, wd, lx, m _ _ _ _ hn hs, lk⟩⟩
/-- a def of the module as a value -/
theorem FnV.of {P : Program} {w : World} {K : PySem.W.Frag} {mg : Str → Option Value} {base : Heap} {k n : Nat} {x : Str} {spec : DSpec} (c : DFn P w K mg base k x n spec) :
    ∃ f, mg x = some (.ref f) ∧ PySem.W.keepIn K (.ref f) = true ∧ FnV P w K mg base k n f spec := by
  obtain ⟨f, fd, ps, hl, F, hm, hk, hb⟩ := c
  refine ⟨f, hm, hk, ⟨fun A outer s H us vs Q E hr e0 r h => ?_⟩⟩
  have KX : K.In s.heap := e0.mod.kin.keeps fun b o e => (e0.bs b o e).1
  have hlen : us.length = ps.length := by
    obtain ⟨F1, M, ds, Qd, Ed, hn, ra, _⟩ := id h
    rw [← r.length, ra.length, hn, hl]
  have b := hb s us KX (by rw [List.append_nil]; exact hlen)
  rw [List.append_nil] at b
  exact F.run A outer s H ⟨us, []⟩ us vs Q E hr e0 b r h
/-- a def's or a lambda's address -/
def Lv (K : PySem.W.Frag) (f : Addr) (M : Mem) : Prop := PySem.W.keepIn K (.ref f) = true ∨ ∃ κ s, M f = some (.clo κ s)
def FAt (K : PySem.W.Frag) (f : Addr) (H : Hp) : Prop := PySem.W.keepIn K (.ref f) = true ∨ ∃ F, H f = some (LamO f F)
theorem Lv.at {K : PySem.W.Frag} {F : Addr → Prop} {f : Addr} {M : Mem} {H : Hp} (w : Wd K F M H) (l : Lv K f M) : FAt K f H := by
  rcases l with l | ⟨κ, s, l⟩
  · exact .inl l
  · exact .inr ⟨κ.F, (w.mem f _ l).1⟩
theorem fnAt_lam {P : Program} {w : World} {H : Hp} {h : Heap} {f : Addr} {F : LF} (hok : HOk P w H h) (e : H f = some (LamO f F)) : PySem.W.FnAt f h := by
  obtain ⟨pm, ctv, ho⟩ := lamO_at hok e
  exact ⟨_, _, _, _, ho⟩
theorem keepIn_some {K : PySem.W.Frag} {f : Addr} (h : PySem.W.keepIn K (.ref f) = true) : ∃ o, K.lookup f = some o := by
  cases e : K.lookup f with
  | none => simp [PySem.W.keepIn, e] at h
  | some o => exact ⟨o, rfl⟩
section
variable {X : Cx} {E : XK} {i j k n : Nat} {spec : DSpec} {S : Addr → DSpec → Prop} {e : Expr} {es : List Expr} {wr : DTA} {x : Str} {p pos : Pos}
theorem run_fnv {pins : List (Addr × Obj)} {σ : L2.St} {H : Hp} {s : Shared} {Q : VK} {f : Addr} {us : List Value} {vs : List V} (V : FnV X.prog X.w X.K X.mg X.base j n f spec) (hr : Room j X.A) (hx : Passes (L2N.CX X.prog X.w) X E) (I : Inv X pins σ H s) (r : Vals vs us) (q : DSp X.K n spec vs H Q E) :
    wpAny (model X.prog X.w) X.A (call (.ref f) us) (EP X pins σ Q) X.xe s := by
  refine wpAny_call (codeAny_mono (V.run X.A X.stack s H us vs Q E hr I.env0 r q) fun r s' hq => ?_)
  cases r with
  | error e => exact hx pins σ H s e s' I hq
  | ok fl =>
    cases fl with
    | ret u => exact I.after hq
    | next => exact False.elim hq
    | brk => exact False.elim hq
    | cont => exact False.elim hq
/-- what is known of f goes over the evaluation of the arguments -/
def tCallV (K : PySem.W.Frag) (S : Addr → DSpec → Prop) (i n : Nat) (E : XK) (t : TA) : TE := fun σ H Q => ∃ f sp, S f sp ∧ σ[i]? = some (some (.ref f)) ∧ FAt K f H ∧ t σ H fun vs H1 => FAt K f H1 ∧ DSp K n sp vs H1 Q E
theorem pe_callV (hr : Room j X.A) (hx : Passes (L2N.CX X.prog X.w) X E) (V : ∀ f sp, S f sp → FnV X.prog X.w X.K X.mg X.base j n f sp) (hN : X.N[i]? = some x) (hv : Vis X.env.scope x) (ha : PA X (e :: es) t)
    (hd : (x == ("__debug__" : Str)) = false := by decide) (hcd : (x == ("__classdict__" : Str)) = false := by decide)
    (he : starEach (e :: es) X.env = (false, eval e X.env) :: starEach es X.env := by rfl) (hpl : (backTo pos (starEach es X.env)).any (·.1) = false := by rfl) :
    PE X (.Call (.Name x p) (e :: es) [] pos) (tCallV X.K S i n E t) := by
  refine ⟨fun pins s σ H Q I ⟨f, sp, hS, hs, hf, ht⟩ => ?_⟩
  refine wpAny_Call_Name_kw (thn ((pe_var (pos := p) hN hv hd hcd).run pins s σ H (fun v H1 => v = .ref f ∧ H1 = H) I ⟨.ref f, hs, rfl, rfl⟩) fun u s1 ⟨v, H1, I1, r1, q1⟩ => ?_)
  obtain ⟨ev, eH⟩ := q1
  subst ev
  rw [eH] at I1
  obtain rfl : u = Value.ref f := r1
  rcases hf with hk | ⟨F, hF⟩
  · exact PySem.W.callWith_K (first := []) (h₀ := X.base) I.ok.mod.kin hk (thn (ha.run pos pins s1 σ H _ I1 ht) fun us s2 ⟨vs, H2, I2, r, h1, q⟩ => ⟨I2.kIn, run_fnv (V f sp hS) hr hx I2 r q⟩) he hpl
  · refine PySem.W.callWith_F (first := []) (fnAt_lam I1.hok hF) (thn (ha.run pos pins s1 σ H _ I1 ht) fun us s2 ⟨vs, H2, I2, r, h1, q⟩ => ⟨?_, run_fnv (V f sp hS) hr hx I2 r q⟩) he hpl
    rcases h1 with h1 | ⟨F2, h1⟩
    · obtain ⟨o, ho⟩ := keepIn_some h1
      have := (I1.bs f o (I1.ok.mod.kin f o ho)).2
      rw [hF] at this; cases this
    · exact fnAt_lam I2.hok h1
/-- a call of no argument -/
def tCallV0 (K : PySem.W.Frag) (S : Addr → DSpec → Prop) (i n : Nat) (E : XK) : TE := fun σ H Q => ∃ f sp, S f sp ∧ σ[i]? = some (some (.ref f)) ∧ FAt K f H ∧ DSp K n sp [] H Q E
theorem pe_callV0 (hr : Room j X.A) (hx : Passes (L2N.CX X.prog X.w) X E) (V : ∀ f sp, S f sp → FnV X.prog X.w X.K X.mg X.base j n f sp) (hN : X.N[i]? = some x) (hv : Vis X.env.scope x)
    (hd : (x == ("__debug__" : Str)) = false := by decide) (hcd : (x == ("__classdict__" : Str)) = false := by decide) :
    PE X (.Call (.Name x p) [] [] pos) (tCallV0 X.K S i n E) := by
  refine ⟨fun pins s σ H Q I ⟨f, sp, hS, hs, hf, q⟩ => ?_⟩
  refine wpAny_Call_Name_kw (thn ((pe_var (pos := p) hN hv hd hcd).run pins s σ H (fun v H1 => v = .ref f ∧ H1 = H) I ⟨.ref f, hs, rfl, rfl⟩) fun u s1 ⟨v, H1, I1, r1, q1⟩ => ?_)
  obtain ⟨ev, eH⟩ := q1
  subst ev
  rw [eH] at I1
  obtain rfl : u = Value.ref f := r1
  rcases hf with hk | ⟨F, hF⟩
  · exact PySem.W.callWith_K0 (first := []) I1.kIn hk (run_fnv (V f sp hS) hr hx I1 .nil q)
  · exact PySem.W.callWith_F0 (first := []) (fnAt_lam I1.hok hF) (run_fnv (V f sp hS) hr hx I1 .nil q)
def wCallV (K : PySem.W.Frag) (S : Addr → DSpec → Prop) (i n : Nat) (wr : DTA) : DTE := fun δ M Q => ∃ f sp, S f sp ∧ δ.s[i]? = some (some (.ref f)) ∧ Lv K f M ∧ wr δ M fun ds M1 => Lv K f M1 ∧ ds.length = n ∧ sp ds M1 Q δ.x
def wCallV0 (K : PySem.W.Frag) (S : Addr → DSpec → Prop) (i : Nat) : DTE := fun δ M Q => ∃ f sp, S f sp ∧ δ.s[i]? = some (some (.ref f)) ∧ Lv K f M ∧ sp [] M Q δ.x
theorem de_callV {K' : PySem.W.Frag} (hX : DX X E k) (i : Nat) (V : ∀ f sp, S f sp → FnV X.prog X.w X.K X.mg X.base j n f sp) (ha : DA X E (e :: es) wr) (hj : j ≤ k := by decide) (hN : X.N[i]? = some x := by rfl) (hv : Vis X.env.scope x := by first | exact Or.inl rfl | exact Or.inr (Or.inl rfl) | exact Or.inr (Or.inr rfl))
    (hd : (x == ("__debug__" : Str)) = false := by decide) (hcd : (x == ("__classdict__" : Str)) = false := by decide)
    (he : starEach (e :: es) X.env = (false, eval e X.env) :: starEach es X.env := by rfl) (hpl : (backTo pos (starEach es X.env)).any (·.1) = false := by rfl) (hK : X.K = K' := by rfl) :
    DE X E (.Call (.Name x p) (e :: es) [] pos) (wCallV K' S i n wr) := by
  subst hK
  refine pe_mono (pe_callV (i := i) (hX.room.mono hj) hX.pass V hN hv ha hd hcd he hpl) fun σ H Q' ⟨F, δ, M, Q, sm, lx, ⟨f, sp, hS, hs, hl, hw⟩, lk⟩ => ?_
  obtain ⟨v, hv, rv⟩ := sm.sl.2 i _ hs
  cases rv
  refine ⟨f, sp, hS, hv, hl.at sm.wd, F, δ, M, _, sm, lx, hw, fun vs H1 ds M1 r1 w1 e1 q1 => ⟨q1.1.at w1, ?_⟩⟩
  exact ⟨F, M1, ds, Q, δ.x, q1.2.1, r1, w1, lx.ext w1 e1, q1.2.2, fun v H' d M' r w e q => lk v H' d M' r w (Ext.trans w1 e1 e) q⟩
theorem de_callV0 {K' : PySem.W.Frag} (hX : DX X E k) (i : Nat) (V : ∀ f sp, S f sp → FnV X.prog X.w X.K X.mg X.base j 0 f sp) (hj : j ≤ k := by decide) (hN : X.N[i]? = some x := by rfl) (hv : Vis X.env.scope x := by first | exact Or.inl rfl | exact Or.inr (Or.inl rfl) | exact Or.inr (Or.inr rfl))
    (hd : (x == ("__debug__" : Str)) = false := by decide) (hcd : (x == ("__classdict__" : Str)) = false := by decide) (hK : X.K = K' := by rfl) :
    DE X E (.Call (.Name x p) [] [] pos) (wCallV0 K' S i) := by
  subst hK
  refine pe_mono (pe_callV0 (i := i) (n := 0) (hX.room.mono hj) hX.pass V hN hv hd hcd) fun σ H Q' ⟨F, δ, M, Q, sm, lx, ⟨f, sp, hS, hs, hl, hw⟩, lk⟩ => ?_
  obtain ⟨v, hv, rv⟩ := sm.sl.2 i _ hs
  cases rv
  exact ⟨f, sp, hS, hv, hl.at sm.wd, F, M, [], Q, δ.x, rfl, .nil, sm.wd, lx, hw, fun v H' d M' r w e q => lk v H' d M' r w e q⟩
end

/-! ### the lambda's promise -/
def slotD (s : List (Option D)) (j : Nat) : Option D := match s[j]? with
  | some o => o
  | none => none
/-- the data of its names at the entry: parameters, captured names -/
def lamD (ds : List D) (s : List (Option D)) (js : List Nat) : List (Option D) := ds.map some ++ js.map (slotD s)
def lamSpec (f : Addr) (κ : Clo) (s : List (Option D)) (js : List Nat) (te : DTE) : DSpec := fun ds M Q Ed => M f = some (.clo κ s) ∧ te ⟨lamD ds s js, Ed⟩ M Q
theorem lam_rep {K : PySem.W.Frag} {B : Addr → Prop} {H : Hp} {N ps fr : List Str} {σ : L2.St} {s : List (Option D)} {js : List Nat} {vs : List V} {ds : List D} (hN : N.length = ps.length + fr.length) (hl : vs.length = ps.length) (hj : js.length = fr.length) (r : RepAll K B H vs ds) (rs : RepS K B H σ s) :
    RepS K B H (startF N vs (js.map (slotAt σ))) (lamD ds s js) := by
  have e : startF N vs (js.map (slotAt σ)) = vs.map some ++ js.map (slotAt σ) := by
    unfold startF
    rw [List.length_map, hN, hl, hj]
    simp
  rw [e]
  unfold lamD
  refine ⟨by simp [r.length], fun i d h => ?_⟩
  by_cases hi : i < ds.length
  · rw [List.getElem?_append_left (by simpa using hi), List.getElem?_map] at h
    have hd : ds[i]? = some d := by
      rw [List.getElem?_eq_getElem hi] at h ⊢
      simpa using h
    obtain ⟨v, hv, rv⟩ := r.get hd
    exact ⟨v, by rw [List.getElem?_append_left (by simpa [r.length] using hi), List.getElem?_map, hv]; rfl, rv⟩
  · rw [List.getElem?_append_right (by simpa using hi), List.length_map, List.getElem?_map] at h
    rw [List.getElem?_append_right (by simpa [r.length] using hi), List.length_map, r.length, List.getElem?_map]
    cases ej : js[i - ds.length]? with
    | none => rw [ej] at h; cases h
    | some j =>
      rw [ej] at h
      have h : slotD s j = some d := Option.some.inj h
      unfold slotD at h
      cases es : s[j]? with
      | none => rw [es] at h; cases h
      | some o =>
        rw [es] at h
        have h : o = some d := h
        subst h
        obtain ⟨v, hv, rv⟩ := rs.2 j d es
        exact ⟨v, by show some (slotAt σ j) = _; rw [slotAt_of hv], rv⟩
abbrev lcx (P : Program) (w : World) (K : PySem.W.Frag) (mg : Str → Option Value) (base : Heap) (N : List Str) (F : LF) (f : Addr) (A : Around) (outer : List Env) (s : Shared) (H : Hp) (E : XK) : Cx := ncx (L2N.CX P w) P w K mg base N F.nf f A outer s H E
theorem fnv_lam {P : Program} {w : World} {K : PySem.W.Frag} {mg : Str → Option Value} {base : Heap} {N ps fr : List Str} {κ : Clo} {f : Addr} {s0 : List (Option D)} {js : List Nat} {te : DTE} {k : Nat} (S : NScope N ps fr κ.F.scope) (hN : N.length = ps.length + fr.length) (hj : js.length = fr.length)
    (hb : ∀ (pm ctv : Value) (us : List Value), us.length = ps.length → bindArgs (PySem.W.kla_fn "<lambda>" κ.F.qual κ.F.params κ.F.body κ.F.scope κ.F.cl pm (.ref κ.F.c) ctv) ⟨us, []⟩ = pure (ps.zip us))
    (C : CellsAt κ.F.cl fr (js.map (slotAt κ.σ)) base fun _ => none)
    (body : ∀ (A : Around) (outer : List Env) (s : Shared) (H : Hp) (E : XK), DX (lcx P w K mg base N κ.F f A outer s H E) E k → NFc (lcx P w K mg base N κ.F f A outer s H E) → DE (lcx P w K mg base N κ.F f A outer s H E) E κ.F.body te) :
    FnV P w K mg base (k + 1) ps.length f (lamSpec f κ s0 js te) := by
  refine ⟨fun A outer s H us vs Q E hr e0 r ⟨F1, M, ds, Qd, Ed, hn, ra, wd, lx, ⟨hM, hs⟩, lk⟩ => ?_⟩
  obtain ⟨hf, hc, _, rs⟩ := wd.mem f _ hM
  have hl : vs.length = ps.length := ra.length.trans hn
  have lim : s.heap.NoLimit := e0.mod.nolimit.keeps fun b o e => (e0.bs b o e).1
  obtain ⟨pm, ctv, ho⟩ := lamO_at e0.hok hf
  have C' : CellsAt κ.F.nf.cl fr (js.map (slotAt κ.σ)) s.heap H := by
    refine ⟨C.len, fun y c e => ?_, C.inj, fun i y e => ?_⟩
    · obtain ⟨_, v, o, ho, hd⟩ := C.all y c e
      obtain ⟨h1, h2⟩ := e0.bs c o ho
      exact ⟨h2, v, o, h1, hd⟩
    · obtain ⟨c, hc, hv⟩ := C.has i y e
      refine ⟨c, hc, fun v ev => ?_⟩
      obtain ⟨u, ru, o, ho, hd⟩ := hv v ev
      exact ⟨u, ru, o, (e0.bs c o ho).1, hd⟩
  refine PySem.W.kla_callFunE hr.depth ho rfl S.co S.gen rfl (codeO_at e0.hok hc) ?_
  rw [hb pm ctv us (by rw [← r.length]; exact hl)]
  refine wpAny_pure (wpAny_newFunctionEnv S.nocell (fun ⟨n, _⟩ hy => S.par n (List.of_mem_zip hy).1) (fun h₁ hns hsb => ⟨lim.fresh _ hsb, ?_⟩) S.kind)
  show codeAny _ _ (.expr κ.F.body (envF κ.F.nf f s.heap.objs.size)) _ _
  have kp : ∀ b o, s.heap.get? b = some o → h₁.get? b = some o := fun b o e => hsb.extBut b o (Nat.ne_of_lt (Heap.lt_size e)) (Heap.get?_push_of_some _ e)
  have I : Inv (lcx P w K mg base N κ.F f A outer s H E) [] (startF N vs (js.map (slotAt κ.σ))) H { s with heap := h₁, toks := s.toks + (ps.zip us).length } := inv_startN S hr.hd e0 hl r C' hns kp
  have tk : L2N.Takes (lcx P w K mg base N κ.F f A outer s H E) fun cls d _ H => E cls d H := L2N.takes_of rfl rfl rfl rfl
  have hX : DX (lcx P w K mg base N κ.F f A outer s H E) E k := ⟨rfl, passes_of rfl, L2N.passes_call tk fun _ _ _ _ z => z, tk, S.nd, hr.deeper _⟩
  have nf : NFc (lcx P w K mg base N κ.F f A outer s H E) := fun y c e => by
    right
    intro z
    obtain ⟨_, v, o, ho, _⟩ := C.all y c e
    have := (e0.funs.mem z).1
    rw [ho] at this; cases this
  refine PySem.W.kla_codeExpr (wpAny_mono ((body A outer s H E hX nf).run [] _ _ H Q I ?_) (fun v s' hq => ?_) fun e s' hq => hq)
  · exact ⟨F1, ⟨lamD ds s0 js, Ed⟩, M, Qd, ⟨lam_rep hN hl hj ra rs, wd⟩, lx, hs, lk⟩
  · obtain ⟨w', H', J', rv, q⟩ := hq
    exact ⟨w', H', J'.os, J'.bare, J'.base, J'.hok, rv, q⟩
end Bx

set_option Elab.async false
set_option linter.all false
set_option maxRecDepth 100000
set_option maxHeartbeats 4000000
namespace Bx
open PySem PySem.Spec L2 LamX NdefX
open PyProof.Rows hiding St
/-! ### g(lambda ..: .., e2, ..) -/
def wCallL (P : Addr) (nm : Nat → Nat → Str) (n : Nat) (G : Addr → DSpec → DSpec) (js : List Nat) (te : DTE) (wr : DTA) : DTE := fun δ M Q => M P = some (.tab nm) ∧ ∀ f κ, M f = none →
  wr δ (updM M f (.clo κ δ.s)) fun ds M1 => M1 f = some (.clo κ δ.s) ∧ ds.length + 1 = n ∧ G f (lamSpec f κ δ.s js te) (.ref f :: ds) M1 (fun d M2 => ∀ M3, M3 = delM M2 f → Q d M3) (fun c M2 => ∀ M3, M3 = delM M2 f → δ.x c M3)
theorem xok_imp {x y : Value → Mem → Prop} {cls : Value} {dd : Option Addr} {H : Hp} {M M' : Mem} (m : ∀ c, x c M → y c M') (h : XOk x cls dd H M) : XOk y cls dd H M' := by
  rcases h with ⟨a, b⟩ | ⟨C, d, fs, a, b, c, e⟩
  · exact .inl ⟨a, m _ b⟩
  · exact .inr ⟨C, d, fs, a, b, c, m _ e⟩
theorem fnv_never {P : Program} {w : World} {K : PySem.W.Frag} {mg : Str → Option Value} {base : Heap} {k n : Nat} {f : Addr} : FnV P w K mg base k n f (fun _ _ _ _ => False) :=
  ⟨fun _ _ _ _ _ _ _ _ _ _ _ ⟨_, _, _, _, _, _, _, _, _, z, _⟩ => z.elim⟩
section
variable {X : Cx} {E : XK} {j k kl n : Nat} {es : List Expr} {wr : DTA} {x : Str} {p pos lpos : Pos} {G : Addr → DSpec → DSpec} {nm : Nat → Nat → Str} {c P : Addr} {params : Arguments} {body : Expr} {scope : Scope} {Nl ps fr : List Str} {js : List Nat} {te : DTE}
/-- the cells of a lambda made here, in the ground of a call from here -/
theorem cells_at {pins : List (Addr × Obj)} {σ : L2.St} {H : Hp} {s : Shared} (nf : NFc X) (I : Inv X pins σ H s) (hsc : ndefB X.env.scope scope fr = true) (hjs : js.map (fun j => X.N[j]?) = fr.map some) :
    CellsAt (cloFrom X.env.cells scope.names []) fr (js.map (slotAt σ)) (baseAt s.heap H (frs X.stack)) fun _ => none := by
  have C := cells_of I (Caps.made I.ok (ndef_free hsc) (ndef_fr hsc) hjs)
  have hf : ∀ y ∈ scope.names, y.2 = .free → ∃ c, X.env.cells.lookup y.1 = some c := fun y hy e => (ndef_free hsc y hy e).elim (fun z => I.ok.has _ (.inl z)) fun z => I.ok.has _ (.inr z)
  have up : ∀ y c, (cloFrom X.env.cells scope.names []).lookup y = some c → ∀ v, s.heap.IsCell c v → (baseAt s.heap H (frs X.stack)).IsCell c v := fun y c e v ⟨o, ho, hd⟩ =>
    ⟨o, baseAt_get ho (C.all y c e).1 (nf.no I (clo_cm hf e)), hd⟩
  refine ⟨C.len, fun y c e => ?_, C.inj, fun i y e => ?_⟩
  · obtain ⟨h1, v, z⟩ := C.all y c e
    exact ⟨rfl, v, up y c e v z⟩
  · obtain ⟨c, hc, hv⟩ := C.has i y e
    refine ⟨c, hc, fun v ev => ?_⟩
    obtain ⟨u, ru, z⟩ := hv v ev
    exact ⟨u, ru, up y c hc _ z⟩
theorem de_callL (hX : DX X E k) (nf : NFc X) (TB : TabB X.base X.mg c P) (hcode : X.env.code = .ref c)
    (lam : ∀ (base' : Heap) (q : Str) (cl : List (Str × Addr)) (c' f : Addr) (A : Around) (outer : List Env) (s : Shared) (H : Hp) (E' : XK), Up X.K X.mg X.base base' → DX (lcx X.prog X.w X.K X.mg base' Nl ⟨q, params, body, scope, cl, c'⟩ f A outer s H E') E' kl →
      NFc (lcx X.prog X.w X.K X.mg base' Nl ⟨q, params, body, scope, cl, c'⟩ f A outer s H E') → DE (lcx X.prog X.w X.K X.mg base' Nl ⟨q, params, body, scope, cl, c'⟩ f A outer s H E') E' body te)
    (g : ∀ (base' : Heap) (f : Addr) (sp : DSpec), Up X.K X.mg X.base base' → FnV X.prog X.w X.K X.mg base' (kl + 1) ps.length f sp → DFn X.prog X.w X.K X.mg base' j x n (G f sp))
    (ha : DA X E es wr) (S : NScope Nl ps fr scope) (hj : j ≤ k := by decide) (hn : nm lpos.line lpos.col = X.env.qual ++ "<lambda>" := by rfl) (hsc : ndefB X.env.scope scope fr = true := by rfl) (hNl : Nl.length = ps.length + fr.length := by rfl) (hjs : js.map (fun j => X.N[j]?) = fr.map some := by rfl) (hdef : defaultsOf params X.env = ([], []) := by rfl)
    (hb : ∀ (q : Str) (cl : List (Str × Addr)) (pm cv ctv : Value) (us : List Value), us.length = ps.length → bindArgs (PySem.W.kla_fn "<lambda>" q params body scope cl pm cv ctv) ⟨us, []⟩ = pure (ps.zip us))
    (hg : Gl X x := by rfl) (hdb : (x == ("__debug__" : Str)) = false := by decide) (he : starEach (.Lambda params body scope lpos :: es) X.env = (false, eval (.Lambda params body scope lpos) X.env) :: starEach es X.env := by rfl) (hpl : (backTo pos (starEach es X.env)).any (·.1) = false := by rfl) :
    DE X E (.Call (.Name x p) (.Lambda params body scope lpos :: es) [] pos) (wCallL P nm n G js te wr) := by
  refine ⟨fun pins s σ H Q' I ⟨F, δ, M, Q, sm, lx, ⟨hM, hw⟩, lk⟩ => ?_⟩
  obtain ⟨fg, _, _, _, _, hm, hk, _⟩ := g X.base 0 _ (Up.refl I.ok.mod) fnv_never
  refine wpAny_Call_Name_kw (ld_glob I hg hm ?_ hdb)
  have hjl : js.length = fr.length := by
    have := congrArg List.length hjs
    simpa using this
  let mkF : Addr → LF := fun c' => ⟨X.env.qual ++ "<lambda>", params, body, scope, cloFrom X.env.cells scope.names [], c'⟩
  let Qa : List V → Hp → Prop := fun vs0 H2 => ∃ f c' vs ds M2, vs0 = .ref f :: vs ∧ RepAll X.K (Bar F M2) H2 vs ds ∧ Wd X.K F M2 H2 ∧ Ext F M H M2 H2 ∧ M2 f = some (.clo ⟨mkF c', σ⟩ δ.s) ∧ ds.length + 1 = n ∧
    G f (lamSpec f ⟨mkF c', σ⟩ δ.s js te) (.ref f :: ds) M2 (fun d M3 => ∀ M4, M4 = delM M3 f → Q d M4) (fun c M3 => ∀ M4, M4 = delM M3 f → δ.x c M4)
  have hp := pa_cons (pe_lamE (X := X) (pos := lpos) TB hcode hn hdef (ndef_free hsc)) ha he
  obtain ⟨ps0, hps, ht, ha0⟩ := sm.wd.mem P _ hM
  refine PySem.W.callWith_K (first := []) (h₀ := X.base) I.ok.mod.kin hk (thn (hp.run pos pins s σ H Qa I ⟨ps0, hps, ht, fun pos cv hc => let ⟨c, e1, e2, _⟩ := ha0 pos cv hc; ⟨c, e1, e2⟩, fun f c' H1 md => ?_⟩) fun us s2 ⟨vs0, H2, I2, r, f, c', vs, ds, M2, ev, ra, w2, e2, hM2, hn2, q2⟩ => ⟨I2.kIn, ?_⟩) he hpl
  · obtain ⟨nf0, w1, e1⟩ := wd_lam sm.wd hM hps sm.sl md
    exact ⟨F, δ, _, _, sm.ext w1 e1, lx.ext w1 e1, hw f ⟨mkF c', σ⟩ nf0, fun vs H2 ds M2 r2 w2 e2 ⟨hM2, hn2, q2⟩ => ⟨f, c', vs, ds, M2, rfl, r2, w2, Ext.trans w1 e1 e2, hM2, hn2, q2⟩⟩
  · subst ev
    have V := fnv_lam (P := X.prog) (w := X.w) (K := X.K) (mg := X.mg) (base := baseAt s2.heap H2 (frs X.stack)) (κ := ⟨mkF c', σ⟩) (f := f) (s0 := δ.s) (te := te) (k := kl) S hNl hjl (hb _ _ · (.ref c') ·) (cells_at nf I2 hsc hjs) (fun A outer s H E hX nf => lam _ _ _ _ f A outer s H E (up_at I2) hX nf)
    obtain ⟨fg', fd, ps', hl, Fg, hm', hk', hbn⟩ := g _ f _ (up_at I2) V
    have ef : fg' = fg := Value.ref.inj (Option.some.inj (hm'.symm.trans hm))
    subst ef
    have hlen : us.length = ps'.length := by
      rw [← r.length, hl]
      show vs.length + 1 = n
      rw [ra.length, hn2]
    have b := hbn s2 us I2.kIn (by rw [List.append_nil]; exact hlen)
    rw [List.append_nil] at b
    have e0 := env0_at I2
    refine wpAny_call (codeAny_mono (Fg.run X.A X.stack s2 H2 ⟨us, []⟩ us (.ref f :: vs) Q' E (hX.room.mono hj) e0 b r ?_) fun r s' hq => ?_)
    · exact ⟨F, M2, .ref f :: ds, (fun d M3 => ∀ M4, M4 = delM M3 f → Q d M4), (fun c M3 => ∀ M4, M4 = delM M3 f → δ.x c M4), hn2, .cons (.ref f) ra, w2,
        fun cls dd H' M' w e q => lx cls dd H' (delM M' f) w.del (Ext.trans w (Ext.trans w2 e2 e) ext_del) (xok_imp (fun _ z => z _ rfl) q), q2, fun v H' d M' r w e q => lk v H' d (delM M' f) (Rep.ext w ext_del d v r) w.del (Ext.trans w (Ext.trans w2 e2 e) ext_del) (q _ rfl)⟩
    · cases r with
      | error e => exact hX.pass pins σ H2 s2 e s' I2 hq
      | ok fl =>
        cases fl with
        | ret u => exact I2.after hq
        | next => exact False.elim hq
        | brk => exact False.elim hq
        | cont => exact False.elim hq
end
end Bx

set_option Elab.async false
set_option linter.all false
set_option maxRecDepth 100000
set_option maxHeartbeats 4000000
namespace Bx
open PySem PySem.Spec L2
open PyProof.Rows hiding St
/-! ### list comprehensions whose parts make lambdas: told of the block's cells -/
theorem lcn_core {X : Cx} {pins : List (Addr × Obj)} {s : Shared} {σ : L2.St} {H : Hp} {Q : VK} {elt tg iter : Expr} {ifs : List Expr} {scope : Scope} {own : List (Str × Nat)} {pos pos' : Pos} {wi : TI} {g : TG} {tt : TT} {te : TE} {use : Option (Value → Sem Unit)} {Qf : Value → Shared → Prop}
    (hc : X.calm = true) (nf : NFc X) (hN : X.N.Nodup) (I : Inv X pins σ H s) (hi : PI X tg iter wi) (ok : BlkOk X.N X.env.scope scope own)
    (hg : ∀ (s : Shared) (H : Hp) (C : Addr) (cl : List (Str × Addr)) (fp : List Addr), NFc (X.blk s H scope (compEnvC scope cl C X.env) fp) → PG (X.blk s H scope (compEnvC scope cl C X.env) fp) tg g) (ht : ∀ (s : Shared) (H : Hp) (C : Addr) (cl : List (Str × Addr)) (fp : List Addr), NFc (X.blk s H scope (compEnvC scope cl C X.env) fp) → PTs (X.blk s H scope (compEnvC scope cl C X.env) fp) ifs tt)
    (he : ∀ (s : Shared) (H : Hp) (C : Addr) (cl : List (Str × Addr)) (fp : List Addr), NFc (X.blk s H scope (compEnvC scope cl C X.env) fp) → PE (X.blk s H scope (compEnvC scope cl C X.env) fp) elt te) (hs : ∀ x, foldedSetIterable iter X.env x = pure x)
    (h : tLc wi g tt te (own.map (·.2)) σ H Q)
    (hRR : ∀ D C s' m H', Inv X pins σ H' s' → Q (.ref D) H' → s'.heap.Ns C m → FpOk X pins H' C → compPost (model X.prog X.w) X.A X.xe use Qf (.ref D) C (.ok .next) s') :
    wpAny (model X.prog X.w) X.A (comprehension (.ListComp elt [⟨tg, iter, ifs, 0⟩] scope pos) scope X.env pos' (newList []) false (eval iter X.env) use) Qf X.xe s := by
  have hfree : ∀ y ∈ scope.names, y.2 = .free → ∃ c, X.env.cells.lookup y.1 = some c := fun y hy e => by
    rcases ok.free y hy e with k | k
    · exact I.ok.has _ (.inl k)
    · exact I.ok.has _ (.inr k)
  refine wpAny_comprehension_free (use := use) rfl hs (closure_ok hfree) ok.kind (fun y hy e => by rw [ok.uniq y hy, e])
    (thn (hi.run pins s σ H _ I h) fun xv s1 hx => thn hx fun itv s2 h2 => ?_)
  obtain ⟨it, fp, tn, J, H2, e, I2, T, st2, f2, q⟩ := h2
  subst e
  refine wpAny_newObj_type (newEnv_comp ?_) (by show 0 ≤ sizeLine; decide)
  generalize hD : s2.heap.objs.size = D
  have hDn : H2 D = none := I2.hok.fresh (Nat.le_of_eq hD)
  obtain ⟨W, ⟨m0, w0⟩, turn⟩ := q D hDn
  -- the new list
  generalize hs3 : ({ s2 with heap := s2.heap.push { cls := .type "list", data := .seq ([] : List Value).toArray } } : Shared) = s3
  have I3 : Inv X pins σ (upd H2 D (.lst [])) s3 := by
    rw [← hs3]
    refine I2.laid (t' := s2.toks) (fun b o e => Heap.get?_push_of_some _ e) (Nat.le_of_eq hD) ⟨Nat.zero_le _, [], 0, .nil, ?_⟩
    rw [← hD]
    exact Heap.get?_push_size _ rfl
  have h3 : s3.heap = s2.heap.push { cls := .type "list", data := .seq ([] : List Value).toArray } := by rw [← hs3]
  have sz : ∀ b ∈ fp, b < s2.heap.objs.size := fun b hb => by
    obtain ⟨o, e, _⟩ := T.obj _ _ st2 b hb
    exact Heap.lt_size e
  have f3 : ∀ b ∈ fp, FpOk X pins (upd H2 D (.lst [])) b ∧ b < s3.heap.objs.size := fun b hb => by
    have hlt := sz b hb
    refine ⟨⟨?_, (f2 b hb).2⟩, by rw [h3, Heap.size_push]; exact Nat.lt_succ_of_lt hlt⟩
    rw [upd_ne (by rw [← hD]; exact Nat.ne_of_lt hlt)]
    exact (f2 b hb).1
  have st3 : tn 0 s3.heap := T.keep _ _ _ st2 fun b _ o e => by rw [h3]; exact Heap.get?_push_of_some _ e
  have I4 := block_start I3 ok hN f3
  have nfb : NFc (X.blk s3 (upd H2 D (.lst [])) scope (compEnvC scope (cellsFrom (s3.heap.objs.size + 1) scope.names (cloFrom X.env.cells scope.names [])) s3.heap.objs.size X.env) fp) := fun y c e => by
    rcases cellsFrom_ge (PySem.mem_of_lookup e) with hm | hge
    · rcases cloFrom_mem hm with hm | ⟨h1, h2⟩
      · cases hm
      · obtain ⟨c1, hc1⟩ := hfree _ h1 rfl
        have hc1 : X.env.cells.lookup y = some c1 := hc1
        have e2 : c = c1 := by
          rw [h2, hc1] <;> rfl
        rw [e2]
        exact .inr (nf.no I3 hc1)
    · left
      show s3.heap.objs.size ≤ c
      omega
  have pg := hg s3 (upd H2 D (.lst [])) s3.heap.objs.size (cellsFrom (s3.heap.objs.size + 1) scope.names (cloFrom X.env.cells scope.names [])) fp nfb
  have pt := ht s3 (upd H2 D (.lst [])) s3.heap.objs.size (cellsFrom (s3.heap.objs.size + 1) scope.names (cloFrom X.env.cells scope.names [])) fp nfb
  have pe := he s3 (upd H2 D (.lst [])) s3.heap.objs.size (cellsFrom (s3.heap.objs.size + 1) scope.names (cloFrom X.env.cells scope.names [])) fp nfb
  show codeAny _ _ (.compStart (.ListComp elt [⟨tg, iter, ifs, 0⟩] scope pos) 0 (.ref it) (.ref D) (compEnvC scope (cellsFrom (s3.heap.objs.size + 1) scope.names (cloFrom X.env.cells scope.names [])) s3.heap.objs.size X.env)) (compPost (model X.prog X.w) X.A X.xe use Qf (.ref D) s3.heap.objs.size) { s3 with heap := pushCells (s3.heap.push { cls := .type "dict", data := .dict #[] }) scope.names }
  have nfp : ∀ b ∈ fp, (upd H2 D (.lst [])) b = none := fun b hb => (f3 b hb).1.1
  generalize hce : compEnvC scope (cellsFrom (s3.heap.objs.size + 1) scope.names (cloFrom X.env.cells scope.names [])) s3.heap.objs.size X.env = ce at I4 pg pt pe ⊢
  have cL : ce.locals = s3.heap.objs.size := by subst hce; rfl
  generalize hH3 : upd H2 D (.lst []) = H3 at I3 I4 pg pt pe w0 nfp f3
  generalize hs4 : ({ s3 with heap := pushCells (s3.heap.push { cls := .type "dict", data := .dict #[] }) scope.names } : Shared) = s4 at I4 ⊢
  have st4 : tn 0 s4.heap := T.keep _ _ _ st3 fun b _ o e => by rw [← hs4]; exact pushCells_keeps _ _ _ _ (Heap.get?_push_of_some _ e)
  have stat : ∀ {σ' : St} {H' : Hp} {s' : Shared}, Inv (X.blk s3 H3 scope ce fp) [] σ' H' s' → (∀ b ∈ fp, H' b = none) → ∀ b ∈ fp, FpOk (X.blk s3 H3 scope ce fp) [] H' b := fun {σ' H' s'} I' hn b hb =>
    ⟨hn b hb, (I'.ok.exf b hb).1, I'.ok.exfs b hb, .inl hb, fun x c e => (I'.ok.exf b hb).2 x c e, fun p hp => absurd (show p ∈ ([] : List (Addr × Obj)) ++ [] from hp) (by simp)⟩
  have loop : codeAny (model X.prog X.w) X.A (.compLoop (.ListComp elt [⟨tg, iter, ifs, 0⟩] scope pos) 0 (.ref it) (.ref D) ce) (compPost (model X.prog X.w) X.A X.xe use Qf (.ref D) s3.heap.objs.size) s4 := by
    refine compLoop_any (fun n s' => ∃ i H', Inv (X.blk s3 H3 scope ce fp) [] (wipe σ (own.map (·.2))) H' s' ∧ tn i s'.heap ∧ (∀ b ∈ fp, H' b = none) ∧ W i n H') ?_ m0 ⟨0, H3, I4, st4, nfp, w0⟩
    rintro n s5 ⟨i, H5, I5, st5, n5, w5⟩
    rcases turn i n H5 w5 with ⟨stop, qq⟩ | ⟨go, Nx, hNx, step⟩
    · have td := T.done (X.blk s3 H3 scope ce fp) rfl rfl rfl hc i [] s5 _ H5 (fun _ _ => False) I5 (stat I5 n5) st5 stop
      refine thnF td fun r s6 ⟨hr, I6⟩ => ?_
      subst hr
      -- back in the def's context
      have I7 : Inv X pins σ H5 s6 := I3.call' (ch := fp) I6.os I6.base I6.hok I6.bare fun b hb => ⟨(f3 b hb).1.2.2.2.1, (f3 b hb).1.2.1, (f3 b hb).1.2.2.2.2.1, (f3 b hb).1.2.2.2.2.2⟩
      have nC : H5 s3.heap.objs.size = none := by
        have z : H5 ce.locals = none := I6.free
        rw [cL] at z
        exact z
      obtain ⟨m, hn, _⟩ := I6.loc
      have hn : s6.heap.Ns ce.locals m := hn
      rw [cL] at hn
      exact hRR D s3.heap.objs.size s6 m H5 I7 qq hn (I3.fpOk (Nat.le_refl _) nC)
    · have ti := T.item (X.blk s3 H3 scope ce fp) rfl rfl rfl hc i [] s5 _ H5 (fun _ _ => False) I5 (stat I5 n5) st5 go
      refine thnF ti fun r s6 ⟨u, hr, h6⟩ => ?_
      subst hr
      refine thnF h6 fun _ s7 ⟨x, H7, I7, r7, y7, st7, n7⟩ => ?_
      have I7' := I7.pinned (stat I7 n7) (T.obj _ _ st7)
      refine thnF (pg.run _ s7 _ H7 x u _ I7' r7 (step x H7 y7)) fun _ s8 ⟨σ8, H8, I8, hw8, q8⟩ => ?_
      refine thnF (pt.run _ s8 σ8 H8 _ I8 q8) fun b s9 ⟨H9, I9, q9⟩ => ?_
      -- the turn's end
      have fin : ∀ {s' : Shared} {H' : Hp}, Inv (X.blk s3 H3 scope ce fp) ([] ++ pinsAt fp s7.heap) σ8 H' s' → Nx H' → ∃ m, m < n ∧ ∃ i H', Inv (X.blk s3 H3 scope ce fp) [] (wipe σ (own.map (·.2))) H' s' ∧ tn i s'.heap ∧ (∀ b ∈ fp, H' b = none) ∧ W i m H' := fun {s' H'} I' nx => by
        obtain ⟨m', hm, w'⟩ := hNx H' nx
        have pin' : ∀ b ∈ fp, ∀ o, s7.heap.get? b = some o → s'.heap.get? b = some o ∧ H' b = none := fun b hb o e =>
          let z := I'.pin (b, o) (List.mem_append_right _ (List.mem_append_right _ (mem_pinsAt hb e)))
          ⟨z.1, z.2.1⟩
        have hl : (wipe σ (own.map (·.2))).length = σ8.length := by rw [← hw8, wipe_length]
        refine ⟨m', hm, i + 1, H', (I'.unpinned (pins := [])).weak hl (fun j v e => ?_), T.keep _ _ _ st7 fun b hb o e => (pin' b hb o e).1, fun b hb => ?_, w'⟩
        · rw [← hw8] at e
          exact (wipe_some e).1
        · obtain ⟨o, e, _⟩ := T.obj _ _ st7 b hb
          exact (pin' b hb o e).2
      cases b with
      | false =>
        simp only [Bool.false_eq_true, if_false] at q9 ⊢
        exact fin I9 q9
      | true =>
        simp only [if_true] at q9 ⊢
        refine thnF (pe.run _ s9 σ8 H9 _ I9 q9) fun z s10 ⟨yv, H10, I10, r10, acc, hD10, hz10, nx⟩ => ?_
        exact app_ok (X := X.blk s3 H3 scope ce fp) I10 hD10 hz10 r10 fun s11 I11 => fin I11 nx
  exact codeAny_compStart_list loop (T.self X.A 0 _ _ _ st4 loop)
theorem pe_lcn {X : Cx} {elt tg iter : Expr} {ifs : List Expr} {scope : Scope} {own : List (Str × Nat)} {pos : Pos} {wi : TI} {g : TG} {tt : TT} {te : TE} (hc : X.calm = true) (nf : NFc X) (hN : X.N.Nodup) (hi : PI X tg iter wi) (ok : BlkOk X.N X.env.scope scope own)
    (hg : ∀ (s : Shared) (H : Hp) (C : Addr) (cl : List (Str × Addr)) (fp : List Addr), NFc (X.blk s H scope (compEnvC scope cl C X.env) fp) → PG (X.blk s H scope (compEnvC scope cl C X.env) fp) tg g) (ht : ∀ (s : Shared) (H : Hp) (C : Addr) (cl : List (Str × Addr)) (fp : List Addr), NFc (X.blk s H scope (compEnvC scope cl C X.env) fp) → PTs (X.blk s H scope (compEnvC scope cl C X.env) fp) ifs tt)
    (he : ∀ (s : Shared) (H : Hp) (C : Addr) (cl : List (Str × Addr)) (fp : List Addr), NFc (X.blk s H scope (compEnvC scope cl C X.env) fp) → PE (X.blk s H scope (compEnvC scope cl C X.env) fp) elt te) (hs : ∀ x, foldedSetIterable iter X.env x = pure x := by intro _; rfl) :
    PE X (.ListComp elt [⟨tg, iter, ifs, 0⟩] scope pos) (tLc wi g tt te (own.map (·.2))) := by
  refine ⟨fun pins s σ H Q I h => ?_⟩
  rw [eval_ListComp]
  refine lcn_core hc nf hN I hi ok hg ht he hs h fun D C s' m H' I' q hn f => ⟨m, hn, fun h'' sb => ?_⟩
  obtain ⟨f0, f1, f2, f3, f4, f5⟩ := f
  exact ⟨.ref D, H', I'.turned (t' := s'.toks) (fun b o hb e => (sb.2 b hb).trans e) f0 f1 f3 f4 f5, rfl, q⟩
/-- name = [..] on one line, the name a local -/
theorem ps_setLcn {X : Cx} {i : Nat} {y : Str} {py : Pos} {elt tg iter : Expr} {ifs : List Expr} {scope : Scope} {own : List (Str × Nat)} {pos spos : Pos} {wi : TI} {g : TG} {tt : TT} {te : TE} (hc : X.calm = true) (nf : NFc X) (hN : X.N.Nodup) (hy : X.N[i]? = some y) (hyl : X.env.scope.names.lookup y = some .local)
    (hsw : swapsWith (.ListComp elt [⟨tg, iter, ifs, 0⟩] scope pos) (some (.Name y py)) spos.line X.env = pure true) (hi : PI X tg iter wi) (ok : BlkOk X.N X.env.scope scope own)
    (hg : ∀ (s : Shared) (H : Hp) (C : Addr) (cl : List (Str × Addr)) (fp : List Addr), NFc (X.blk s H scope (compEnvC scope cl C X.env) fp) → PG (X.blk s H scope (compEnvC scope cl C X.env) fp) tg g) (ht : ∀ (s : Shared) (H : Hp) (C : Addr) (cl : List (Str × Addr)) (fp : List Addr), NFc (X.blk s H scope (compEnvC scope cl C X.env) fp) → PTs (X.blk s H scope (compEnvC scope cl C X.env) fp) ifs tt)
    (he : ∀ (s : Shared) (H : Hp) (C : Addr) (cl : List (Str × Addr)) (fp : List Addr), NFc (X.blk s H scope (compEnvC scope cl C X.env) fp) → PE (X.blk s H scope (compEnvC scope cl C X.env) fp) elt te) (hs : ∀ x, foldedSetIterable iter X.env x = pure x := by intro _; rfl) :
    PS X (.Assign [.Name y py] (.ListComp elt [⟨tg, iter, ifs, 0⟩] scope pos) spos) (tAsg (tLc wi g tt te (own.map (·.2))) (gName i)) := by
  refine ⟨fun pins s σ H D I h => ?_⟩
  rw [exec_Assign_Name_used _ _ _ _ hsw]
  refine wpAny_bind (wpAny_standAt (wpAny_bind ?_))
  show wpAny _ X.A (do let _ ← comprehension (.ListComp elt [⟨tg, iter, ifs, 0⟩] scope pos) scope X.env (firstIterPos [⟨tg, iter, ifs, 0⟩] pos) (newList []) false (eval iter X.env) (some (assign (.Name y py) X.env))) _ _ s
  have h : tLc wi g tt te (own.map (·.2)) σ H (fun x H1 => gName i x σ H1 D.nx) := h
  refine wpAny_bind (thn (lcn_core (Qf := fun _ s' => SP X pins D .next s') hc nf hN I hi ok hg ht he hs h fun L C s' m H' I' q hn f => ?_) fun _ s' hq => wpAny_pure (wpAny_pure hq))
  show wpAny _ _ (assign (.Name y py) X.env (.ref L)) _ _ _
  refine wpAny_assign_Name (store_ok2 (v := V.ref L) I' hN hy (.inl hyl) rfl (fun s2 I2 ⟨a, sb, ha⟩ => ?_) (.inr hyl))
  obtain ⟨f0, f1, f2, f3, f4, f5⟩ := f
  have haC : C ≠ a := by
    rcases ha with z | z
    · rw [z]; exact f1
    · exact fun e => f4 y a z e.symm
  refine ⟨m, hn.sameBut sb haC, fun h3 sb3 => ?_⟩
  exact ⟨_, H', I2.turned (t' := s2.toks) (fun b o hb e => (sb3.2 b hb).trans e) f0 f1 f3 f4 f5, q⟩
section
variable {X : Cx} {E : XK} {k : Nat} {pos : Pos}
theorem de_lcn {elt tg iter : Expr} {ifs : List Expr} {scope : Scope} {own : List (Str × Nat)} {wi : DTI} {t : Tg} {tt : DTT} {te : DTE} (hX : DX X E k) (nf : NFc X) (ok : BlkOk X.N X.env.scope scope own) (hi : DI X E tg iter wi)
    (hb : ∀ (s : Shared) (H : Hp) (C : Addr) (cl : List (Str × Addr)) (fp : List Addr), DX (X.blk s H scope (compEnvC scope cl C X.env) fp) E0 k → NFc (X.blk s H scope (compEnvC scope cl C X.env) fp) →
      DG (X.blk s H scope (compEnvC scope cl C X.env) fp) tg t ∧ DTs (X.blk s H scope (compEnvC scope cl C X.env) fp) E0 ifs tt ∧ DE (X.blk s H scope (compEnvC scope cl C X.env) fp) E0 elt te)
    (hv : ∀ i ∈ t.ixs, i ∈ own.map (·.2) := by decide) (hs : ∀ x, foldedSetIterable iter X.env x = pure x := by intro _; rfl) :
    DE X E (.ListComp elt [⟨tg, iter, ifs, 0⟩] scope pos) (wLc wi t tt te (own.map (·.2))) :=
  pe_mono (pe_lcn (g := t.v X.K) (tt := liftT X.K E0 tt) (te := liftE X.K E0 te) hX.calm nf hX.nd hi ok (fun s H C cl fp n => (hb s H C cl fp (hX.blk ..) n).1) (fun s H C cl fp n => (hb s H C cl fp (hX.blk ..) n).2.1) (fun s H C cl fp n => (hb s H C cl fp (hX.blk ..) n).2.2) hs) fun _ _ _ h => lift_lc hv h
theorem ds_setLcn {y : Str} {py spos : Pos} {elt tg iter : Expr} {ifs : List Expr} {scope : Scope} {own : List (Str × Nat)} {wi : DTI} {t : Tg} {tt : DTT} {te : DTE} (hX : DX X E k) (nf : NFc X) (i : Nat) (ok : BlkOk X.N X.env.scope scope own) (hi : DI X E tg iter wi)
    (hb : ∀ (s : Shared) (H : Hp) (C : Addr) (cl : List (Str × Addr)) (fp : List Addr), DX (X.blk s H scope (compEnvC scope cl C X.env) fp) E0 k → NFc (X.blk s H scope (compEnvC scope cl C X.env) fp) →
      DG (X.blk s H scope (compEnvC scope cl C X.env) fp) tg t ∧ DTs (X.blk s H scope (compEnvC scope cl C X.env) fp) E0 ifs tt ∧ DE (X.blk s H scope (compEnvC scope cl C X.env) fp) E0 elt te)
    (hsw : swapsWith (.ListComp elt [⟨tg, iter, ifs, 0⟩] scope pos) (some (.Name y py)) spos.line X.env = pure true) (hy : X.N[i]? = some y := by rfl) (hyl : X.env.scope.names.lookup y = some .local := by rfl)
    (hv : ∀ i ∈ t.ixs, i ∈ own.map (·.2) := by decide) (hs : ∀ x, foldedSetIterable iter X.env x = pure x := by intro _; rfl) :
    DS X E (.Assign [.Name y py] (.ListComp elt [⟨tg, iter, ifs, 0⟩] scope pos) spos) (wAsg (wLc wi t tt te (own.map (·.2))) (.nm i)) := by
  refine ps_mono (ps_setLcn (g := t.v X.K) (tt := liftT X.K E0 tt) (te := liftE X.K E0 te) hX.calm nf hX.nd hy hyl hsw hi ok (fun s H C cl fp n => (hb s H C cl fp (hX.blk ..) n).1) (fun s H C cl fp n => (hb s H C cl fp (hX.blk ..) n).2.1) (fun s H C cl fp n => (hb s H C cl fp (hX.blk ..) n).2.2) hs) fun Dh σ H ⟨F, δ, M, Dd, sm, lx, ld, hw⟩ => ?_
  refine lift_lc hv ⟨F, δ, M, _, sm, lx, hw, fun v H1 d M1 r1 w1 e1 q1 => ?_⟩
  have q1 : setK δ.s i (some d) fun s => Dd.nx ⟨s, δ.x⟩ M1 := q1
  rw [setK_eq] at q1
  exact ld.nx _ H1 ⟨δ.s.set i (some d), δ.x⟩ M1 ⟨(sm.ext w1 e1).sl.set r1 i, w1⟩ e1 rfl q1
end
end Bx

set_option Elab.async false
set_option linter.all false
set_option maxRecDepth 100000
set_option maxHeartbeats 4000000
namespace Bx
open PySem PySem.Spec L2 HotX L2H
open PyProof.Rows hiding St
/-! ### _law_names: the classes of the exception that is handled -/
theorem Wd.same {K : PySem.W.Frag} {F : Addr → Prop} {M : Mem} {H H' : Hp} (w : Wd K F M H) (h : Same H H') : Wd K F M H' ∧ Ext F M H M H' := by
  have e : Ext F M H M H' := ⟨fun a o q _ => h a o q, fun a o q => .inl ⟨o, q⟩⟩
  exact ⟨⟨fun a m q => RepO.ext w e (fun o q => h a o q) (w.mem a m q), fun a q => let ⟨h1, o, h2, h3⟩ := w.hid a q; ⟨h1, o, h a o h2, h3⟩⟩, e⟩
/-- in a body where p is handled -/
structure DXH (X : Cx) (p : Addr × Obj) : Prop where
  nd : X.N.Nodup
  mem : p ∈ X.pn
  hot : Hot1 X.A p
theorem DXH.hc {X : Cx} {p : Addr × Obj} (h : DXH X p) : ∃ p : Addr × Obj, p ∈ X.pn ∧ X.A.handled = some (.ref p.1) ∧ ∃ vs : Array Value, p.2.data = .fields vs ∧ vs[2]? = some .none := ⟨p, h.mem, h.hot.1, h.hot.2⟩
def HotB (X : Cx) : Prop := ∀ (pins : List (Addr × Obj)) (s : Shared) (σ : L2.St) (H : Hp), Inv X pins σ H s → ∃ x1, HotAt X.A x1 s.heap
section
variable {X : Cx} {E : XK} {k : Nat} {a b c e : Expr} {wa wb wc : DTE} {ta tb : DTT} {pos : Pos} {p : Addr × Obj}
theorem ds_setN (nd : X.N.Nodup) (i : Nat) {x : Str} {pos' : Pos} (he : DE X E e wa) (hi : X.N[i]? = some x := by rfl) (hx : Loc X.env.scope x := by first | exact .inl rfl | exact .inr rfl) (hs : swapsWith e (some (.Name x pos')) pos.line X.env = pure false := by rfl) (hf : X.fn x = true ∨ X.env.scope.names.lookup x = some .local := by first | exact .inl rfl | exact .inr rfl) :
    DS X E (.Assign [.Name x pos'] e pos) (wAsg wa (.nm i)) := by
  refine ps_mono (ps_set nd hi hx he hs hf) fun Dh σ H ⟨F, δ, M, Dd, sm, lx, ld, hw⟩ => ?_
  refine ⟨F, δ, M, _, sm, lx, hw, fun v H1 d M1 r1 w1 e1 q1 => ?_⟩
  have q1 : setK δ.s i (some d) fun s => Dd.nx ⟨s, δ.x⟩ M1 := q1
  rw [setK_eq] at q1
  exact ld.nx _ H1 ⟨δ.s.set i (some d), δ.x⟩ M1 ⟨(sm.ext w1 e1).sl.set r1 i, w1⟩ e1 rfl q1
theorem dg_nmN (nd : X.N.Nodup) (i : Nat) {x : Str} (hi : X.N[i]? = some x := by rfl) (hx : Loc X.env.scope x := by first | exact .inl rfl | exact .inr rfl) (hf : X.fn x = true ∨ X.env.scope.names.lookup x = some .local := by first | exact .inl rfl | exact .inr rfl) : DG X (.Name x pos) (.nm i) :=
  pg_name nd hi hx hf
theorem dg_tupH {es : List Expr} {n : Nat} {ts : List Tg} (hot : HotB X) (h : DGs X es ts) (hn : (assignEach es X.env).length = ts.length := by rfl) (hst : (assignEach es X.env).findIdx? (·.1) = none := by rfl) : DG X (.Tuple es n pos) (.tp ts) :=
  pg_tupH hot h hn hst
/-- the walk of a zip of two lists, its end hot -/
abbrev DIZ (X : Cx) (E : XK) (tg iter : Expr) (w : DTI) : Prop := PIZ X tg iter (liftI X.K E w)
def wZipL (wr : DTA) : DTI := fun δ M Q => wr δ M fun ds M1 => match ds with
  | [.lst xs, .lst ys] => Q (zipD xs ys) M1
  | _ => False
theorem piz_mono {tg iter : Expr} {t t' : TI} (h : PIZ X tg iter t) (m : ∀ σ H R, t' σ H R → t σ H R) : PIZ X tg iter t' := ⟨fun pins s σ H R I q => h.run pins s σ H R I (m σ H R q)⟩
theorem di_zipZ {wr : DTA} {q tpos : Pos} {elts : List Expr} {kk : Nat} (hm : X.mg "zip" = none) (ha : DA X E [a, b] wr) (hg : Gl X "zip" := by rfl) (hs : starEach [a, b] X.env = (false, eval a X.env) :: starEach [b] X.env := by rfl) (hpl : (backTo pos (starEach [b] X.env)).any (·.1) = false := by rfl) :
    DIZ X E (.Tuple elts kk tpos) (.Call (.Name "zip" q) [a, b] [] pos) (wZipL wr) := by
  refine piz_mono (pi_zipZ hg hm ha hs hpl) fun σ H R ⟨F, δ, M, Q, sm, lx, hw, lk⟩ => ?_
  refine ⟨F, δ, M, _, sm, lx, hw, fun vs H1 ds M1 r1 w1 e1 q1 => ?_⟩
  match ds, r1, q1 with
  | [.lst xs, .lst ys], .cons (.lst (a := p) (xs := us) h1 n1 a1) (.cons (.lst (a := q) (xs := zs) h2 n2 a2) .nil), q1 =>
    refine ⟨p, q, us, zs, rfl, .of h1, .of h2, lk _ H1 _ M1 w1 ?_ e1 q1⟩
    intro F' M' H' hF wd e
    have s1 : SqL X.K H' p us := .of (e.keep _ _ h1 (.inr (bar_none n1)))
    have s2 : SqL X.K H' q zs := .of (e.keep _ _ h2 (.inr (bar_none n2)))
    refine ⟨fun i d hd => ?_, fun i hi => ⟨us, zs, s1, s2, by rw [zipD_len] at hi; rw [a1.length, a2.length]; omega⟩⟩
    obtain ⟨x, y, hx, hy, rfl⟩ := zipD_get hd
    obtain ⟨vx, hvx, rx⟩ := a1.get hx
    obtain ⟨vy, hvy, ry⟩ := a2.get hy
    refine ⟨⟨us, zs, vx, vy, s1, s2, hvx, hvy⟩, fun v H2 ⟨T, x', y', ev, nT, eH, fx, fy⟩ => ?_⟩
    subst ev; subst eH
    have : x' = vx := Option.some.inj ((fx us s1).symm.trans hvx)
    subst this
    have : y' = vy := Option.some.inj ((fy zs s2).symm.trans hvy)
    subst this
    exact ⟨.newTup wd nT (.cons (Rep.extF w1 e hF x _ rx) (.cons (Rep.extF w1 e hF y _ ry) .nil)), wd.laid nT, ext_laid nT⟩
theorem de_lcz {elt tg iter : Expr} {ifs : List Expr} {scope : Scope} {own : List (Str × Nat)} {wi : DTI} {t : Tg} {tt : DTT} {te : DTE} (hX : DXH X p) (ok : BlkOk X.N X.env.scope scope own) (hi : DIZ X E tg iter wi)
    (hb : ∀ (s : Shared) (H : Hp) (C : Addr) (cl : List (Str × Addr)) (fp : List Addr), (HotB (X.blk s H scope (compEnvC scope cl C X.env) fp) → DG (X.blk s H scope (compEnvC scope cl C X.env) fp) tg t) ∧
      DTs (X.blk s H scope (compEnvC scope cl C X.env) fp) E0 ifs tt ∧ DE (X.blk s H scope (compEnvC scope cl C X.env) fp) E0 elt te)
    (hv : ∀ i ∈ t.ixs, i ∈ own.map (·.2) := by decide) (hs : ∀ x, foldedSetIterable iter X.env x = pure x := by intro _; rfl) :
    DE X E (.ListComp elt [⟨tg, iter, ifs, 0⟩] scope pos) (wLc wi t tt te (own.map (·.2))) :=
  pe_mono (pe_lcz (g := t.v X.K) (tt := liftT X.K E0 tt) (te := liftE X.K E0 te) hX.hc hX.nd hi ok (fun s H C cl fp => (hb s H C cl fp).1) (fun s H C cl fp => (hb s H C cl fp).2.1) (fun s H C cl fp => (hb s H C cl fp).2.2) hs) fun _ _ _ h => lift_lc hv h
/-- isinstance(e, C), e the handled exception in slot i -/
def wIsP (i : Nat) (a : Addr) (b : Bool) : DTE := fun δ M Q => δ.s[i]? = some (some (.ref a)) ∧ Q (.bl b) M
theorem de_isP0 {D : Addr} {e2 : Expr} {cv : Value} {v : V} {bb : Bool} {x : Str} {pe q : Pos} (C : ExcC X.K D) (hz : Zc (.ref D) none p.2) (hX : DXH X p) (i : Nat) (hp : PE X e2 (tC v)) (hv : ∀ u, RelV v u → u = cv) (hk : PySem.W.kitOne X.K (.ref D) cv = some bb) (hb : X.mg "isinstance" = none)
    (hi : X.N[i]? = some x := by rfl) (hvis : Vis X.env.scope x := by first | exact Or.inl rfl | exact Or.inr (Or.inl rfl) | exact Or.inr (Or.inr rfl)) (hd : (x == ("__debug__" : Str)) = false := by decide) (hcd : (x == ("__classdict__" : Str)) = false := by decide) (hg : Gl X "isinstance" := by rfl)
    (he : starEach [.Name x pe, e2] X.env = (false, eval (.Name x pe) X.env) :: starEach [e2] X.env := by rfl) (he2 : starEach [e2] X.env = (false, eval e2 X.env) :: starEach [] X.env := by rfl) (hpl : (backTo pos (starEach [e2] X.env)).any (·.1) = false := by rfl) :
    DE X E (.Call (.Name "isinstance" q) [.Name x pe, e2] [] pos) (wIsP i p.1 bb) := by
  refine pe_mono (pe_callB (call_isP C hz (let ⟨vs, h, _⟩ := hX.hot.2; ⟨vs, h⟩) hX.mem) hg hb (by decide +kernel) (pa_cons (pv i hi hvis hd hcd) (pa_cons hp pa_nil he2) he) (by decide) (by decide) he hpl) fun σ H Q' ⟨F, δ, M, Q, sm, lx, ⟨h1, h2⟩, lk⟩ => ?_
  obtain ⟨u, hu, ru⟩ := sm.sl.2 i _ h1
  cases ru
  exact ⟨.ref p.1, hu, v, cv, bb, rfl, hv, hk, lk _ H _ M (.bl _) sm.wd (.refl _ _ _) h2⟩
theorem de_isP {D a : Addr} {y : Str} {bb : Bool} {x : Str} {pe py q : Pos} (C : ExcC X.K D) (hz : Zc (.ref D) none p.2) (hX : DXH X p) (i : Nat) (hm : X.mg y = some (.ref a)) (hk : PySem.W.kitOne X.K (.ref D) (.ref a) = some bb) (hb : X.mg "isinstance" = none)
    (hgy : Gl X y := by rfl) (hdy : (y == ("__debug__" : Str)) = false := by decide) (hi : X.N[i]? = some x := by rfl) (hvis : Vis X.env.scope x := by first | exact Or.inl rfl | exact Or.inr (Or.inl rfl) | exact Or.inr (Or.inr rfl)) (hd : (x == ("__debug__" : Str)) = false := by decide) (hcd : (x == ("__classdict__" : Str)) = false := by decide) (hg : Gl X "isinstance" := by rfl)
    (he : starEach [.Name x pe, .Name y py] X.env = (false, eval (.Name x pe) X.env) :: starEach [.Name y py] X.env := by rfl) (he2 : starEach [.Name y py] X.env = (false, eval (.Name y py) X.env) :: starEach [] X.env := by rfl) (hpl : (backTo pos (starEach [.Name y py] X.env)).any (·.1) = false := by rfl) :
    DE X E (.Call (.Name "isinstance" q) [.Name x pe, .Name y py] [] pos) (wIsP i p.1 bb) :=
  de_isP0 C hz hX i (pe_glob (v := .ref a) hgy hm rfl hdy) (fun u h => h) hk hb hi hvis hd hcd hg he he2 hpl
theorem de_isPT {D : Addr} {y : Str} {T : String} {bb : Bool} {x : Str} {pe py q : Pos} (C : ExcC X.K D) (hz : Zc (.ref D) none p.2) (hX : DXH X p) (i : Nat) (hm : X.mg y = none) (hk : PySem.W.kitOne X.K (.ref D) (.type T) = some bb) (hb : X.mg "isinstance" = none) (hv : bootBuiltins y = some (.type T) := by decide +kernel)
    (hgy : Gl X y := by rfl) (hny : y ≠ "__name__" := by decide) (hdy : (y == ("__debug__" : Str)) = false := by decide) (hi : X.N[i]? = some x := by rfl) (hvis : Vis X.env.scope x := by first | exact Or.inl rfl | exact Or.inr (Or.inl rfl) | exact Or.inr (Or.inr rfl)) (hd : (x == ("__debug__" : Str)) = false := by decide) (hcd : (x == ("__classdict__" : Str)) = false := by decide) (hg : Gl X "isinstance" := by rfl)
    (he : starEach [.Name x pe, .Name y py] X.env = (false, eval (.Name x pe) X.env) :: starEach [.Name y py] X.env := by rfl) (he2 : starEach [.Name y py] X.env = (false, eval (.Name y py) X.env) :: starEach [] X.env := by rfl) (hpl : (backTo pos (starEach [.Name y py] X.env)).any (·.1) = false := by rfl) :
    DE X E (.Call (.Name "isinstance" q) [.Name x pe, .Name y py] [] pos) (wIsP i p.1 bb) :=
  de_isP0 C hz hX i (pe_bltn (v := .ty T) hgy hm hv rfl hny hdy) (fun u h => h) hk hb hi hvis hd hcd hg he he2 hpl
end
/-- what stands of the classes of errors: at as, in the order of xs; labels -/
def errXs : List Str := ["InvalidClause", "InvalidBox", "InvalidBoxes", "InvalidDay", "InvalidStrikes", "InvalidNumber", "InvalidNotes", "InvalidTruth", "InvalidText", "Shut", "Unlike", "NothingToUndo", "TooMany"]
def errLs : List Str := ["clause", "box", "boxes", "day", "strikes", "number", "notes", "truth", "text", "shut", "unlike", "undo", "many"]
/-- the name that _law_names tells of the class at i -/
def errNm (i : Nat) : Str := (errLs.getD i "") ++ " value"
/-- what the class i of as says of itself, of the others, of BoxError at B -/
def errB (K : PySem.W.Frag) (as : List Addr) (B : Addr) (i : Nat) : Bool :=
  let D := as.getD i 0
  (PySem.W.findIn K (.ref D) "__getattribute__" == some (some (.builtin "BaseException.__getattribute__"))) && (PySem.W.findIn K (.ref D) "__getattr__" == some none) && (PySem.W.subIn K (.ref D) (.type "BaseException") == some true) && PySem.W.hasDictIn K D &&
  (PySem.W.findIn K (.ref D) "__class__" == some (some (.builtin "object.__class__"))) && (PySem.W.specialIn K (.builtin "object.__class__") "__get__" == some (some (.builtin "getset_descriptor.__get__"))) && (PySem.W.takesIn K (.builtin "object.__class__") == some true) && (PySem.W.mroIn K D (.type "object") == some true) &&
  (as.zipIdx.all fun q => PySem.W.kitOne K (.ref D) (.ref q.1) == some (q.2 == i)) && (PySem.W.kitOne K (.ref D) (.type "ValueError") == some true) && (PySem.W.exmOne K (.ref D) (.ref B) == some true)
theorem errB_c {K : PySem.W.Frag} {as : List Addr} {B : Addr} {i : Nat} (h : errB K as B i = true) : ExcC K (as.getD i 0) ∧ (∀ (j : Nat) (a : Addr), as[j]? = some a → PySem.W.kitOne K (.ref (as.getD i 0)) (.ref a) = some (j == i)) ∧ PySem.W.kitOne K (.ref (as.getD i 0)) (.type "ValueError") = some true ∧ PySem.W.exmOne K (.ref (as.getD i 0)) (.ref B) = some true := by
  unfold errB at h
  simp only [Bool.and_eq_true, beq_iff_eq, List.all_eq_true] at h
  obtain ⟨⟨⟨⟨⟨⟨⟨⟨⟨⟨h1, h2⟩, h3⟩, h4⟩, h5⟩, h6⟩, h7⟩, h8⟩, h9⟩, h10⟩, h11⟩ := h
  refine ⟨⟨h1, h2, h3, h4, h5, h6, h7, h8⟩, fun j a e => ?_, h10, h11⟩
  have := h9 (a, j) (by rw [List.mem_zipIdx_iff_getElem?]; exact e)
  exact this
end Bx

set_option Elab.async false
set_option linter.all false
set_option maxRecDepth 100000
set_option maxHeartbeats 4000000
namespace Bx
open PySem PySem.Spec L2 HotX L2H
open PyProof.Rows hiding St
/-- the classes of errors stand -/
structure Errs (K : PySem.W.Frag) (mg : Str → Option Value) (ex : Str → Value) (as : List Addr) (B : Addr) : Prop where
  at_ : ∀ i x, errXs[i]? = some x → mg x = some (.ref (as.getD i 0)) ∧ ex x = .ref (as.getD i 0)
  len : as.length = 13
  hB : mg "BoxError" = some (.ref B)
  ok : ∀ i, i < 13 → errB K as B i = true
/-- what _law_names promises, handed the exception that is handled -/
structure NmFn (P : Program) (w : World) (K : PySem.W.Frag) (mg : Str → Option Value) (base : Heap) (k : Nat) (as : List Addr) : Prop where
  ex : ∃ f fd, mg "_law_names" = some (.ref f) ∧ PySem.W.keepIn K (.ref f) = true ∧ Binds K fd ["e"] [] ∧ ∀ i, i < 13 → FnE P w K mg base (L2N.CX P w) k f fd ["e"] (as.getD i 0) fun H Q _ => ∀ H', Same H H' → Q (.str (errNm i)) H'
theorem wd_nil {K : PySem.W.Frag} {H : Hp} : Wd K (fun _ => False) (fun _ => none) H := ⟨fun _ _ z => (by cases z), fun _ z => z.elim⟩
section
variable {P : Program} {w : World} {K : PySem.W.Frag} {mg : Str → Option Value} {base : Heap} {ex : Str → Value} {as : List Addr} {B : Addr} {N : List Str} {st : Stmt} {k : Nat}
theorem nm_here {wb : Nat → Addr → DTS} (T : Here K mg "_law_names" ["e"] st) (S : FnScope N ["e"] (defScope st)) (X : Errs K mg ex as B)
    (body : ∀ (i : Nat) (f : Addr) (cdv : Value) (A : Around) (outer : List Env) (s : Shared) (H : Hp) (E : XK) (p : Addr × Obj), i < 13 → ExcC K (as.getD i 0) → Zc (.ref (as.getD i 0)) none p.2 → (∀ j, j < 13 → PySem.W.kitOne K (.ref (as.getD i 0)) (.ref (as.getD j 0)) = some (j == i)) → PySem.W.kitOne K (.ref (as.getD i 0)) (.type "ValueError") = some true →
      DXH (cxH (L2N.CX P w) P w K mg base N "_law_names" (defScope st) f cdv A outer s H E p) p → DSs (cxH (L2N.CX P w) P w K mg base N "_law_names" (defScope st) f cdv A outer s H E p) E (defBody st) (wb i p.1))
    (rd : ∀ (i : Nat) (a : Addr), i < 13 → wb i a { nx := fun _ _ => False, rt := fun d _ => d = .str (errNm i) } ⟨startD N [.ref a], fun _ _ => False⟩ fun _ => none) : NmFn P w K mg base (k + 1) as := by
  obtain ⟨f, fd, F, hm, hb⟩ := T
  refine ⟨f, fd, hm, F.kp, hb, fun i hi => ?_⟩
  obtain ⟨oc, od, kV, doc, pm, an, cdv, ct, osl, rfl, lk, hcd⟩ := F.ex
  obtain ⟨e1, e2, e3, e4⟩ := errB_c (X.ok i hi)
  refine fnE_of lk hcd S rfl fun A outer s H Q E p hot hz hr hsp => ?_
  have hX : DXH (cxH (L2N.CX P w) P w K mg base N "_law_names" (defScope st) f cdv A outer s H E p) p := ⟨S.nd, List.mem_singleton.mpr rfl, hot⟩
  refine ⟨_, body i f cdv A outer s H E p hi e1 hz (fun j hj => e2 j _ ?_) e3 hX, fun _ => False, ⟨startD N [.ref p.1], fun _ _ => False⟩, fun _ => none, { nx := fun _ _ => False, rt := fun d _ => d = .str (errNm i) }, ⟨start_rep (.cons (.ref p.1) .nil), wd_nil⟩,
    fun _ _ _ _ _ _ z => (xok_no z).elim, ⟨fun _ _ _ _ _ _ _ z => z.elim, fun v H' d M' r _ e q => ?_, fun _ _ _ _ _ _ _ z => z.elim, fun _ _ _ _ _ _ _ z => z.elim⟩, rd i p.1 hi⟩
  · have : j < as.length := by rw [X.len]; exact hj
    rw [List.getD_eq_getElem?_getD, List.getElem?_eq_getElem this]; rfl
  · subst q; cases r
    exact hsp H' fun a o q => e.keep a o q (.inr rfl)
end
/-- try: .. except BoxError as e: return _law_names(e) -/
def xTry (as : List Addr) (R : Str → Mem → Prop) : Value → Mem → Prop := fun c M => ∃ i, i < 13 ∧ c = .ref (as.getD i 0) ∧ R (errNm i) M
def exTry (ex : Str → Value) (R : Str → Mem → Prop) : Value → Mem → Prop := fun c M => ∃ i x, i < 13 ∧ errXs[i]? = some x ∧ c = ex x ∧ R (errNm i) M
def wTryW (ex : Str → Value) (R : DEnds → Str → Mem → Prop) (wb : DTS) : DTS := fun D δ M =>
  wb { nx := fun δ' M' => D.nx ⟨δ'.s, δ.x⟩ M', rt := D.rt, bk := fun δ' M' => D.bk ⟨δ'.s, δ.x⟩ M', ct := fun δ' M' => D.ct ⟨δ'.s, δ.x⟩ M' } ⟨δ.s, exTry ex (R D)⟩ M
section
variable {X : Cx} {E : XK} {k kn : Nat} {ex : Str → Value} {as : List Addr} {B : Addr} {body : List Stmt} {wb : DTS} {np p1 p2 p3 p4 p5 pos : Pos} {b₀ : Stmt}
/-- what the suite must do: R of the name -/
def SuiteOk (X : Cx) (as : List Addr) (i : Nat) (b₀ : Stmt) (R : DEnds → Str → Mem → Prop) : Prop := ∀ (a : Addr) (oe : Obj) (cls : Value) (d : Option Addr) (pn : List (Addr × Obj)), L2N.Zn cls d oe → (∃ vs, oe.data = .fields vs) →
  PSs (X.suite a ((a, oe) :: pn)) [b₀] fun Dh σ H => σ[i]? = some (some (.ref a)) ∧ d = none ∧ ∃ j, j < 13 ∧ cls = .ref (as.getD j 0) ∧ ∃ F M Dd, Wd X.K F M H ∧ R Dd (errNm j) M ∧
    ∀ v H' d M', Rep X.K (Bar F M') H' v d → Wd X.K F M' H' → Ext F M H M' H' → Dd.rt d M' → Dh.rt v H'
theorem ds_tryW {R : DEnds → Str → Mem → Prop} (hX : DX X E k) (i : Nat) (Er : Errs X.K X.mg ex as B) (hsu : SuiteOk X as i b₀ R)
    (hb : ∀ (pn : List (Addr × Obj)) (xe : Value → Shared → Prop) (E1 : XK), DX (X.tr pn xe) E1 k → DSs (X.tr pn xe) E1 body wb)
    (hs : X.stack = X.env :: X.outer := by rfl) (hf : X.env.frame = some X.env.locals := by rfl) (hi : X.N[i]? = some ("e" : Str) := by rfl) (hln : X.env.kindOf "e" = some .local := by rfl) (hg : Gl X "BoxError" := by rfl) :
    DS X E (.Try body [.ExceptHandler (some (.Name "BoxError" np)) (some "e") [b₀] p5] [] [] pos) (wTryW ex R wb) := by
  have hil : i < X.N.length := (List.getElem?_eq_some_iff.mp hi).1
  refine ps_mono (L2N.ps_try_as (Wout := fun cls d _ H => E cls d H) (tb := fun W => liftS X.K (fun cls d H => ∀ σ : L2.St, σ.length = X.N.length → W cls d σ H) wb) hs hf hX.nd hi hln ⟨hg, by decide, .inl Er.hB⟩ hX.tk (fun W pn xe tk po => ?_) hsu) fun Dh σ H ⟨F, δ, M, Dd, sm, lx, ld, hw⟩ => ?_
  · have tk1 : L2N.Takes (X.tr pn xe) fun cls d _ H => ∀ σ : L2.St, σ.length = X.N.length → W cls d σ H := fun u s' ⟨a, B, sI, pins, σ, H, cls, d, e, I, nb, up, sky, na, os, ag, w⟩ => tk u s' ⟨a, B, sI, pins, σ, H, cls, d, e, I, nb, up, sky, na, os, ag, w σ I.len⟩
    exact hb pn xe _ ⟨hX.calm, po, L2N.passes_call tk1 fun _ _ _ _ z => z, tk1, hX.nd, hX.room⟩
  · refine ⟨F, ⟨δ.s, exTry ex (R Dd)⟩, M, { nx := fun δ' M' => Dd.nx ⟨δ'.s, δ.x⟩ M', rt := Dd.rt, bk := fun δ' M' => Dd.bk ⟨δ'.s, δ.x⟩ M', ct := fun δ' M' => Dd.ct ⟨δ'.s, δ.x⟩ M' }, sm, fun cls dd H' M' w' e' q => ?_, ⟨fun σ' H' δ' M' sm' e' ex' q => ld.nx σ' H' ⟨δ'.s, δ.x⟩ M' sm' e' rfl q, ld.rt, fun σ' H' δ' M' sm' e' ex' q => ld.bk σ' H' ⟨δ'.s, δ.x⟩ M' sm' e' rfl q, fun σ' H' δ' M' sm' e' ex' q => ld.ct σ' H' ⟨δ'.s, δ.x⟩ M' sm' e' rfl q⟩, hw⟩
    intro σ' hl
    rcases q with ⟨hd, j, x, hj, hx, hc, hR⟩ | ⟨C, d, fs, hC, hd, hfs, j, x, hj, hx, hc, hR⟩
    · have hc : cls = .ref (as.getD j 0) := hc.trans (Er.at_ j x hx).2
      obtain ⟨_, _, _, hexm⟩ := errB_c (Er.ok j hj)
      refine ⟨true, by rw [hc]; exact hexm, fun _ a na => ⟨by rw [List.getElem?_set_self (by rw [hl]; exact hil)], hd, j, hj, hc, F, M', Dd, w', hR, fun v H2 d M2 r w e q => ld.rt v H2 d M2 r w (Ext.trans w' e' e) q⟩, fun z => nomatch z⟩
    · have := hc.symm.trans rfl
      rw [(Er.at_ j x hx).2] at hc
      cases hc
/-- _law_names(e) in the suite -/
def tNm (as : List Addr) (i : Nat) (a : Addr) (cls : Value) (d : Option Addr) : TE := fun σ H Q => σ[i]? = some (some (.ref a)) ∧ d = none ∧ ∃ j, j < 13 ∧ cls = .ref (as.getD j 0) ∧ ∀ H', Same H H' → Q (.str (errNm j)) H'
theorem pe_nm {a : Addr} {oe : Obj} {cls : Value} {d : Option Addr} {pn : List (Addr × Obj)} (hX : DX X E k) (i : Nat) (nm : NmFn X.prog X.w X.K X.mg X.base kn as) (hz : L2N.Zn cls d oe) (hfl : ∃ vs, oe.data = .fields vs) (hk : kn ≤ k) (hi : X.N[i]? = some ("e" : Str)) (hln : X.env.kindOf "e" = some .local) (hg : Gl X "_law_names")
    (hst : starEach [.Name "e" p2] X.env = (false, eval (.Name "e" p2) X.env) :: starEach [] X.env := by rfl) (hpl : (backTo p3 (starEach [] X.env)).any (·.1) = false := by rfl) :
    PE (X.suite a ((a, oe) :: pn)) (.Call (.Name "_law_names" p1) [.Name "e" p2] [] p3) (tNm as i a cls d) := by
  obtain ⟨f, fd, hm, hkp, hbn, hF⟩ := nm.ex
  refine ⟨fun pins s σ H Q I ⟨hs, hd, j, hj, hc, h⟩ => ?_⟩
  have hgY : Gl (X.suite a ((a, oe) :: pn)) "_law_names" := hg
  refine wpAny_Call_Name_kw (ld_glob I hgY hm ?_ (by decide))
  have hpv : PE (X.suite a ((a, oe) :: pn)) (.Name "e" p2) (tVar i) := pv i hi (.inl hln) (by decide) (by decide)
  have hpa := pa_cons hpv (pa_nil (X := X.suite a ((a, oe) :: pn))) hst
  refine PySem.W.callWith_K (first := []) (h₀ := X.base) I.ok.mod.kin hkp (thn (hpa.run p3 pins s σ H (fun vs H1 => vs = [.ref a] ∧ H1 = H) I ⟨.ref a, hs, rfl, rfl⟩) fun us s1 ⟨vs, H1, I1, r, ev, eH⟩ => ⟨I1.kIn, ?_⟩) hst hpl
  subst ev
  subst eH
  cases r with
  | cons ru rr =>
    cases rr
    cases ru
    obtain ⟨vs0, hv0⟩ := hfl
    subst hd
    subst hc
    exact run_fnE (X := X.suite a ((a, oe) :: pn)) (p := (a, oe)) (E := fun _ _ _ _ => False) (hF j hj) ⟨(roomH_of (hX.room.mono hk)).dp, (roomH_of (hX.room.mono hk)).un⟩ ⟨rfl, vs0, hv0, hz.2.2 vs0 hv0⟩ hz.zc List.mem_cons_self hbn (fun pins H s e s' I c => by
      obtain ⟨_, _, _, _, _, _, _, _, _, _, _, _, z⟩ := c
      exact z.elim) I1 h
/-- return _law_names(e) -/
theorem suite_nm (hX : DX X E k) (i : Nat) (nm : NmFn X.prog X.w X.K X.mg X.base kn as) (hk : kn ≤ k := by decide) (hi : X.N[i]? = some ("e" : Str) := by rfl) (hln : X.env.kindOf "e" = some .local := by rfl) (hg : Gl X "_law_names" := by rfl)
    (hst : starEach [.Name "e" p2] X.env = (false, eval (.Name "e" p2) X.env) :: starEach [] X.env := by rfl) (hpl : (backTo p3 (starEach [] X.env)).any (·.1) = false := by rfl) :
    SuiteOk X as i (.Return (some (.Call (.Name "_law_names" p1) [.Name "e" p2] [] p3)) p4) fun D s M => D.rt (.str s) M := by
  intro a oe cls d pn hz hfl
  refine pss_mono (pss_one (ps_ret (pe_nm hX i nm hz hfl hk hi hln hg hst hpl))) fun Dh σ H ⟨hs, hd, j, hj, hc, F, M, Dd, w, q, lk⟩ => ?_
  refine ⟨hs, hd, j, hj, hc, fun H' hS => ?_⟩
  obtain ⟨w', e'⟩ := w.same hS
  exact lk _ H' _ M (.str _) w' e' q
/-- return (None, _law_names(e)) -/
theorem suite_nm2 {x1} {p6 p7 : Pos} {j : Nat} (hX : DX X E k) (i : Nat) (nm : NmFn X.prog X.w X.K X.mg X.base kn as) (hk : kn ≤ k := by decide) (hi : X.N[i]? = some ("e" : Str) := by rfl) (hln : X.env.kindOf "e" = some .local := by rfl) (hg : Gl X "_law_names" := by rfl)
    (hst : starEach [.Name "e" p2] X.env = (false, eval (.Name "e" p2) X.env) :: starEach [] X.env := by rfl) (hpl : (backTo p3 (starEach [] X.env)).any (·.1) = false := by rfl)
    (hs1 : starEach [.Constant .none j p6, .Call (.Name "_law_names" p1) [.Name "e" p2] [] p3] X.env = (false, eval (.Constant .none j p6) X.env) :: starEach [.Call (.Name "_law_names" p1) [.Name "e" p2] [] p3] X.env := by rfl)
    (hs2 : starEach [.Call (.Name "_law_names" p1) [.Name "e" p2] [] p3] X.env = (false, eval (.Call (.Name "_law_names" p1) [.Name "e" p2] [] p3) X.env) :: starEach [] X.env := by rfl) :
    SuiteOk X as i (.Return (some (.Tuple [.Constant .none j p6, .Call (.Name "_law_names" p1) [.Name "e" p2] [] p3] x1 p7)) p4) fun D s M => D.rt (.tup [.non, .str s]) M := by
  intro a oe cls d pn hz hfl
  refine pss_mono (pss_one (ps_ret (pe_tup (pa_cons pe_non (pa_cons (pe_nm hX i nm hz hfl hk hi hln hg hst hpl) pa_nil hs2) hs1)))) fun Dh σ H ⟨hs, hd, j, hj, hc, F, M, Dd, w, q, lk⟩ => ?_
  refine ⟨hs, hd, j, hj, hc, fun H' hS => ⟨by show 2 ≤ sizeLine; decide, fun p hp => ?_⟩⟩
  obtain ⟨w', e'⟩ := w.same hS
  exact lk _ _ _ M (.newTup w' hp (.cons .non (.cons (.str _) .nil))) (w'.laid hp) (Ext.trans w' e' (ext_laid hp)) q
end
end Bx

set_option Elab.async false
set_option linter.all false
set_option maxRecDepth 100000
set_option maxHeartbeats 4000000
namespace Bx
open PySem PySem.Spec L2
open PyProof.Rows hiding St
/-! ### defs that make lambdas -/
/-- the def named x has the code object c -/
def CodeAt (K : PySem.W.Frag) (mg : Str → Option Value) (x : Str) (c : Addr) : Prop := ∀ f o gd, mg x = some (.ref f) → K.lookup f = some o → o.data = .func gd → gd.code = .ref c
theorem fn_coreC {P : Program} {w : World} {K : PySem.W.Frag} {mg : Str → Option Value} {base : Heap} {k n : Nat} {x : Str} {spec : DSpec} {st : Stmt} {f c : Addr} {fd : FuncData} {N ps : List Str} {wb : DTS} (F : Fun K x x st f fd) (hm : mg x = some (.ref f)) (C : CodeAt K mg x c) (S : FnScope N ps (defScope st)) 
    (body : ∀ (cdv : Value) (A : Around) (outer : List Env) (s : Shared) (H : Hp) (E : XK), cdv = .ref c → DX (cxOf (L2N.CX P w) P w K mg base N x (defScope st) f cdv A outer s H E) E k → DSs (cxOf (L2N.CX P w) P w K mg base N x (defScope st) f cdv A outer s H E) E (defBody st) wb)
    (rd : ∀ ds M Q Ed, ds.length = n → spec ds M Q Ed → wb { nx := fun _ M' => Q .non M', rt := Q } ⟨startD N ds, Ed⟩ M) (hl : ps.length = n := by rfl) : FnOk P w K mg base (L2N.CX P w) (k + 1) f fd ps (DSp K n spec) := by
  refine Fun_okN F S (fun vs H Q E ⟨_, _, ds, _, _, hn, ra, _⟩ => by rw [ra.length, hn, hl]) (fun cdv A outer s H vs Q E ⟨o, ho, gd, hgd, hgc⟩ hr ⟨F1, M, ds, Qd, Ed, hn, ra, wd, lx, hs, lk⟩ => ?_)
  have hc : cdv = .ref c := hgc.symm.trans (C f o gd hm ho hgd)
  have tk : L2N.Takes (cxOf (L2N.CX P w) P w K mg base N x (defScope st) f cdv A outer s H E) fun cls d _ H => E cls d H := L2N.takes_of rfl rfl rfl rfl
  have hX : DX (cxOf (L2N.CX P w) P w K mg base N x (defScope st) f cdv A outer s H E) E k := ⟨rfl, passes_of rfl, L2N.passes_call tk fun _ _ _ _ z => z, tk, S.nd, hr⟩
  refine ⟨_, body cdv A outer s H E hc hX, F1, ⟨startD N ds, Ed⟩, M, { nx := fun _ M' => Qd .non M', rt := Qd }, ⟨start_rep ra, wd⟩, lx, ⟨fun σ' H' δ' M' sm e _ q => ?_, fun v H' d M' r w e q => lk v H' d M' r w e q, fun _ _ _ _ _ _ _ z => z.elim, fun _ _ _ _ _ _ _ z => z.elim⟩, rd ds M Qd Ed hn hs⟩
  exact lk .non H' .non M' .non sm.wd e q
theorem DFn.hereC {P : Program} {w : World} {K : PySem.W.Frag} {mg : Str → Option Value} {base : Heap} {k n : Nat} {x : Str} {c : Addr} {spec : DSpec} {st : Stmt} {N ps : List Str} {wb : DTS} (T : Here K mg x ps st) (C : CodeAt K mg x c) (S : FnScope N ps (defScope st))
    (body : ∀ (f : Addr) (cdv : Value) (A : Around) (outer : List Env) (s : Shared) (H : Hp) (E : XK), cdv = .ref c → DX (cxOf (L2N.CX P w) P w K mg base N x (defScope st) f cdv A outer s H E) E k → DSs (cxOf (L2N.CX P w) P w K mg base N x (defScope st) f cdv A outer s H E) E (defBody st) wb)
    (rd : ∀ ds M Q Ed, ds.length = n → spec ds M Q Ed → wb { nx := fun _ M' => Q .non M', rt := Q } ⟨startD N ds, Ed⟩ M) (hl : ps.length = n := by rfl) : DFn P w K mg base (k + 1) x n spec := by
  obtain ⟨f, fd, F, hm, hb⟩ := T
  exact ⟨f, fd, ps, hl, fn_coreC F hm C S (body f) rd hl, hm, F.kp, hb⟩
/-- one function and its promise -/
def One (f : Addr) (sp : DSpec) : Addr → DSpec → Prop := fun g s => g = f ∧ s = sp
theorem One.v {P : Program} {w : World} {K : PySem.W.Frag} {mg : Str → Option Value} {base : Heap} {k n : Nat} {f : Addr} {sp : DSpec} (h : FnV P w K mg base k n f sp) : ∀ g s, One f sp g s → FnV P w K mg base k n g s := fun g s ⟨e1, e2⟩ => by rw [e1, e2]; exact h
/-! ### _law_error, _law_told, _law_all_refused -/
def G_error (K : PySem.W.Frag) (ex : Str → Value) (f : Addr) (sp : DSpec) : DSpec := fun ds M Q _ => ds = [.ref f] ∧ Lv K f M ∧ sp [] M (fun _ M' => Q (.str "") M') (exTry ex fun s M' => Q (.str s) M')
def w_error (K : PySem.W.Frag) (ex : Str → Value) (f : Addr) (sp : DSpec) : DTS := wSeq (wTryW ex (fun D s M => D.rt (.str s) M) (wDrop (wCallV0 K (One f sp) 0))) (wRet (wC (.str "")))
theorem rd_error {K : PySem.W.Frag} {ex : Str → Value} {f : Addr} {sp : DSpec} : ∀ ds M Q Ed, ds.length = 1 → G_error K ex f sp ds M Q Ed → w_error K ex f sp { nx := fun _ M' => Q .non M', rt := Q } ⟨startD ["call", "e"] ds, Ed⟩ M := fun ds M Q Ed _ ⟨hd, hl, hs⟩ => by
  subst hd
  exact ⟨f, sp, ⟨rfl, rfl⟩, rfl, hl, hs⟩
def G_told (K : PySem.W.Frag) (ex : Str → Value) (f : Addr) (sp : DSpec) : DSpec := fun ds M Q _ => ds = [.ref f] ∧ Lv K f M ∧ sp [] M (fun d M' => 2 ≤ sizeLine ∧ Q (.tup [d, .str ""]) M') (exTry ex fun s M' => Q (.tup [.non, .str s]) M')
def w_told (K : PySem.W.Frag) (ex : Str → Value) (f : Addr) (sp : DSpec) : DTS := wTryW ex (fun D s M => D.rt (.tup [.non, .str s]) M) (wRet (wTup (wCons (wCallV0 K (One f sp) 0) (wCons (wC (.str "")) wNil))))
theorem rd_told {K : PySem.W.Frag} {ex : Str → Value} {f : Addr} {sp : DSpec} : ∀ ds M Q Ed, ds.length = 1 → G_told K ex f sp ds M Q Ed → w_told K ex f sp { nx := fun _ M' => Q .non M', rt := Q } ⟨startD ["call", "e"] ds, Ed⟩ M := fun ds M Q Ed _ ⟨hd, hl, hs⟩ => by
  subst hd
  exact ⟨f, sp, ⟨rfl, rfl⟩, rfl, hl, hs⟩
/-- all odds are refused with the error of this name -/
def G_all (K : PySem.W.Frag) (ex : Str → Value) (P : Addr) (nmF : Nat → Nat → Str) (f : Addr) (sp : DSpec) : DSpec := fun ds M Q _ => ∃ odds os nm, ds = [.ref f, odds, .str nm] ∧ sqI odds = some os ∧ os.length ≤ 1000 ∧ PyData.strOk nm = true ∧ Lv K f M ∧ M P = some (.tab nmF) ∧
  (∀ o ∈ os, ∀ g κ s Q' Ed', M g = none → (∀ j x, j < 13 → errXs[j]? = some x → errNm j = nm → Ed' (ex x) (updM M g (.clo κ s))) → sp [o] (updM M g (.clo κ s)) Q' Ed') ∧ Q (.bl true) M
def w_all (K : PySem.W.Frag) (ex : Str → Value) (P : Addr) (nmF : Nat → Nat → Str) (f : Addr) (sp : DSpec) : DTS :=
  wRet (wOp wEqV (wLc (wSeqI (wVar 1)) (.nm 3) (wTest (wOp wNeV (wCallL P nmF 1 (G_error K ex) [0, 3] (wCallV K (One f sp) 0 1 (wCons (wVar 1) wNil)) wNil) (wVar 2))) (wVar 3) [3]) (wLst wNil))
theorem lv_upd {K : PySem.W.Frag} {f g : Addr} {M : Mem} {o : MO} (h : Lv K f M) (n : M g = none) : Lv K f (updM M g o) := by
  rcases h with h | ⟨κ, s, h⟩
  · exact .inl h
  · refine .inr ⟨κ, s, ?_⟩
    rw [updM_ne (fun e => by subst e; rw [n] at h; cases h)]; exact h
theorem rd_all {K : PySem.W.Frag} {ex : Str → Value} {P : Addr} {nmF : Nat → Nat → Str} {f : Addr} {sp : DSpec} :
    ∀ ds M Q Ed, ds.length = 3 → G_all K ex P nmF f sp ds M Q Ed → w_all K ex P nmF f sp { nx := fun _ M' => Q .non M', rt := Q } ⟨startD ["call", "odds", "name", "odd"] ds, Ed⟩ M := fun ds M Q Ed _ ⟨odds, os, nm, hd, ho, hlen, hnm, hl, hP, hs, hq⟩ => by
  subst hd
  show match sqI odds with | some es => LcGoal es _ (.nm 3) _ _ [3] _ M | none => False
  rw [ho]
  refine ⟨Nat.le_trans hlen (by decide), fun _ acc M' => acc = [] ∧ M' = M, ⟨rfl, rfl⟩, fun i d acc M' hd ⟨ha, hM⟩ => ?_, fun acc M' _ ⟨ha, hM⟩ => ?_⟩
  · subst ha; subst hM
    refine ⟨hP, fun g κ hg => ⟨updM_same, rfl, rfl, .inr ⟨κ, _, updM_same⟩, updM_same, f, sp, ⟨rfl, rfl⟩, rfl, lv_upd hl hg, lv_upd hl hg, rfl, ?_⟩⟩
    refine hs d (List.mem_of_getElem? hd) g κ _ _ _ hg fun j x hj hx ht => ⟨j, x, hj, hx, rfl, ?_⟩
    rw [ht]
    refine fun M3 e3 => ?_
    cases e3.trans (delM_updM hg)
    have fitS : D.fit 64 (.str nm) = true := by simpa [D.fit] using hnm
    refine ⟨⟨fitS, fitS⟩, ?_⟩
    have : D.eqv (.str nm) (.str nm) = true := by simp [D.eqv]
    rw [this]
    exact ⟨rfl, rfl⟩
  · subst ha; subst hM
    exact ⟨by decide, ⟨by decide, by decide⟩, hq⟩
end Bx

set_option Elab.async false
set_option linter.all false
set_option maxRecDepth 100000
set_option maxHeartbeats 4000000
namespace Bx
open PySem PySem.Spec L2 LamX
open PyProof.Rows hiding St
/-! ### the end of a law whose defs make lambdas -/
/-- the tables at Ps stand in the memory -/
def TM (Ps : List Addr) (nm : Nat → Nat → Str) (M : Mem) : Prop := ∀ P ∈ Ps, M P = some (.tab nm)
theorem TM.new {Ps : List Addr} {nm : Nat → Nat → Str} {M : Mem} {p : Addr} {o : MO} (t : TM Ps nm M) (n : M p = none) : TM Ps nm (updM M p o) := fun P h => by
  rw [updM_ne (fun e => by subst e; rw [t _ h] at n; cases n)]; exact t P h
theorem TM.ex {Ps : List Addr} {nm : Nat → Nat → Str} {M M' : Mem} {p : Addr} (t : TM Ps nm M) (v : VatAt M p) (e : VatEx M M' p) : TM Ps nm M' := fun P h => by
  rw [e.2 P (fun q => by subst q; obtain ⟨a, b, z⟩ := v; rw [t _ h] at z; cases z)]; exact t P h
def spLawT (Ps : List Addr) (nm : Nat → Nat → Str) : DSpec := fun ds M Q _ => ∃ ns : List Int, ds = [.fro (ns.map D.int)] ∧ ns.length ≤ 63 ∧ TM Ps nm M ∧ ∀ M', Q (.bl true) M'
/-- what the top says of the tables -/
def TabsAt (p : Program) (mg : Str → Option Value) (h : Heap) : Prop := ∀ d ∈ recsOf p, ∃ a o fd c P, mg d.name = some (.ref a) ∧ h.get? a = some o ∧ o.data = .func fd ∧ fd.code = .ref c ∧ h.IsCode c P #[] ∧ h.TableAt c P #[]
/-- the def x has the code object c, its table lies at P, empty -/
structure TabOf (K : PySem.W.Frag) (mg : Str → Option Value) (h : Heap) (x : Str) (c P : Addr) : Prop where
  code : CodeAt K mg x c
  get : h.get? P = some { cls := .none, data := .fields #[] }
  out : K.lookup P = none
  hd : PySem.W.CodeHd h c P
theorem tab_mk {p : Program} {K : PySem.W.Frag} {h : Heap} {mg : Str → Option Value} {x : Str} {f c P : Addr} {oc oc2 : Value} {od od2 : Option Addr} {gd : FuncData} {osl osl2 : Array (Option Value)} {us : Array Value} (T : TabsAt p mg h) (X : K.In h) (G : h.Ns mainGlobals mg) (a : PySem.W.nsIn K mainGlobals x = some (some (.ref f)))
    (l : K.lookup f = some ⟨oc, od, .func gd, osl⟩) (hc : gd.code = .ref c) (lc : K.lookup c = some ⟨oc2, od2, .fields us, osl2⟩) (hp : us[11]? = some (.ref P)) (out : PySem.W.typeIn K (.ref P) = none) (hr : ((recsOf p).any fun d => d.name == x) = true) : TabOf K mg h x c P := by
  have hm := PySem.W.mg_of X G a
  obtain ⟨d, hd, hn⟩ := List.any_eq_true.mp hr
  have hn : d.name = x := beq_iff_eq.mp hn
  obtain ⟨a', o', fd', c', P', h1, h2, h3, h4, h5, h6⟩ := T d hd
  rw [hn, hm] at h1
  cases h1
  rw [X _ _ l] at h2
  cases h2
  cases h3
  rw [hc] at h4
  cases h4
  have hP : P' = P := by
    obtain ⟨⟨o, vs, g1, g2, g3, g4⟩, _⟩ := h6
    rw [X _ _ lc] at g1
    cases g1
    cases g3
    rw [hp] at g4
    exact (Value.ref.inj (Option.some.inj g4)).symm
  subst hP
  have out' : K.lookup P' = none := by
    cases e : K.lookup P' with
    | none => rfl
    | some o => simp [PySem.W.typeIn, e] at out
  refine ⟨fun g o gd' e1 e2 e3 => ?_, h6.2, out', PySem.W.CodeHd.of h5 h6⟩
  rw [hm] at e1
  cases e1
  rw [l] at e2
  cases e2
  cases e3
  exact hc
/-- one class says of another whether it is below it -/
structure ClsE (K : PySem.W.Frag) (C : Addr) : Prop where
  c : PySem.W.isClsIn K C = true
  t : PySem.W.typeIn K (.ref C) = some (.type "type")
  b : PySem.W.subIn K (.ref C) (.type "BaseException") = some true
structure ErrRow (K : PySem.W.Frag) (D : Addr) : Prop where
  g : PySem.W.findIn K (.ref D) "__getattribute__" = some (some (.builtin "BaseException.__getattribute__"))
  k : PySem.W.findIn K (.ref D) "__getattr__" = some none
  d : PySem.W.hasDictIn K D = true
  a : PySem.W.findIn K (.ref D) "__class__" = some (some (.builtin "object.__class__"))
  m : PySem.W.mroIn K D (.type "object") = some true
  v : PySem.W.subIn K (.ref D) (.type "ValueError") = some true
/-- all pairs -/
def Subs (K : PySem.W.Frag) (D : Addr) (i : Nat) : Nat → List Addr → Prop
  | _, [] => True
  | j, C :: r => PySem.W.subIn K (.ref D) (.ref C) = some (j == i) ∧ Subs K D i (j + 1) r
def Rows (K : PySem.W.Frag) (as : List Addr) (B : Addr) : Nat → List Addr → Prop
  | _, [] => True
  | i, D :: r => (ClsE K D ∧ ErrRow K D ∧ PySem.W.subIn K (.ref D) (.ref B) = some true ∧ Subs K D i 0 as) ∧ Rows K as B (i + 1) r
theorem subs_get {K : PySem.W.Frag} {D : Addr} {i : Nat} : ∀ {as : List Addr} {n : Nat}, Subs K D i n as → ∀ j a, as[j]? = some a → PySem.W.subIn K (.ref D) (.ref a) = some (n + j == i)
  | [], _, _, _, _, e => by simp at e
  | C :: r, n, ⟨h, t⟩, 0, a, e => by simp at e; subst e; simpa using h
  | C :: r, n, ⟨h, t⟩, j + 1, a, e => by
    have := subs_get t j a (by simpa using e)
    rw [this]
    congr 2
    omega
theorem rows_get {K : PySem.W.Frag} {as : List Addr} {B : Addr} : ∀ {l : List Addr} {n : Nat}, Rows K as B n l → ∀ i a, l[i]? = some a → ClsE K a ∧ ErrRow K a ∧ PySem.W.subIn K (.ref a) (.ref B) = some true ∧ Subs K a (n + i) 0 as
  | [], _, _, _, _, e => by simp at e
  | D :: r, n, ⟨h, t⟩, 0, a, e => by simp at e; subst e; simpa using h
  | D :: r, n, ⟨h, t⟩, i + 1, a, e => by
    have := rows_get t i a (by simpa using e)
    rw [show n + (i + 1) = n + 1 + i by omega]
    exact this
theorem kitOne_of {K : PySem.W.Frag} {D C : Addr} {b : Bool} (c : ClsE K C) (h : PySem.W.subIn K (.ref D) (.ref C) = some b) (hd : D = C → b = true) : PySem.W.kitOne K (.ref D) (.ref C) = some b := by
  unfold PySem.W.kitOne
  by_cases e : D = C
  · subst e
    rw [hd rfl]
    simp
  · have : ((Value.ref D == Value.ref C) = true) = False := by simp [e]
    rw [if_neg (by rw [this]; exact id)]
    have hc := c.c
    unfold PySem.W.isClsIn at hc
    show (if ((PySem.W.clsIn K C).isSome && PySem.W.typeIn K (.ref C) == some (.type "type")) = true then PySem.W.subIn K (.ref D) (.ref C) else none) = some b
    rw [if_pos (by rw [hc, c.t]; rfl)]
    exact h
theorem errs_mk {K : PySem.W.Frag} {h : Heap} {mg : Str → Option Value} {as : List Addr} {B : Addr} (X : K.In h) (G : h.Ns mainGlobals mg) (ns : ∀ i x, errXs[i]? = some x → PySem.W.nsIn K mainGlobals x = some (some (.ref (as.getD i 0)))) (hB : PySem.W.nsIn K mainGlobals "BoxError" = some (some (.ref B))) (cB : ClsE K B) (dB : PySem.W.hasDictIn K B = true)
    (hn : PySem.W.specialIn K (.builtin "object.__class__") "__get__" = some (some (.builtin "getset_descriptor.__get__"))) (ht : PySem.W.takesIn K (.builtin "object.__class__") = some true) (R : Rows K as B 0 as) (hl : as.length = 13) (nd : as.Nodup) : Errs K mg (exOf mg) as B := by
  refine ⟨fun i x e => ?_, hl, PySem.W.mg_of X G hB, fun i hi => ?_⟩
  · have m := PySem.W.mg_of X G (ns i x e)
    exact ⟨m, by unfold exOf; rw [m]; rfl⟩
  · have hi' : i < as.length := by rw [hl]; exact hi
    have eD : as.getD i 0 = as[i] := by rw [List.getD_eq_getElem?_getD, List.getElem?_eq_getElem hi']; rfl
    obtain ⟨c, r, sB, ss⟩ := rows_get R i as[i] (List.getElem?_eq_getElem hi')
    unfold errB
    rw [eD]
    have e1 : (as.zipIdx.all fun q => PySem.W.kitOne K (.ref as[i]) (.ref q.1) == some (q.2 == i)) = true := by
      rw [List.all_eq_true]
      intro q hq
      have hq := List.mem_zipIdx_iff_getElem?.mp hq
      have s := subs_get ss q.2 q.1 hq
      obtain ⟨cq, _⟩ := rows_get R q.2 q.1 hq
      rw [Nat.zero_add] at s
      rw [Nat.zero_add] at s
      rw [beq_iff_eq]
      refine kitOne_of cq s fun e => ?_
      have hl2 := (List.getElem?_eq_some_iff.mp hq).1
      have eq : as[i] = as[q.2] := e.trans ((List.getElem?_eq_some_iff.mp hq).2).symm
      have key := List.pairwise_iff_getElem.mp nd
      rcases Nat.lt_trichotomy i q.2 with z | z | z
      · exact absurd eq (key i q.2 hi' hl2 z)
      · rw [z]; simp
      · exact absurd eq.symm (key q.2 i hl2 hi' z)
    have e2 : PySem.W.kitOne K (.ref as[i]) (.type "ValueError") = some true := by
      unfold PySem.W.kitOne
      rw [if_neg (by simp)]
      show (if PySem.W.kitMeta "ValueError" = true then PySem.W.subIn K (.ref as[i]) (.type "ValueError") else none) = some true
      rw [if_pos (by decide +kernel)]
      exact r.v
    have e3 : PySem.W.exmOne K (.ref as[i]) (.ref B) = some true := PySem.W.exm_ref cB.b dB cB.t sB
    simp only [r.g, r.k, c.b, r.d, r.a, hn, ht, r.m, e1, e2, e3, beq_self_eq_true, Bool.and_self]
theorem ns13 {K : PySem.W.Frag} {a0 a1 a2 a3 a4 a5 a6 a7 a8 a9 a10 a11 a12 : Addr} (n0 : PySem.W.nsIn K mainGlobals "InvalidClause" = some (some (.ref a0))) (n1 : PySem.W.nsIn K mainGlobals "InvalidBox" = some (some (.ref a1))) (n2 : PySem.W.nsIn K mainGlobals "InvalidBoxes" = some (some (.ref a2))) (n3 : PySem.W.nsIn K mainGlobals "InvalidDay" = some (some (.ref a3))) (n4 : PySem.W.nsIn K mainGlobals "InvalidStrikes" = some (some (.ref a4))) (n5 : PySem.W.nsIn K mainGlobals "InvalidNumber" = some (some (.ref a5))) (n6 : PySem.W.nsIn K mainGlobals "InvalidNotes" = some (some (.ref a6))) (n7 : PySem.W.nsIn K mainGlobals "InvalidTruth" = some (some (.ref a7))) (n8 : PySem.W.nsIn K mainGlobals "InvalidText" = some (some (.ref a8))) (n9 : PySem.W.nsIn K mainGlobals "Shut" = some (some (.ref a9))) (n10 : PySem.W.nsIn K mainGlobals "Unlike" = some (some (.ref a10))) (n11 : PySem.W.nsIn K mainGlobals "NothingToUndo" = some (some (.ref a11))) (n12 : PySem.W.nsIn K mainGlobals "TooMany" = some (some (.ref a12))) :
    ∀ i x, errXs[i]? = some x → PySem.W.nsIn K mainGlobals x = some (some (.ref ([a0, a1, a2, a3, a4, a5, a6, a7, a8, a9, a10, a11, a12].getD i 0))) := fun i x e => by
  rcases i with _ | _ | _ | _ | _ | _ | _ | _ | _ | _ | _ | _ | _ | i
  all_goals first
    | (cases e; assumption)
    | (have e : ([] : List Str)[i]? = some x := e; cases e)
theorem law_callT {P : Program} {w : World} {K : PySem.W.Frag} {mg mb : Str → Option Value} {k : Nat} {fa a : Addr} {cs : List (Addr × Addr)} {nm : Nat → Nat → Str} {fd : FuncData} {x : Str} {s₁ : Shared} {vs : List Value} {ns : List Int}
    (KX : K.In s₁.heap) (hns : s₁.heap.Ns mainGlobals mg) (hb : s₁.heap.Ns builtinsNs mb) (hbb : ∀ x : Str, x ≠ "__name__" → mb x = bootBuiltins x) (hlim : s₁.heap.NoLimit) (hg : s₁.gens = #[])
    (hT : ∀ p ∈ cs, s₁.heap.get? p.2 = some { cls := .none, data := .fields #[] }) (nT : ∀ p ∈ cs, K.lookup p.2 = none) (C : ∀ p ∈ cs, PySem.W.CodeHd s₁.heap p.1 p.2)
    (hbm : ∃ (bm : Addr) (ob : Obj), mg "__builtins__" = some (.ref bm) ∧ bm ≠ builtinsNs ∧ s₁.heap.get? bm = some ob ∧ ob.cls = .type "module" ∧ ob.dict = some builtinsNs ∧ ob.data = .plain)
    (ha : s₁.heap.get? a = some { cls := .type "list", data := .seq vs.toArray }) (hi : IntsAre vs ns) (hl : ns.length ≤ 63) (hr : Room k callerA)
    (F : ∀ base : Heap, Mod K mg base → (∀ p ∈ cs, TabB base mg p.1 p.2) → FnOk P w K mg base (L2N.CX P w) k fa fd [x] (DSp K 1 (spLawT (cs.map (·.2)) nm))) (hbind : ∀ (s : Shared) (u : Value), BindsTo s fd ⟨[u], []⟩ [(x, u)]) :
    codeAny (model P w) callerA (.call (.ref fa) ⟨[.ref a], []⟩) (fun r s' => r = .ok (.ret (.bool true)) ∧ OldK s₁.heap s'.heap ∧ s'.os = s₁.os ∧ AllBare s'.gens) s₁ := by
  refine law_callTs (CX := L2N.CX P w) (sp := DSp K 1 (spLawT (cs.map (·.2)) nm)) KX hns hb hbb hlim hg hT nT C hbm ha hi (Nat.le_trans hl (by decide)) hr (fun base _ _ TB => ⟨fun vs H Q E ⟨_, _, ds, _, _, hn, ra, _⟩ => by rw [ra.length, hn]; rfl, fun A outer s H args us vs Q E hr e0 b r q => (F base e0.mod TB).run A outer s H args us vs Q E hr e0 b r q⟩) hbind (fun H hH hS => ?_) fun H e s' h => ?_
  · refine ⟨fun _ => False, fun b => if b ∈ cs.map (·.2) then some (.tab nm) else none, [.fro (ns.map D.int)], fun d _ => d = .bl true, fun _ _ => False, rfl, .cons (.fro ?_ (repAll_ints ns)) .nil, ⟨fun b m z => ?_, fun _ z => z.elim⟩, fun _ _ _ _ _ _ z => (xok_no z).elim, ⟨ns, rfl, hl, fun Q hQ => if_pos hQ, fun _ => rfl⟩, fun v H' d M' r _ _ q => ?_⟩
    · have nb : ¬ Bar (fun _ => False) (fun b => if b ∈ cs.map (·.2) then some (MO.tab nm) else none) a := by
        rintro (z | ⟨o, z⟩)
        · exact z
        · by_cases hm : a ∈ cs.map (·.2)
          · obtain ⟨p, hp, e⟩ := List.mem_map.mp hm
            have q := hT p hp
            rw [e, ha] at q
            have z' : Data.seq vs.toArray _ = Data.fields #[] := congrArg Obj.data (Option.some.inj q)
            cases z'
          · have z' := (if_neg hm).symm.trans z
            cases z'
      rcases hS with (hS | hS) | hS
      · exact .inl ⟨hS, nb⟩
      · exact .inr (.inl hS)
      · exact .inr (.inr hS)
    · by_cases hm : b ∈ cs.map (·.2)
      · have z' := (if_pos hm).symm.trans z
        cases z'
        obtain ⟨p, hp, e⟩ := List.mem_map.mp hm
        refine ⟨#[], by rw [← e]; exact hH p hp, True.intro, fun pos cv hc => ?_⟩
        have z : codeAmong pos [] = some cv := hc
        simp [codeAmong] at z
      · have z' := (if_neg hm).symm.trans z
        cases z'
    · subst q; cases r; rfl
  · obtain ⟨_, _, _, _, _, _, _, _, _, _, _, _, z⟩ := h
    exact z
theorem walk_ofTX {l : PySem.W.OpenLaw} {k : Nat} {q : Program} {loose : List Str} {XP : (Str → Option Value) → Heap → Prop} {YP : World → Heap → Prop} {d : DefRec} {K : Params → PySem.W.Frag} {x : Str}
    (hn : l.most = some 63) (hdf : d.params.defaults = []) (hr : Room k callerA) (hY : ∀ (w : World) (h : Heap), YP w h → (K w.params).In h)
    (F : ∀ (w : World) (mg : Str → Option Value) (fa : Addr) (h : Heap), (K w.params).In h → h.Ns mainGlobals mg → XP mg h → TabsAt q mg h → mg d.name = some (.ref fa) →
      ∃ (fd : FuncData) (cs : List (Addr × Addr)) (nm : Nat → Nat → Str), (∀ p ∈ cs, h.get? p.2 = some { cls := .none, data := .fields #[] } ∧ (K w.params).lookup p.2 = none ∧ PySem.W.CodeHd h p.1 p.2) ∧ (∀ (s : Shared) (u : Value), BindsTo s fd ⟨[u], []⟩ [(x, u)]) ∧
        ∀ base : Heap, Mod (K w.params) mg base → (∀ p ∈ cs, TabB base mg p.1 p.2) → FnOk l.prog w (K w.params) mg base (L2N.CX l.prog w) k fa fd [x] (DSp (K w.params) 1 (spLawT (cs.map (·.2)) nm))) :
    PySem.W.WalkO q loose XP YP l.row.toRowW d [] (fun f vs => PySem.call f vs) := by
  refine Att.attach_call hn hdf fun w s₀ s₁ mg mb fa o pm cd doc a vs ns G Y ho hd hcd hmg hobj hints hlen hg => ?_
  have KX := hY w _ Y
  obtain ⟨fd, cs, nm, hc, hb, hF⟩ := F w mg fa _ KX G.T.g G.X G.T.tab hmg
  exact law_callT KX G.T.g G.T.b G.T.builtins G.T.nolimit hg (fun p hp => (hc p hp).1) (fun p hp => (hc p hp).2.1) (fun p hp => (hc p hp).2.2) G.T.bmain hobj hints hlen hr hF hb
end Bx

set_option Elab.async false
set_option linter.all false
set_option maxRecDepth 100000
set_option maxHeartbeats 4000000
namespace Bx
open PySem PySem.Spec L2
open PyProof.Rows hiding St
/-! ### what _law_names tells -/
def nmLabels : Str := "clause box boxes day strikes number notes truth text shut unlike undo many value"
def w_names (i : Nat) (a : Addr) : DTS := wSeq (wAsg (wLst (wCons (wIsP 0 a (0 == i)) (wCons (wIsP 0 a (1 == i)) (wCons (wIsP 0 a (2 == i)) (wCons (wIsP 0 a (3 == i)) (wCons (wIsP 0 a (4 == i)) (wCons (wIsP 0 a (5 == i)) (wCons (wIsP 0 a (6 == i))
  (wCons (wIsP 0 a (7 == i)) (wCons (wIsP 0 a (8 == i)) (wCons (wIsP 0 a (9 == i)) (wCons (wIsP 0 a (10 == i)) (wCons (wIsP 0 a (11 == i)) (wCons (wIsP 0 a (12 == i)) (wCons (wIsP 0 a true) wNil))))))))))))))) (.nm 1))
  (wSeq (wAsg (wC (.str "clause box boxes day strikes number notes truth text shut unlike undo many value")) (.nm 2)) (wRet (wJoin (wC (.str " ")) (wLc (wZipL (wCons (wSplit (wVar 2) (wC (.str " "))) (wCons (wVar 1) wNil))) (.tp [.nm 3, .nm 4]) (wTest (wVar 4)) (wVar 3) [3, 4]))))
def goodW : D → Option D
  | .tup [w, .bl true] => some w
  | _ => none
def nmBits (i : Nat) : List Bool := [0 == i, 1 == i, 2 == i, 3 == i, 4 == i, 5 == i, 6 == i, 7 == i, 8 == i, 9 == i, 10 == i, 11 == i, 12 == i, true]
theorem nm_split : Txt.split "clause box boxes day strikes number notes truth text shut unlike undo many value" " " = errLs ++ [("value" : Str)] := by decide +kernel
theorem rd_names : ∀ (i : Nat) (a : Addr), i < 13 → w_names i a { nx := fun _ _ => False, rt := fun d _ => d = .str (errNm i) } ⟨startD ["e", "some", "labels", "word", "good"] [.ref a], fun _ _ => False⟩ fun _ => none := by
  intro i a hi
  refine ⟨rfl, rfl, rfl, rfl, rfl, rfl, rfl, rfl, rfl, rfl, rfl, rfl, rfl, rfl, sl, ?_⟩
  refine ⟨⟨rfl, by decide⟩, ?_⟩
  show LcGoal (zipD ((Txt.split "clause box boxes day strikes number notes truth text shut unlike undo many value" " ").map D.str) ((nmBits i).map D.bl)) _ _ _ _ _ _ _
  rw [nm_split]
  refine lc_pure goodW (by rw [zipD_len]; exact Nat.le_trans (Nat.min_le_right _ _) (by rw [List.length_map]; exact sl)) (fun j d hd Y N h1 h2 => ?_) ?_
  · obtain ⟨x, y, hx, hy, rfl⟩ := zipD_get hd
    rw [List.getElem?_map] at hx hy
    cases ex : (errLs ++ [("value" : Str)])[j]? with
    | none => rw [ex] at hx; cases hx
    | some w =>
      cases ey : (nmBits i)[j]? with
      | none => rw [ey] at hy; cases hy
      | some b =>
        rw [ex] at hx; rw [ey] at hy
        cases hx; cases hy
        cases b with
        | true => exact h1 _ rfl
        | false => exact h2 rfl
  · rcases i with _ | _ | _ | _ | _ | _ | _ | _ | _ | _ | _ | _ | _ | i
    all_goals first
      | omega
      | exact ⟨by decide, rfl⟩
end Bx

set_option Elab.async false
set_option linter.all false
set_option maxRecDepth 100000
set_option maxHeartbeats 4000000
namespace Bx
open PySem PySem.Spec L2
open PyProof.Rows hiding St
/-! ### list(range(..)), tuple(range(..)); a def's name as a value -/
theorem repAll_mapI {K : PySem.W.Frag} {B : Addr → Prop} {H : Hp} {α : Type} (g : α → Int) : ∀ l : List α, RepAll K B H (l.map fun i => V.int (g i)) (l.map fun i => D.int (g i))
  | [] => .nil
  | a :: l => .cons (.int _) (repAll_mapI g l)
section
variable {X : Cx} {E : XK} {k : Nat} {a b : Expr} {wa wb : DTE} {pos p q : Pos} {x : Str} {f : Addr}
abbrev DTR := DSt → Mem → (Int → Int → Mem → Prop) → Prop
def liftR (K : PySem.W.Frag) (E : XK) (w : DTR) : L2.St → Hp → (Int → Int → Hp → Prop) → Prop := fun σ H Q' => ∃ F δ M Q, Sm K F H σ δ.s M ∧ LkX K E F M H δ.x ∧ w δ M Q ∧ ∀ i j H' M', Wd K F M' H' → Ext F M H M' H' → Q i j M' → Q' i j H'
abbrev DRg (X : Cx) (E : XK) (e : Expr) (w : DTR) : Prop := PRg X e (liftR X.K E w)
def wRg1 (wa : DTE) : DTR := fun δ M Q => wa δ M fun d M1 => match d with | .int n => Q 0 n M1 | _ => False
def wRg2 (wa wb : DTE) : DTR := fun δ M Q => wa δ M fun d M1 => wb δ M1 fun e M2 => match d, e with | .int i, .int j => Q i j M2 | _, _ => False
theorem dr_1 (hm : X.mg "range" = none) (ha : DE X E a wa) (hg : Gl X "range" := by rfl) (na : starEach [a] X.env = (false, eval a X.env) :: starEach [] X.env := by rfl) : DRg X E (.Call (.Name "range" p) [a] [] pos) (wRg1 wa) := by
  intro pins s σ H Q' I ⟨F, δ, M, Q, sm, lx, hw, lk⟩
  refine prg_1 hg hm ha na pins s σ H Q' I ⟨F, δ, M, _, sm, lx, hw, fun v H1 d M1 r1 w1 e1 q1 => ?_⟩
  cases d with
  | int n => cases r1; exact ⟨n, rfl, lk 0 n H1 M1 w1 e1 q1⟩
  | _ => exact (show False from q1).elim
theorem dr_2 (hm : X.mg "range" = none) (ha : DE X E a wa) (hb : DE X E b wb) (hg : Gl X "range" := by rfl) (na : starEach [a, b] X.env = (false, eval a X.env) :: starEach [b] X.env := by rfl) (nb : starEach [b] X.env = (false, eval b X.env) :: starEach [] X.env := by rfl) (hp : (backTo pos (starEach [b] X.env)).any (·.1) = false := by rfl) :
    DRg X E (.Call (.Name "range" p) [a, b] [] pos) (wRg2 wa wb) := by
  intro pins s σ H Q' I ⟨F, δ, M, Q, sm, lx, hw, lk⟩
  refine prg_2 hg hm ha hb na nb hp pins s σ H Q' I ⟨F, δ, M, _, sm, lx, hw, fun v H1 d M1 r1 w1 e1 q1 => ?_⟩
  refine ⟨F, δ, M1, _, sm.ext w1 e1, lx.ext w1 e1, q1, fun u H2 e M2 r2 w2 e2 q2 => ?_⟩
  cases d with
  | int i =>
    cases e with
    | int j => cases r1; cases r2; exact ⟨i, j, rfl, rfl, lk i j H2 M2 w2 (Ext.trans w1 e1 e2) q2⟩
    | _ => exact (show False from q2).elim
  | _ => exact (show False from q2).elim
def wLstRg (w : DTR) : DTE := fun δ M Q => w δ M fun i j M1 => RgOk i j ∧ Q (.lst (rngD i (j - i).toNat)) M1
def wTupRg (w : DTR) : DTE := fun δ M Q => w δ M fun i j M1 => RgOk i j ∧ Q (.tup (rngD i (j - i).toNat)) M1
theorem de_lstRg {e : Expr} {w : DTR} (hX : DX X E k) (hm : X.mg "list" = none) (he : DRg X E e w) (hg : Gl X "list" := by rfl) (na : starEach [e] X.env = (false, eval e X.env) :: starEach [] X.env := by rfl) : DE X E (.Call (.Name "list" p) [e] [] pos) (wLstRg w) := by
  refine pe_mono (pe_listRg hX.calm hg hm he na) fun σ H Q' ⟨F, δ, M, Q, sm, lx, hw, lk⟩ => ?_
  exact ⟨F, δ, M, _, sm, lx, hw, fun i j H1 M1 w1 e1 q1 => ⟨q1.1, fun p hp => lk _ _ _ M1 (.newLst w1 hp (repAll_mapI _ _)) (w1.laid hp) (Ext.trans w1 e1 (ext_laid hp)) q1.2⟩⟩
theorem de_tupRg {e : Expr} {w : DTR} (hX : DX X E k) (hm : X.mg "tuple" = none) (he : DRg X E e w) (hg : Gl X "tuple" := by rfl) (na : starEach [e] X.env = (false, eval e X.env) :: starEach [] X.env := by rfl) : DE X E (.Call (.Name "tuple" p) [e] [] pos) (wTupRg w) := by
  refine pe_mono (pe_tupRg hX.calm hg hm he na) fun σ H Q' ⟨F, δ, M, Q, sm, lx, hw, lk⟩ => ?_
  exact ⟨F, δ, M, _, sm, lx, hw, fun i j H1 M1 w1 e1 q1 => ⟨q1.1, fun p hp => lk _ _ _ M1 (.newTup w1 hp (repAll_mapI _ _)) (w1.laid hp) (Ext.trans w1 e1 (ext_laid hp)) q1.2⟩⟩
theorem de_fnv (hm : X.mg x = some (.ref f)) (hg : Gl X x := by rfl) (hdb : (x == ("__debug__" : Str)) = false := by decide) : DE X E (.Name x pos) (wC (.ref f)) := dc_of (pe_glob hg hm (v := .ref f) rfl hdb) fun _ _ _ => .ref _
end
/-! ### short ways through the refusals -/
def MExt (M M' : Mem) : Prop := ∀ a o, M a = some o → M' a = some o
theorem MExt.upd {M : Mem} {f : Addr} {o : MO} (h : M f = none) : MExt M (updM M f o) := fun a u e => by
  rw [updM_ne (fun q => by subst q; rw [h] at e; cases e)]; exact e
theorem MExt.trans {M M1 M2 : Mem} (a : MExt M M1) (b : MExt M1 M2) : MExt M M2 := fun x o e => b x o (a x o e)
theorem Lv.ext {K : PySem.W.Frag} {f : Addr} {M M' : Mem} (h : Lv K f M) (e : MExt M M') : Lv K f M' := by
  rcases h with h | ⟨κ, s, h⟩
  · exact .inl h
  · exact .inr ⟨κ, s, e _ _ h⟩
theorem all_no {p : D → Bool} {l : List D} (h : l.all (fun d => D.fit 63 d && !p d) = true) : ∀ d ∈ l, D.fit 63 d = true ∧ p d = false := fun d hd => by
  have := List.all_eq_true.mp h d hd
  rw [Bool.and_eq_true] at this
  exact ⟨this.1, by have := this.2; cases q : p d; rfl; rw [q] at this; cases this⟩
theorem G_all_i {K : PySem.W.Frag} {ex : Str → Value} {P : Addr} {nmF : Nat → Nat → Str} {f : Addr} {κ : Clo} {s : List (Option D)} {js : List Nat} {te : DTE} {M : Mem} {odds : D} {os : List D} {nm : Str} {Q : DK} {Ed : Value → Mem → Prop} (hf : M f = none) (hP : M P = some (.tab nmF)) (ho : sqI odds = some os) (hl : os.length ≤ 1000) (hn : PyData.strOk nm = true)
    (h : ∀ o ∈ os, ∀ M' Q' Ed', MExt M M' → (∀ j x, j < 13 → errXs[j]? = some x → errNm j = nm → Ed' (ex x) M') → te ⟨lamD [o] s js, Ed'⟩ M' Q') (hq : Q (.bl true) (updM M f (.clo κ s))) :
    (updM M f (.clo κ s)) f = some (.clo κ s) ∧ [odds, D.str nm].length + 1 = 3 ∧ G_all K ex P nmF f (lamSpec f κ s js te) (.ref f :: [odds, .str nm]) (updM M f (.clo κ s)) Q Ed := by
  refine ⟨updM_same, rfl, odds, os, nm, rfl, ho, hl, hn, .inr ⟨κ, s, updM_same⟩, MExt.upd hf _ _ hP, fun o ho g κ' s' Q' Ed' hg hE => ⟨MExt.upd hg _ _ updM_same, h o ho _ _ _ ((MExt.upd hf).trans (MExt.upd hg)) hE⟩, ?_⟩
  exact hq
end Bx

set_option Elab.async false
set_option linter.all false
set_option maxRecDepth 100000
set_option maxHeartbeats 4000000
namespace Bx
open PySem PySem.Spec L2
open PyProof.Rows hiding St
/-! ### the module's own constants: texts, tuples -/
mutual
/-- the written part's value u is d -/
def KRep (K : PySem.W.Frag) : D → Value → Prop
  | .non, u => u = .none
  | .bl b, u => u = .bool b
  | .int i, u => ∃ t, u = .int i t
  | .str x, u => ∃ t, u = .str x t
  | .tup ds, u => ∃ a dd its n sl, u = .ref a ∧ K.lookup a = some ⟨.type "tuple", dd, .seq its n, sl⟩ ∧ its.size ≤ sizeLine ∧ KReps K ds its.toList
  | _, _ => False
def KReps (K : PySem.W.Frag) : List D → List Value → Prop
  | [], us => us = []
  | d :: ds, us => ∃ u r, us = u :: r ∧ KRep K d u ∧ KReps K ds r
end
mutual
theorem KRep.rep {K : PySem.W.Frag} {B : Addr → Prop} {H : Hp} : ∀ (d : D) (u : Value), KRep K d u → ∃ v, RelV v u ∧ Rep K B H v d
  | .non, _, h => ⟨.non, h, .non⟩
  | .bl b, _, h => ⟨.bl b, h, .bl b⟩
  | .int i, _, ⟨t, h⟩ => ⟨.int i, ⟨t, h⟩, .int i⟩
  | .str x, _, ⟨t, h⟩ => ⟨.str x, ⟨t, h⟩, .str x⟩
  | .tup ds, _, ⟨a, dd, its, n, sl, e, l, z, r⟩ => by
    obtain ⟨vs, r1, r2⟩ := KReps.rep (K := K) (B := B) (H := H) ds its.toList r
    exact ⟨.ref a, e, .tup (.inr ⟨_, its, n, l, rfl, rfl, z, r1⟩) r2⟩
  | .lst _, _, h => h.elim
  | .fro _, _, h => h.elim
  | .ref _, _, h => h.elim
theorem KReps.rep {K : PySem.W.Frag} {B : Addr → Prop} {H : Hp} : ∀ (ds : List D) (us : List Value), KReps K ds us → ∃ vs, Vals vs us ∧ RepAll K B H vs ds
  | [], us, h => by
    have h : us = [] := h
    subst h
    exact ⟨[], .nil, .nil⟩
  | d :: ds, us, h => by
    obtain ⟨u, r, e, h1, h2⟩ : ∃ u r, us = u :: r ∧ KRep K d u ∧ KReps K ds r := h
    subst e
    obtain ⟨v, a1, a2⟩ := KRep.rep (K := K) (B := B) (H := H) d u h1
    obtain ⟨vs, b1, b2⟩ := KReps.rep (K := K) (B := B) (H := H) ds r h2
    exact ⟨v :: vs, .cons a1 b1, .cons a2 b2⟩
end
/-- the module's name x holds d -/
def DatAt (K : PySem.W.Frag) (mg : Str → Option Value) (x : Str) (d : D) : Prop := ∃ u, mg x = some u ∧ KRep K d u
theorem dgd {X : Cx} {E : XK} {pos : Pos} {x : Str} {d : D} (h : DatAt X.K X.mg x d) (hg : Gl X x := by rfl) (hdb : (x == ("__debug__" : Str)) = false := by decide) : DE X E (.Name x pos) (wC d) := by
  obtain ⟨u, hm, r⟩ := h
  refine ⟨fun pins s σ H Q' I ⟨F, δ, M, Q, sm, lx, hw, lk⟩ => ?_⟩
  obtain ⟨v, r1, r2⟩ := KRep.rep (B := Bar F M) (H := H) d u r
  exact (pe_glob (X := X) (pos := pos) hg hm r1 hdb).run pins s σ H Q' I (lk v H d M r2 sm.wd (.refl _ _ _) hw)
theorem dat_mk {K : PySem.W.Frag} {h : Heap} {mg : Str → Option Value} {x : Str} {u : Value} {d : D} (X : K.In h) (G : h.Ns mainGlobals mg) (a : PySem.W.nsIn K mainGlobals x = some (some u)) (r : KRep K d u) : DatAt K mg x d := ⟨u, PySem.W.mg_of X G a, r⟩
theorem krep_tup {K : PySem.W.Frag} {a : Addr} {dd : Option Addr} {its : Array Value} {n : Nat} {sl : Array (Option Value)} {ds : List D} (l : K.lookup a = some ⟨.type "tuple", dd, .seq its n, sl⟩) (s : its.size ≤ sizeLine) (r : KReps K ds its.toList) : KRep K (.tup ds) (.ref a) := ⟨a, dd, its, n, sl, rfl, l, s, r⟩
theorem kreps_cons {K : PySem.W.Frag} {d : D} {u : Value} {ds : List D} {us : List Value} (h : KRep K d u) (t : KReps K ds us) : KReps K (d :: ds) (u :: us) := ⟨u, us, rfl, h, t⟩
end Bx

set_option Elab.async false
set_option linter.all false
set_option maxRecDepth 100000
set_option maxHeartbeats 4000000
namespace Bx
open PySem PySem.Spec L2
open PyProof.Rows hiding St
/-! ### strikes, boxes, what is refused -/
def isDaysD : List D → Bool
  | [] => true
  | d :: ds => isWholeD d 0 (10 ^ 30) && isDaysD ds
def isStrikesD : D → Bool
  | .tup ds => decide (ds.length ≤ 20) && isDaysD ds && risesD ds
  | _ => false
theorem isDaysD_ints : ∀ {ds : List D}, isDaysD ds = true → ∃ is : List Int, ds = is.map D.int
  | [], _ => ⟨[], rfl⟩
  | d :: ds, h => by
    have h : (isWholeD d 0 (10 ^ 30) && isDaysD ds) = true := h
    rw [Bool.and_eq_true] at h
    obtain ⟨i, rfl, _⟩ := isWholeD_int h.1
    obtain ⟨is, rfl⟩ := isDaysD_ints h.2
    exact ⟨i :: is, rfl⟩
theorem isDaysD_all : ∀ ds : List D, ds.all (fun d => isWholeD d 0 (10 ^ 30)) = isDaysD ds
  | [] => rfl
  | d :: ds => by rw [List.all_cons, isDaysD_all ds]; rfl
def boxR : D → Int
  | .tup [_, .int r] => r
  | _ => 0
/-- what is refused, in the program's order -/
def needAllE (vc vb vf vs : D) : Option Str := match isClauseD vc with
  | false => some "InvalidClause"
  | true => match isBoxD vb with
    | false => some "InvalidBox"
    | true => match isWholeD vf (boxR vb) (10 ^ 30) with
      | false => some "InvalidDay"
      | true => match isStrikesD vs with
        | false => some "InvalidStrikes"
        | true => none
structure Strikes (ss : List Int) : Prop where
  len : ss.length ≤ 20
  up : rising ss = true
  day : ∀ s ∈ ss, 0 ≤ s ∧ s ≤ 10 ^ 30
structure Box (l r : Int) : Prop where
  lo : 0 ≤ l
  le : l ≤ r
  hi : r ≤ 10 ^ 30
structure Valid (c : Cl) (l r f : Int) (ss : List Int) : Prop where
  c : c.Ok
  b : Box l r
  f : r ≤ f ∧ f ≤ 10 ^ 30
  s : Strikes ss
theorem isDaysD_of {ss : List Int} (h : ∀ s ∈ ss, 0 ≤ s ∧ s ≤ 10 ^ 30) : isDaysD (ss.map D.int) = true := by
  rw [← isDaysD_all, List.all_eq_true]
  intro d hd
  obtain ⟨s, hs, rfl⟩ := List.mem_map.mp hd
  show (decide (0 ≤ s) && decide (s ≤ 10 ^ 30)) = true
  rw [decide_eq_true (h s hs).1, decide_eq_true (h s hs).2]; rfl
theorem Strikes.ok {ss : List Int} (h : Strikes ss) : isStrikesD (.tup (ss.map D.int)) = true := by
  show (decide ((ss.map D.int).length ≤ 20) && isDaysD (ss.map D.int) && risesD (ss.map D.int)) = true
  rw [isDaysD_of h.day, rises_ints, h.up, List.length_map, decide_eq_true h.len]; rfl
theorem Strikes.pw {ss : List Int} (h : Strikes ss) : ss.Pairwise (· < ·) := rising_pw.mp h.up
theorem Strikes.fit {ss : List Int} (n : Nat) : D.fit (n + 1) (.tup (ss.map D.int)) = true := by rw [fit_tupC]; exact fit_ints n ss
theorem Box.ok {l r : Int} (h : Box l r) : isBoxD (boxD l r) = true := by
  show ((decide (0 ≤ l) && decide (l ≤ 10 ^ 30)) && (decide (0 ≤ r) && decide (r ≤ 10 ^ 30)) && decide (l ≤ r)) = true
  have := h.lo; have := h.le; have := h.hi
  rw [decide_eq_true h.lo, decide_eq_true h.le, decide_eq_true h.hi, decide_eq_true (show l ≤ 10 ^ 30 by omega), decide_eq_true (show 0 ≤ r by omega)]; rfl
theorem isWhole_ok {v lo hi : Int} (h : lo ≤ v ∧ v ≤ hi) : isWholeD (.int v) lo hi = true := by
  show (decide (lo ≤ v) && decide (v ≤ hi)) = true
  rw [decide_eq_true h.1, decide_eq_true h.2]; rfl
theorem Valid.none {c : Cl} {l r f : Int} {ss : List Int} (h : Valid c l r f ss) : needAllE c.d (boxD l r) (.int f) (.tup (ss.map D.int)) = none := by
  unfold needAllE
  rw [isClauseD_ok h.c, h.b.ok, h.s.ok]
  show (match isWholeD (.int f) r (10 ^ 30) with | false => _ | true => _) = _
  rw [isWhole_ok h.f]
theorem fit_cl {c : Cl} (h : c.Ok) : D.fit 64 c.d = true := fit_up (sp_cl h).1 (by decide)
theorem fit_box (l r : Int) : D.fit 64 (boxD l r) = true := fit_up (sp_box l r).1 (by decide)
/-! ### comprehensions over the image of a list -/
theorem lc_on {α : Type} {xs : List α} {f : α → D} {δ : DSt} {t : Tg} {te : DTE} {vs : List Nat} {Q : DK} {M : Mem} (g : α → D) (hlen : xs.length ≤ sizeLine)
    (turn : ∀ x ∈ xs, ∀ (Y : DK), Y (g x) M → t.setK (f x) (wipeD δ.s vs) fun s => te ⟨s, noX⟩ M fun y M3 => Y y M3) (done : Q (.lst (xs.map g)) M) : LcGoal (xs.map f) δ t wYes te vs Q M := by
  refine ⟨by rw [List.length_map]; exact hlen, fun i acc M' => M' = M ∧ acc = (xs.take i).map g, ⟨rfl, rfl⟩, fun i d acc M' hd ⟨eM, ea⟩ => ?_, fun acc M' _ ⟨eM, ea⟩ => ?_⟩
  · subst eM; subst ea
    rw [List.getElem?_map] at hd
    cases e : xs[i]? with
    | none => rw [e] at hd; cases hd
    | some x =>
      rw [e] at hd; cases hd
      exact turn x (List.mem_of_getElem? e) (fun y M3 => M3 = M' ∧ (xs.take i).map g ++ [y] = (xs.take (i + 1)).map g) ⟨rfl, by rw [List.take_add_one, e, List.map_append]; rfl⟩
  · subst eM; subst ea
    rw [List.length_map, List.take_length]
    exact done
theorem lc_fil {α : Type} {xs : List α} {f : α → D} {δ : DSt} {t : Tg} {tt : DTT} {te : DTE} {vs : List Nat} {Q : DK} {M : Mem} (p : α → Bool) (g : α → D) (hlen : xs.length ≤ sizeLine)
    (turn : ∀ x ∈ xs, ∀ (Y : DK) (N : Mem → Prop), (p x = true → Y (g x) M) → (p x = false → N M) → t.setK (f x) (wipeD δ.s vs) fun s => tt ⟨s, noX⟩ M fun b M2 => onT b (te ⟨s, noX⟩ M2 fun y M3 => Y y M3) (N M2)) (done : Q (.lst ((xs.filter p).map g)) M) : LcGoal (xs.map f) δ t tt te vs Q M := by
  refine ⟨by rw [List.length_map]; exact hlen, fun i acc M' => M' = M ∧ acc = ((xs.take i).filter p).map g, ⟨rfl, rfl⟩, fun i d acc M' hd ⟨eM, ea⟩ => ?_, fun acc M' _ ⟨eM, ea⟩ => ?_⟩
  · subst eM; subst ea
    rw [List.getElem?_map] at hd
    cases e : xs[i]? with
    | none => rw [e] at hd; cases hd
    | some x =>
      rw [e] at hd; cases hd
      have es : ((xs.take (i + 1)).filter p).map g = ((xs.take i).filter p).map g ++ (match p x with | true => [g x] | false => []) := by
        rw [List.take_add_one, e, List.filter_append, List.map_append]
        congr 1
        show ([x].filter p).map g = _
        rw [List.filter_cons]
        cases p x <;> rfl
      refine turn x (List.mem_of_getElem? e) (fun y M3 => M3 = M' ∧ ((xs.take i).filter p).map g ++ [y] = ((xs.take (i + 1)).filter p).map g) (fun M2 => M2 = M' ∧ ((xs.take i).filter p).map g = ((xs.take (i + 1)).filter p).map g) (fun h => ⟨rfl, ?_⟩) (fun h => ⟨rfl, ?_⟩)
      · rw [es, h]
      · rw [es, h]; simp
  · subst eM; subst ea
    rw [List.length_map, List.take_length]
    exact done
mutual
theorem eqv_self : ∀ (n : Nat) (d : D), D.fit n d = true → D.eqv d d = true
  | _, .non, _ => by simp [D.eqv]
  | _, .bl b, _ => by simp [D.eqv]
  | _, .int i, _ => by simp [D.eqv]
  | _, .str x, _ => by simp [D.eqv]
  | n + 1, .tup xs, h => by
    simp only [D.eqv]
    exact eqvAll_self n xs (by simpa [D.fit] using h)
  | n + 1, .lst xs, h => by
    simp only [D.eqv]
    exact eqvAll_self n xs (by simpa [D.fit] using h)
  | 0, .tup xs, h => by simp [D.fit] at h
  | 0, .lst xs, h => by simp [D.fit] at h
  | n, .fro xs, h => by cases n <;> simp [D.fit] at h
  | n, .ref a, h => by cases n <;> simp [D.fit] at h
theorem eqvAll_self : ∀ (n : Nat) (ds : List D), D.fitAll n ds = true → D.eqvAll ds ds = true
  | _, [], _ => by simp [D.eqvAll]
  | n, d :: ds, h => by
    have h : (D.fit n d && D.fitAll n ds) = true := by simpa [D.fitAll] using h
    rw [Bool.and_eq_true] at h
    simp only [D.eqvAll]
    rw [eqv_self n d h.1, eqvAll_self n ds h.2]; rfl
end
theorem eqv_nil (l : List D) : D.eqv (.lst l) (.lst []) = l.isEmpty := by cases l <;> simp [D.eqv, D.eqvAll]
theorem fit_lstMap {α : Type} {n : Nat} {f : α → D} {l : List α} (h : ∀ x ∈ l, D.fit n (f x) = true) : D.fit (n + 1) (.lst (l.map f)) = true := by
  simp only [D.fit]
  exact fitAll_mem.mpr fun d hd => by
    obtain ⟨x, hx, rfl⟩ := List.mem_map.mp hd
    exact h x hx
end Bx

set_option Elab.async false
set_option linter.all false
set_option maxRecDepth 100000
set_option maxHeartbeats 4000000
namespace Bx
open PySem PySem.Spec L2
open PyProof.Rows hiding St
/-! ### instances -/
def moI (C : Addr) : Option MO → Option (List (Str × D))
  | some (.ins C' _ fs) => match decide (C' = C) with | true => some fs | false => none
  | _ => none
def moIx : Option MO → Addr
  | some (.ins _ dx _) => dx
  | _ => 0
theorem moI_some {C : Addr} {o : Option MO} {fs : List (Str × D)} (h : moI C o = some fs) : o = some (.ins C (moIx o) fs) := by
  unfold moI at h
  split at h
  · rename_i C' dx fs'
    split at h
    · rename_i e
      have e := of_decide_eq_true e
      cases h
      subst e
      rfl
    · cases h
  · cases h
/-- the value that f holds, in both readings -/
theorem lookup_rep {K : PySem.W.Frag} {B : Addr → Prop} {H : Hp} {f : Str} : ∀ {gs : List (Str × V)} {fs : List (Str × D)}, gs.map (·.1) = fs.map (·.1) → RepAll K B H (gs.map (·.2)) (fs.map (·.2)) →
    (∀ d, fs.lookup f = some d → ∃ v, gs.lookup f = some v ∧ Rep K B H v d) ∧ (fs.lookup f = none → gs.lookup f = none)
  | [], [], _, _ => ⟨fun d h => (by cases h), fun _ => rfl⟩
  | [], _ :: _, h, _ => by cases h
  | _ :: _, [], h, _ => by cases h
  | (x, v) :: gs, (y, d) :: fs, h, r => by
    obtain ⟨h1, h2⟩ := List.cons.inj h
    have h1 : x = y := h1
    subst h1
    cases r with
    | cons r1 r2 =>
      obtain ⟨i1, i2⟩ := lookup_rep (f := f) h2 r2
      rw [List.lookup_cons, List.lookup_cons]
      cases q : f == x with
      | true => exact ⟨fun d' e => (by cases e; exact ⟨v, rfl, r1⟩), fun e => (by cases e)⟩
      | false => exact ⟨i1, i2⟩
/-- f stored -/
def putD (f : Str) (d : D) : List (Str × D) → List (Str × D)
  | [] => [(f, d)]
  | p :: r => match p.1 == f with | true => (f, d) :: r | false => p :: putD f d r
theorem put_rep {K : PySem.W.Frag} {B : Addr → Prop} {H : Hp} {f : Str} {v : V} {d : D} (rv : Rep K B H v d) : ∀ {gs : List (Str × V)} {fs : List (Str × D)}, gs.map (·.1) = fs.map (·.1) → RepAll K B H (gs.map (·.2)) (fs.map (·.2)) →
    (L2.putF f v gs).map (·.1) = (putD f d fs).map (·.1) ∧ RepAll K B H ((L2.putF f v gs).map (·.2)) ((putD f d fs).map (·.2)) := by
  intro gs
  induction gs with
  | nil =>
    intro fs h r
    cases fs with
    | nil => exact ⟨rfl, .cons rv .nil⟩
    | cons _ _ => cases h
  | cons p gs ih =>
    intro fs h r
    cases fs with
    | nil => cases h
    | cons q fs =>
      obtain ⟨x, v0⟩ := p
      obtain ⟨y, d0⟩ := q
      obtain ⟨h1, h2⟩ := List.cons.inj h
      have h1 : x = y := h1
      subst h1
      cases r with
      | cons r1 r2 =>
        obtain ⟨i1, i2⟩ := ih h2 r2
        unfold L2.putF putD
        by_cases e : x = f
        · rw [if_pos e]
          have eb : (x == f) = true := beq_iff_eq.mpr e
          show _ = List.map Prod.fst (match x == f with | true => (f, d) :: fs | false => (x, d0) :: putD f d fs) ∧ RepAll K B H _ (List.map Prod.snd (match x == f with | true => (f, d) :: fs | false => (x, d0) :: putD f d fs))
          rw [eb]
          exact ⟨by rw [List.map_cons, List.map_cons, h2, e], .cons rv r2⟩
        · rw [if_neg e]
          have eb : (x == f) = false := by
            cases q : x == f with
            | true => exact absurd (eq_of_beq q) e
            | false => rfl
          show _ = List.map Prod.fst (match x == f with | true => (f, d) :: fs | false => (x, d0) :: putD f d fs) ∧ RepAll K B H _ (List.map Prod.snd (match x == f with | true => (f, d) :: fs | false => (x, d0) :: putD f d fs))
          rw [eb]
          exact ⟨by rw [List.map_cons, List.map_cons, i1], .cons r1 i2⟩
section
variable {X : Cx} {E : XK} {k : Nat} {o e value : Expr} {wa wo wv : DTE} {f : Str} {pos pos' apos : Pos} {C : Addr}
/-- o.f -/
def wFld (C : Addr) (f : Str) (wo : DTE) : DTE := fun δ M Q => wo δ M fun x M1 => match x with | .ref p => onO (moI C (M1 p)) fun fs => onO (fs.lookup f) fun d => Q d M1 | _ => False
theorem ins_at {K : PySem.W.Frag} {F : Addr → Prop} {M : Mem} {H : Hp} {p : Addr} {fs : List (Str × D)} (w : Wd K F M H) (h : moI C (M p) = some fs) :
    M p = some (.ins C (moIx (M p)) fs) ∧ ∃ gs, H p = some (.ins C (moIx (M p)) gs) ∧ gs.map (·.1) = fs.map (·.1) ∧ RepAll K (Bar F M) H (gs.map (·.2)) (fs.map (·.2)) := by
  have h := moI_some h
  exact ⟨h, w.mem _ _ h⟩
theorem de_fld (hc : Cls X.K C) (hn : NoAttr X.K C f) (ho : DE X E o wo) (hb : attributeBase o f X.env (eval o X.env) = eval o X.env := by rfl) : DE X E (.Attribute o f pos) (wFld C f wo) := by
  refine pe_mono (pe_fld ho hb) fun σ H Q' ⟨F, δ, M, Q, sm, lx, hw, lk⟩ => ?_
  refine ⟨F, δ, M, _, sm, lx, hw, fun v H1 d M1 r1 w1 e1 q1 => ?_⟩
  cases d with
  | ref p =>
    cases r1
    obtain ⟨fs, h1, q1⟩ := onO_e q1
    obtain ⟨d, h2, q1⟩ := onO_e q1
    obtain ⟨_, gs, hH, ek, ra⟩ := ins_at w1 h1
    obtain ⟨v, hv, rv⟩ := (lookup_rep (f := f) ek ra).1 d h2
    exact ⟨p, C, _, gs, v, rfl, hH, hc, hn, hv, lk v H1 d M1 rv w1 e1 q1⟩
  | _ => exact (show False from q1).elim
/-- o.f = value -/
def wSetFld (C : Addr) (f : Str) (wv wo : DTE) : DTS := fun D δ M => wv δ M fun d M1 => wo δ M1 fun x M2 => match x with
  | .ref p => onO (moI C (M2 p)) fun fs => fs.length < 1000 ∧ D.nx δ (updM M2 p (.ins C (moIx (M2 p)) (putD f d fs))) | _ => False
theorem ds_fld (hc : Cls X.K C) (hn : NoAttr X.K C f) (hv : DE X E value wv) (ho : DE X E o wo) (hs : swapsWith value (some (.Attribute o f pos')) pos.line X.env = pure false := by rfl) : DS X E (.Assign [.Attribute o f pos'] value pos) (wSetFld C f wv wo) := by
  refine ps_mono (ps_fld ho hv hs) fun Dh σ H ⟨F, δ, M, Dd, sm, lx, ld, hw⟩ => ?_
  refine ⟨F, δ, M, _, sm, lx, hw, fun v H1 d M1 r1 w1 e1 q1 => ?_⟩
  refine ⟨F, δ, M1, _, sm.ext w1 e1, lx.ext w1 e1, q1, fun u H2 d2 M2 r2 w2 e2 q2 => ?_⟩
  cases d2 with
  | ref p =>
    cases r2
    obtain ⟨fs, h1, q3, q4⟩ := onO_e q2
    obtain ⟨hM, gs, hH, ek, ra⟩ := ins_at w2 h1
    have lg : gs.length = fs.length := by have := congrArg List.length ek; simpa using this
    refine ⟨p, C, _, gs, rfl, hH, hc, hn, by rw [lg]; exact q3, ?_⟩
    have r1 := Rep.ext w1 e2 d v r1
    obtain ⟨ek2, ra2⟩ := put_rep r1 ek ra
    have x : Ext F M2 H2 (updM M2 p (.ins C (moIx (M2 p)) (putD f d fs))) (upd H2 p (.ins C (moIx (M2 p)) (L2.putF f v gs))) := ext_write hM (w2.nf hM)
    have w3 : Wd X.K F (updM M2 p (.ins C (moIx (M2 p)) (putD f d fs))) (upd H2 p (.ins C (moIx (M2 p)) (L2.putF f v gs))) := w2.write hM ⟨_, upd_same, ek2, RepAll.ext w2 x _ _ ra2⟩
    exact ld.nx σ _ δ _ ((((sm.ext w1 e1).ext w2 e2)).ext w3 x) (Ext.trans w1 e1 (Ext.trans w2 e2 x)) rfl q4
  | _ => exact (show False from q2).elim
end
/-! ### methods -/
/-- the class C has the method m -/
def MHere (K : PySem.W.Frag) (C : Addr) (m qual : Str) (ps : List Str) (st : Stmt) : Prop := ∃ f fd, Fun K m qual st f fd ∧ Meth K C m f ∧ Binds K fd ps []
def MFn (P : Program) (w : World) (K : PySem.W.Frag) (mg : Str → Option Value) (base : Heap) (k : Nat) (C : Addr) (m : Str) (n : Nat) (spec : DSpec) : Prop :=
  ∃ f fd ps, ps.length = n ∧ FnOk P w K mg base (L2N.CX P w) k f fd ps (DSp K n spec) ∧ Meth K C m f ∧ Binds K fd ps []
theorem mhere_mk {K : PySem.W.Frag} {C : Addr} {m qual : Str} {ps : List Str} {st : Stmt} {f : Addr} {oc : Value} {od an : Option Addr} {osl : Array (Option Value)} {kV doc pm cdv ct : Value}
    (a : PySem.W.findIn K (.ref C) m = some (some (.ref f))) (i : PySem.W.isFn K (.ref f) = true) (l : K.lookup f = some ⟨oc, od, .func (PySem.W.fnOf m qual (defArgs st) (defBody st) (defScope st) .none kV doc pm an cdv ct), osl⟩) (c : PySem.W.codeIn K cdv qual = true) (k : PySem.W.keepIn K (.ref f) = true)
    (b : ∀ (kV doc pm : Value) (an : Option Addr) (cdv ct : Value) (us : List Value), us.length = ps.length → bindArgs (PySem.W.fnOf m qual (defArgs st) (defBody st) (defScope st) .none kV doc pm an cdv ct) ⟨us, []⟩ = pure (ps.zip us)) : MHere K C m qual ps st := by
  have F := fun_mk (st := st) l c k
  exact ⟨f, _, F, ⟨a, i, k⟩, F.binds b⟩
theorem fn_coreQ {P : Program} {w : World} {K : PySem.W.Frag} {mg : Str → Option Value} {base : Heap} {k n : Nat} {x qual : Str} {spec : DSpec} {st : Stmt} {f : Addr} {fd : FuncData} {N ps : List Str} {wb : DTS} (F : Fun K x qual st f fd) (S : FnScope N ps (defScope st)) 
    (body : ∀ (cdv : Value) (A : Around) (outer : List Env) (s : Shared) (H : Hp) (E : XK), DX (cxOf (L2N.CX P w) P w K mg base N qual (defScope st) f cdv A outer s H E) E k → DSs (cxOf (L2N.CX P w) P w K mg base N qual (defScope st) f cdv A outer s H E) E (defBody st) wb)
    (rd : ∀ ds M Q Ed, ds.length = n → spec ds M Q Ed → wb { nx := fun _ M' => Q .non M', rt := Q } ⟨startD N ds, Ed⟩ M) (hl : ps.length = n := by rfl) : FnOk P w K mg base (L2N.CX P w) (k + 1) f fd ps (DSp K n spec) := by
  refine Fun_okN F S (fun vs H Q E ⟨_, _, ds, _, _, hn, ra, _⟩ => by rw [ra.length, hn, hl]) (fun cdv A outer s H vs Q E _ hr ⟨F1, M, ds, Qd, Ed, hn, ra, wd, lx, hs, lk⟩ => ?_)
  have tk : L2N.Takes (cxOf (L2N.CX P w) P w K mg base N qual (defScope st) f cdv A outer s H E) fun cls d _ H => E cls d H := L2N.takes_of rfl rfl rfl rfl
  have hX : DX (cxOf (L2N.CX P w) P w K mg base N qual (defScope st) f cdv A outer s H E) E k := ⟨rfl, passes_of rfl, L2N.passes_call tk fun _ _ _ _ z => z, tk, S.nd, hr⟩
  refine ⟨_, body cdv A outer s H E hX, F1, ⟨startD N ds, Ed⟩, M, { nx := fun _ M' => Qd .non M', rt := Qd }, ⟨start_rep ra, wd⟩, lx, ⟨fun σ' H' δ' M' sm e _ q => ?_, fun v H' d M' r w e q => lk v H' d M' r w e q, fun _ _ _ _ _ _ _ z => z.elim, fun _ _ _ _ _ _ _ z => z.elim⟩, rd ds M Qd Ed hn hs⟩
  exact lk .non H' .non M' .non sm.wd e q
theorem MFn.here {P : Program} {w : World} {K : PySem.W.Frag} {mg : Str → Option Value} {base : Heap} {k n : Nat} {C : Addr} {m qual : Str} {spec : DSpec} {st : Stmt} {N ps : List Str} {wb : DTS} (T : MHere K C m qual ps st) (S : FnScope N ps (defScope st))
    (body : ∀ (f : Addr) (cdv : Value) (A : Around) (outer : List Env) (s : Shared) (H : Hp) (E : XK), DX (cxOf (L2N.CX P w) P w K mg base N qual (defScope st) f cdv A outer s H E) E k → DSs (cxOf (L2N.CX P w) P w K mg base N qual (defScope st) f cdv A outer s H E) E (defBody st) wb)
    (rd : ∀ ds M Q Ed, ds.length = n → spec ds M Q Ed → wb { nx := fun _ M' => Q .non M', rt := Q } ⟨startD N ds, Ed⟩ M) (hl : ps.length = n := by rfl) : MFn P w K mg base (k + 1) C m n spec := by
  obtain ⟨f, fd, F, hm, hb⟩ := T
  exact ⟨f, fd, ps, hl, fn_coreQ F S (body f) rd hl, hm, hb⟩
theorem MFn.imp {P : Program} {w : World} {K : PySem.W.Frag} {mg : Str → Option Value} {base : Heap} {k n : Nat} {C : Addr} {m : Str} {spec spec' : DSpec} (h : MFn P w K mg base k C m n spec) (q : ∀ ds M Q Ed, ds.length = n → spec' ds M Q Ed → spec ds M Q Ed) : MFn P w K mg base k C m n spec' := by
  obtain ⟨f, fd, ps, hl, F, hm, hb⟩ := h
  exact ⟨f, fd, ps, hl, F.imp fun vs H Q E ⟨F1, M, ds, Qd, Ed, hn, ra, wd, lx, hs, lk⟩ => ⟨F1, M, ds, Qd, Ed, hn, ra, wd, lx, q _ _ _ _ hn hs, lk⟩, hm, hb⟩
theorem MFn.mono {P : Program} {w : World} {K : PySem.W.Frag} {mg : Str → Option Value} {base : Heap} {j k n : Nat} {C : Addr} {m : Str} {spec : DSpec} (h : MFn P w K mg base j C m n spec) (l : j ≤ k) : MFn P w K mg base k C m n spec := by
  obtain ⟨f, fd, ps, hl, F, hm, hb⟩ := h
  exact ⟨f, fd, ps, hl, F.mono l, hm, hb⟩
theorem MFn.up {P : Program} {w : World} {K : PySem.W.Frag} {mg : Str → Option Value} {b0 b1 : Heap} {k n : Nat} {C : Addr} {m : Str} {spec : DSpec} (h : MFn P w K mg b0 k C m n spec) (u : Up K mg b0 b1) : MFn P w K mg b1 k C m n spec := by
  obtain ⟨f, fd, ps, hl, F, hm, hb⟩ := h
  exact ⟨f, fd, ps, hl, ⟨F.len, fun A outer s H args us vs Q E hr env hb r hsp => F.run A outer s H args us vs Q E hr (Env0.down env u) hb r hsp⟩, hm, hb⟩
/-- o.m(..) -/
def wMeth (C : Addr) (m : Str) (n : Nat) (spec : DSpec) (wo : DTE) (wr : DTA) : DTE := fun δ M Q => wo δ M fun x M1 => match x with
  | .ref p => onO (moI C (M1 p)) fun fs => fs.lookup m = none ∧ wr δ M1 fun ds M2 => ds.length + 1 = n ∧ spec (.ref p :: ds) M2 Q δ.x | _ => False
section
variable {X : Cx} {E : XK} {j k n : Nat} {spec : DSpec} {o e : Expr} {wo : DTE} {pos apos : Pos} {C : Addr} {m : Str} {es : List Expr} {wr : DTA}
theorem lift_meth {K : PySem.W.Frag} {σ : L2.St} {H : Hp} {Q' : VK} (h : liftE K E (wMeth C m n spec wo wr) σ H Q') : tMeth C m (DSp K n spec) [] E (liftE K E wo) (liftA K E wr) σ H Q' := by
  obtain ⟨F, δ, M, Q, sm, lx, hw, lk⟩ := h
  refine ⟨F, δ, M, _, sm, lx, hw, fun v H1 d M1 r1 w1 e1 q1 => ?_⟩
  cases d with
  | ref p =>
    cases r1
    obtain ⟨fs, h1, h2, q1⟩ := onO_e q1
    obtain ⟨_, gs, hH, ek, ra⟩ := ins_at w1 h1
    refine ⟨p, _, gs, rfl, hH, (lookup_rep ek ra).2 h2, ?_⟩
    refine ⟨F, δ, M1, _, sm.ext w1 e1, lx.ext w1 e1, q1, fun vs H2 ds M2 r2 w2 e2 q2 => ?_⟩
    show DSp K n spec (.ref p :: (vs ++ [])) H2 Q' E
    rw [List.append_nil]
    exact ⟨F, M2, .ref p :: ds, Q, δ.x, q2.1, .cons (.ref p) r2, w2, lx.ext w2 (Ext.trans w1 e1 e2), q2.2, fun v H' d M' r w e q => lk v H' d M' r w (Ext.trans w1 e1 (Ext.trans w2 e2 e)) q⟩
  | _ => exact (show False from q1).elim
theorem de_meth {pl : Sem Bool} (hX : DX X E k) (hc : Cls X.K C) (c : MFn X.prog X.w X.K X.mg X.base j C m n spec) (ho : DE X E o wo) (ha : DA X E (e :: es) wr) (hj : j ≤ k := by decide)
    (hst : starEach (e :: es) X.env = (false, eval e X.env) :: starEach es X.env := by rfl) (hpl : (backTo pos (starEach es X.env)).any (·.1) = false := by rfl)
    (ht : eval (.Call (.Attribute o m apos) (e :: es) [] pos) X.env = (do
      let ov ← eval o X.env
      standAt apos.atName
      let (f, first) ← holding [ov] (getMethod ov m pl)
      callWith pos f first (backTo pos (starEach (e :: es) X.env)) (backToKw pos (keywordEach [] X.env))) := by rfl) :
    DE X E (.Call (.Attribute o m apos) (e :: es) [] pos) (wMeth C m n spec wo wr) := by
  obtain ⟨f, fd, ps, hl, F, hm, hb⟩ := c
  exact pe_mono (pe_meth ho hc hm F (hX.room.mono hj) hb .nil hX.pass ha hst hpl ht) fun _ _ _ h => lift_meth h
theorem de_meth0 {pl : Sem Bool} (hX : DX X E k) (hc : Cls X.K C) (c : MFn X.prog X.w X.K X.mg X.base j C m n spec) (ho : DE X E o wo) (hj : j ≤ k := by decide)
    (ht : eval (.Call (.Attribute o m apos) [] [] pos) X.env = (do
      let ov ← eval o X.env
      standAt apos.atName
      let (f, first) ← holding [ov] (getMethod ov m pl)
      callWith pos f first (backTo pos (starEach [] X.env)) (backToKw pos (keywordEach [] X.env))) := by rfl) :
    DE X E (.Call (.Attribute o m apos) [] [] pos) (wMeth C m n spec wo wNil) := by
  obtain ⟨f, fd, ps, hl, F, hm, hb⟩ := c
  refine pe_mono (pe_meth0 ho hc hm F (hX.room.mono hj) hb .nil hX.pass ht) fun σ H Q' h => ?_
  obtain ⟨F1, δ, M, Q, sm, lx, hw, lk⟩ := lift_meth h
  exact ⟨F1, δ, M, Q, sm, lx, hw, fun v H1 d M1 r1 w1 e1 q1 => by
    obtain ⟨a, dx, fs, h1, h2, h3, F2, δ2, M2, Q2, sm2, lx2, hw2, lk2⟩ := lk v H1 d M1 r1 w1 e1 q1
    exact ⟨a, dx, fs, h1, h2, h3, lk2 [] H1 [] M2 .nil sm2.wd (.refl _ _ _) hw2⟩⟩
end
/-! ### C(..) -/
/-- the class named x stands at C and makes its instances by the def at f -/
structure ClsAt (K : PySem.W.Frag) (mg : Str → Option Value) (x : Str) (C : Addr) : Prop where
  cls : Cls K C
  at_ : mg x = some (.ref C)
  makes : PySem.W.makesIn K C = true
  kp : PySem.W.keepIn K (.ref C) = true
theorem cls_mk {K : PySem.W.Frag} {h : Heap} {mg : Str → Option Value} {x : Str} {C : Addr} (X : K.In h) (G : h.Ns mainGlobals mg) (a : PySem.W.nsIn K mainGlobals x = some (some (.ref C))) (pg : PySem.W.plainGet K C Str.empty = true) (hd : PySem.W.hasDictIn K C = true) (po : PySem.W.plainOver K C = true)
    (sa : PySem.W.findIn K (.ref C) "__setattr__" = some (some (.builtin "object.__setattr__"))) (mk : PySem.W.makesIn K C = true) (kc : PySem.W.keepIn K (.ref C) = true) : ClsAt K mg x C := ⟨⟨pg, hd, po, sa⟩, PySem.W.mg_of X G a, mk, kc⟩
theorem noattr_mk {K : PySem.W.Frag} {C : Addr} {f : Str} (h : PySem.W.findIn K (.ref C) f = some none) : NoAttr K C f := h
theorem MFn.void {P : Program} {w : World} {K : PySem.W.Frag} {mg : Str → Option Value} {base : Heap} {k n : Nat} {C : Addr} {m qual : Str} {st : Stmt} {ps : List Str} (T : MHere K C m qual ps st) (hl : ps.length = n := by rfl) : MFn P w K mg base k C m n (fun _ _ _ _ => False) := by
  obtain ⟨f, fd, F, hm, hb⟩ := T
  exact ⟨f, fd, ps, hl, ⟨fun vs H Q E ⟨_, _, _, _, _, _, _, _, _, z, _⟩ => z.elim, fun A outer s H args us vs Q E hr env hb r ⟨_, _, _, _, _, _, _, _, _, z, _⟩ => z.elim⟩, hm, hb⟩
/-! ### short ways -/
theorem lk_hit {f : Str} {d : D} {r : List (Str × D)} : List.lookup f ((f, d) :: r) = some d := by rw [List.lookup_cons, beq_self_eq_true]
theorem lk_miss {f g : Str} {d : D} {r : List (Str × D)} (h : (f == g) = false) : List.lookup f ((g, d) :: r) = List.lookup f r := by rw [List.lookup_cons, h]
theorem moI_ins {C dx : Addr} {fs : List (Str × D)} : moI C (some (.ins C dx fs)) = some fs := by
  show (match decide (C = C) with | true => some fs | false => none) = some fs
  rw [decide_eq_true rfl]
theorem fld_set {C p dx : Addr} {f : Str} {fs : List (Str × D)} {d : D} {M : Mem} {N : Mem → Prop} (h : M p = some (.ins C dx fs)) (l : fs.length < 1000) (q : N (updM M p (.ins C dx (putD f d fs)))) :
    onO (moI C (M p)) fun fs => fs.length < 1000 ∧ N (updM M p (.ins C (moIx (M p)) (putD f d fs))) := by
  rw [h, moI_ins]; exact ⟨l, q⟩
theorem fld_get {C p dx : Addr} {f : Str} {fs : List (Str × D)} {d : D} {M : Mem} {Q : D → Prop} (h : M p = some (.ins C dx fs)) (hl : fs.lookup f = some d) (q : Q d) : onO (moI C (M p)) fun fs => onO (fs.lookup f) Q := by
  rw [h, moI_ins]; exact onO_i (a := fs) rfl (onO_i hl q)
theorem meth_i {C p dx : Addr} {m : Str} {fs : List (Str × D)} {M : Mem} {R : Prop} (h : M p = some (.ins C dx fs)) (hl : fs.lookup m = none) (q : R) : onO (moI C (M p)) fun fs => fs.lookup m = none ∧ R := by
  rw [h, moI_ins]; exact ⟨hl, q⟩
theorem onT_K {b : Bool} {wa wb : DTE} {δ : DSt} {M : Mem} {Q : DK} (P : D → Mem → Prop) (rest : ∀ d M', P d M' → Q d M') (h : ∀ Q' : DK, (∀ d M', P d M' → Q' d M') → onT b (wa δ M Q') (wb δ M Q')) : onT b (wa δ M Q) (wb δ M Q) := h Q rest
theorem onT_S {b : Bool} {t u : DTS} {Dd : DEnds} {δ : DSt} {M : Mem} (P : DSt → Mem → Prop) (rest : ∀ δ' M', P δ' M' → Dd.nx δ' M') (h : ∀ nx' : DSt → Mem → Prop, (∀ δ' M', P δ' M' → nx' δ' M') → onT b (t { Dd with nx := nx' } δ M) (u { Dd with nx := nx' } δ M)) : onT b (t Dd δ M) (u Dd δ M) := h Dd.nx rest
def wMake (C : Addr) (n : Nat) (spec : DSpec) (wr : DTA) : DTE := fun δ M Q => wr δ M fun ds M1 => ∀ p dx, M1 p = none → ds.length + 1 = n ∧ spec (.ref p :: ds) (updM M1 p (.ins C dx [])) (fun v M2 => v = .non ∧ Q (.ref p) M2) δ.x
section
variable {X : Cx} {E : XK} {j k n : Nat} {spec : DSpec} {e : Expr} {pos p : Pos} {C : Addr} {x : Str} {es : List Expr} {wr : DTA}
theorem de_make (hX : DX X E k) (hc : ClsAt X.K X.mg x C) (c : MFn X.prog X.w X.K X.mg X.base j C "__init__" n spec) (ha : DA X E (e :: es) wr) (hj : j + 1 ≤ k := by decide) (hg : Gl X x := by rfl) (hdb : (x == ("__debug__" : Str)) = false := by decide)
    (he : starEach (e :: es) X.env = (false, eval e X.env) :: starEach es X.env := by rfl) (hpl : (backTo pos (starEach es X.env)).any (·.1) = false := by rfl) : DE X E (.Call (.Name x p) (e :: es) [] pos) (wMake C n spec wr) := by
  obtain ⟨f, fd, ps, hl, F, hm, hb⟩ := c
  refine pe_mono (pe_make ⟨hc.makes, hm.at_, hm.fn, hc.kp⟩ F (hX.room.mono hj) hg hc.at_ hb .nil hX.pass ha hdb he hpl) fun σ H Q' ⟨F1, δ, M, Q, sm, lx, hw, lk⟩ => ?_
  refine ⟨F1, δ, M, _, sm, lx, hw, fun vs H1 ds M1 r1 w1 e1 q1 a dx ha hdx hne => ?_⟩
  show DSp X.K n spec (.ref a :: (vs ++ [])) _ _ E
  rw [List.append_nil]
  have n1 : (upd H1 dx (.own a)) a = none := by rw [upd_ne (Ne.symm hne)]; exact ha
  have w2 : Wd X.K F1 M1 (upd H1 dx (.own a)) := w1.laid hdx
  have x2 : Ext F1 M1 H1 M1 (upd H1 dx (.own a)) := ext_laid hdx
  have x3 : Ext F1 M1 (upd H1 dx (.own a)) (updM M1 a (.ins C dx [])) (upd (upd H1 dx (.own a)) a (.ins C dx [])) := ext_laidM n1
  have w3 : Wd X.K F1 (updM M1 a (.ins C dx [])) (upd (upd H1 dx (.own a)) a (.ins C dx [])) := w2.laidM (m := .ins C dx []) n1 ⟨[], upd_same, rfl, .nil⟩
  have x13 := Ext.trans w2 x2 x3
  have q := q1 a dx (w1.noM ha)
  refine ⟨F1, _, .ref a :: ds, _, δ.x, q.1, .cons (.ref a) (RepAll.ext w1 x13 _ _ r1), w3, lx.ext w3 (Ext.trans w1 e1 x13), q.2, fun v H' d M' r w e q => ?_⟩
  obtain ⟨hd, q⟩ := q
  subst hd
  cases r
  exact ⟨rfl, lk (.ref a) H' (.ref a) M' (.ref a) w (Ext.trans w1 e1 (Ext.trans w3 x13 e)) q⟩
end
end Bx

set_option Elab.async false
set_option linter.all false
set_option maxRecDepth 100000
set_option maxHeartbeats 4000000
namespace Bx
open PySem PySem.Spec L2
open PyProof.Rows hiding St
/-! ### dicts whose keys are tuples of any depth -/
mutual
inductive KeyV (K : PySem.W.Frag) (H : Hp) : V → NestedKey → Prop
  | non : KeyV K H .non .none
  | bl (b : Bool) : KeyV K H (.bl b) (.num (if b = true then 1 else 0))
  | int (i : Int) : KeyV K H (.int i) (.num i)
  | tup {a : Addr} {xs : List V} {ks : List NestedKey} : SqT K H a xs → KeyVs K H xs ks → KeyV K H (.ref a) (.tup ks)
inductive KeyVs (K : PySem.W.Frag) (H : Hp) : List V → List NestedKey → Prop
  | nil : KeyVs K H [] []
  | cons {v : V} {vs : List V} {k : NestedKey} {ks : List NestedKey} : KeyV K H v k → KeyVs K H vs ks → KeyVs K H (v :: vs) (k :: ks)
end
mutual
theorem keyV_of {K : PySem.W.Frag} {B : Addr → Prop} {H : Hp} : ∀ (d : D) (v : V) (k : NestedKey), nk d = some k → Rep K B H v d → KeyV K H v k
  | .non, _, _, e, r => by cases r; cases e; exact .non
  | .bl b, _, _, e, r => by cases r; cases e; exact .bl b
  | .int i, _, _, e, r => by cases r; cases e; exact .int i
  | .tup ds, _, k, e, r => by
    cases r with
    | tup hs ha =>
      have e : (nks ds).map NestedKey.tup = some k := by simpa only [nk] using e
      obtain ⟨ks, e1, e2⟩ := Option.map_eq_some_iff.mp e
      subst e2
      exact .tup hs (keyVs_of ds _ ks e1 ha)
  | .str _, _, _, e, _ => by cases e
  | .lst _, _, _, e, _ => by cases e
  | .fro _, _, _, e, _ => by cases e
  | .ref _, _, _, e, _ => by cases e
theorem keyVs_of {K : PySem.W.Frag} {B : Addr → Prop} {H : Hp} : ∀ (ds : List D) (vs : List V) (ks : List NestedKey), nks ds = some ks → RepAll K B H vs ds → KeyVs K H vs ks
  | [], _, _, e, r => by cases r; cases e; exact .nil
  | d :: ds, _, ks, e, r => by
    cases r with
    | cons r1 r2 =>
      cases h1 : nk d with
      | none => simp only [nks, h1] at e; cases e
      | some k =>
        cases h2 : nks ds with
        | none => simp only [nks, h1, h2] at e; cases e
        | some l =>
          simp only [nks, h1, h2] at e
          cases e
          exact .cons (keyV_of d _ k h1 r1) (keyVs_of ds _ l h2 r2)
end
mutual
theorem hash_eq {K : PySem.W.Frag} {H : Hp} {w : World} : ∀ (k : NestedKey) (v : V), KeyV K H v k → k.hash w = nkHash k
  | .none, _, _ => rfl
  | .num _, _, _ => rfl
  | .text _, _, h => by cases h
  | .tup ks, _, h => by
    cases h with
    | tup _ ha => rw [NestedKey.hash, nkHash, hashes_eq ks _ ha]
theorem hashes_eq {K : PySem.W.Frag} {H : Hp} {w : World} : ∀ (ks : List NestedKey) (vs : List V), KeyVs K H vs ks → NestedKey.hashes w ks = nkHashes ks
  | [], _, _ => rfl
  | k :: ks, _, h => by
    cases h with
    | cons h1 h2 => rw [NestedKey.hashes, nkHashes, hash_eq k _ h1, hashes_eq ks _ h2]
end
/-- a dict with nested keys at d -/
def NdAt (K : PySem.W.Frag) (H : Hp) (d : Addr) (gs : List (NestedKey × Addr × V)) : Prop := H d = some (NDO d gs) ∧ ∀ g ∈ gs, KeyV K H (.ref g.2.1) g.1 ∧ g.1.depth ≤ 8
def ndGet (gs : List (NestedKey × Addr × V)) (k : NestedKey) : Option V := (gs.find? fun g => decide (g.1 = k)).map (·.2.2)
def ndPut (gs : List (NestedKey × Addr × V)) (k : NestedKey) (a : Addr) (v : V) : List (NestedKey × Addr × V) :=
  match (ndGet gs k).isSome with
  | true => gs.map fun g => match decide (g.1 = k) with | true => (g.1, g.2.1, v) | false => g
  | false => gs ++ [(k, a, v)]
abbrev NdR : List (NestedKey × Addr × V) → List (NestedKey × Addr × Value) → Prop := Paired (fun (p : NestedKey × Addr × V) (q : NestedKey × Addr × Value) => q.1 = p.1 ∧ q.2.1 = p.2.1 ∧ RelV p.2.2 q.2.2)
theorem NdR.get (k : NestedKey) : ∀ {gs : List (NestedKey × Addr × V)} {xs : List (NestedKey × Addr × Value)}, NdR gs xs →
    (∀ v, ndGet gs k = some v → ∃ p, atKey xs k = some p ∧ RelV v p.2) ∧ (ndGet gs k = none → atKey xs k = none)
  | _, _, .nil => ⟨fun v h => (by cases h), fun _ => rfl⟩
  | g :: gs, x :: xs, .cons r t => by
    obtain ⟨i1, i2⟩ := NdR.get k t
    unfold ndGet atKey at i1 i2 ⊢
    rw [List.find?_cons, List.find?_cons]
    have e : decide (x.1 = k) = decide (g.1 = k) := by rw [r.1]
    rw [e]
    cases q : decide (g.1 = k) with
    | true => exact ⟨fun v h => (by cases h; exact ⟨x.2, rfl, r.2.2⟩), fun h => (by cases h)⟩
    | false => exact ⟨i1, i2⟩
theorem NdR.put (k : NestedKey) (a : Addr) {v : V} {u : Value} (rv : RelV v u) {gs : List (NestedKey × Addr × V)} {xs : List (NestedKey × Addr × Value)} (h : NdR gs xs) : NdR (ndPut gs k a v) (storedH xs k a u) := by
  obtain ⟨i1, i2⟩ := NdR.get k h
  unfold ndPut
  cases q : ndGet gs k with
  | none =>
    rw [storedH_new (i2 q)]
    show NdR (gs ++ [(k, a, v)]) _
    clear i1 i2 q
    induction h with
    | nil => exact .cons ⟨rfl, rfl, rv⟩ .nil
    | cons r _ ih => exact .cons r ih
  | some v0 =>
    obtain ⟨p, hp, _⟩ := i1 v0 q
    rw [storedH_old hp]
    show NdR (gs.map _) _
    clear i1 i2 q hp
    induction h with
    | nil => exact .nil
    | @cons g x gs xs r _ ih =>
      refine .cons ?_ ih
      unfold putAt
      dsimp only
      have e1 := r.1
      cases q : decide (g.1 = k) with
      | true =>
        have ex : x.1 = k := e1.trans (of_decide_eq_true q)
        rw [if_pos ex]; exact ⟨e1, r.2.1, rv⟩
      | false =>
        have ex : ¬ x.1 = k := fun z => of_decide_eq_false q (e1.symm.trans z)
        rw [if_neg ex]; exact r
theorem NdR.mem : ∀ {gs : List (NestedKey × Addr × V)} {xs : List (NestedKey × Addr × Value)}, NdR gs xs → ∀ x ∈ xs, ∃ g ∈ gs, x.1 = g.1 ∧ x.2.1 = g.2.1
  | _, _, .nil, _, h => by cases h
  | g :: gs, y :: xs, .cons r t, x, h => by
    rcases List.mem_cons.mp h with e | h
    · exact ⟨g, List.mem_cons_self, by rw [e]; exact r.1, by rw [e]; exact r.2.1⟩
    · obtain ⟨g', h1, h2⟩ := NdR.mem t x h
      exact ⟨g', List.mem_cons_of_mem _ h1, h2⟩
theorem ndPut_len (gs : List (NestedKey × Addr × V)) (k : NestedKey) (a : Addr) (v : V) : (ndPut gs k a v).length ≤ gs.length + 1 := by
  unfold ndPut
  cases (ndGet gs k).isSome with
  | true => show (gs.map _).length ≤ _; rw [List.length_map]; omega
  | false => show (gs ++ [(k, a, v)]).length ≤ _; rw [List.length_append]; exact Nat.le_refl _
theorem ndPut_mem {gs : List (NestedKey × Addr × V)} {k : NestedKey} {a : Addr} {v : V} {g : NestedKey × Addr × V} (h : g ∈ ndPut gs k a v) : (∃ g' ∈ gs, g'.1 = g.1 ∧ g'.2.1 = g.2.1) ∨ (g.1 = k ∧ g.2.1 = a) := by
  unfold ndPut at h
  cases q : (ndGet gs k).isSome with
  | true =>
    rw [q] at h
    obtain ⟨g', hg, e⟩ := List.mem_map.mp h
    refine .inl ⟨g', hg, ?_⟩
    subst e
    cases decide (g'.1 = k) <;> exact ⟨rfl, rfl⟩
  | false =>
    rw [q] at h
    rcases List.mem_append.mp h with h | h
    · exact .inl ⟨g, h, rfl, rfl⟩
    · rw [List.mem_singleton.mp h]; exact .inr ⟨rfl, rfl⟩
theorem ndo_stay {d : Addr} {gs : List (NestedKey × Addr × V)} {P : Program} {w : World} {H : Hp} {h : Heap} (hd : (d == sysModules) = false) (hl : gs.length ≤ sizeLine) {xs : List (NestedKey × Addr × Value)} (r : NdR gs xs) {o : Obj} {es ep} (ho : h.get? d = some o) (hx : o.ExactDict)
    (hdt : o.data = .dict es ep) (he : es.toList = xs.map (fun x => ⟨nkHash x.1, .ref x.2.1, x.2.2⟩)) (hn : (xs.map (·.1)).Nodup) : ObjOk P w H h d (NDO d gs) := by
  refine ⟨⟨hd, hl, xs, r, o, es, ep, ho, hx, hdt, he, hn⟩, ⟨o, ho⟩, fun h1 h2 ⟨a1, a2, xs, a3, o, es, ep, a4, a5⟩ st => ⟨a1, a2, xs, a3, o, es, ep, st _ a4, a5⟩⟩
section
variable {X : Cx} {pins : List (Addr × Obj)} {σ : L2.St} {H : Hp} {s : Shared} {A : Around} {E' : Value → Shared → Prop}
mutual
theorem nested_of (I : Inv X pins σ H s) : ∀ (k : NestedKey) (v : V) (u : Value), KeyV X.K H v k → RelV v u → NestedIs s.heap k u
  | .none, _, _, h, r => by
    cases h
    cases r
    exact .none
  | .num j, _, _, h, r => by
    cases h with
    | bl b => cases r; exact .bool rfl
    | int => obtain ⟨t, rfl⟩ := r; exact .int j t
  | .text _, _, _, h, _ => by cases h
  | .tup ks, _, _, h, r => by
    cases h with
    | tup hs ha =>
      cases r
      obtain ⟨its, rv, ⟨o, ho, hc, n, hd⟩, _⟩ := I.tuple hs
      exact .tup ho hc hd (nesteds_of I ks _ its ha rv)
theorem nesteds_of (I : Inv X pins σ H s) : ∀ (ks : List NestedKey) (vs : List V) (us : List Value), KeyVs X.K H vs ks → Vals vs us → NestedAll s.heap ks us
  | [], _, _, h, r => by cases h; cases r; exact .nil
  | k :: ks, _, _, h, r => by
    cases h with
    | cons h1 h2 =>
      cases r with
      | cons r1 r2 => exact .cons (nested_of I k _ _ h1 r1) (nesteds_of I ks _ _ h2 r2)
end
theorem nd_of (I : Inv X pins σ H s) {d : Addr} {gs : List (NestedKey × Addr × V)} (n : NdAt X.K H d gs) : (d == sysModules) = false ∧ gs.length ≤ sizeLine ∧ ∃ xs, NdR gs xs ∧ s.heap.DictOfH (nestedKind X.prog X.w) d xs := by
  obtain ⟨⟨hd, hl, xs, r, o, es, ep, ho, hx, hdt, he, hn⟩, _, _⟩ := I.hok d _ n.1
  refine ⟨hd, hl, xs, r, o, es, ep, ho, hx, hdt, ?_, ?_, hn⟩
  · rw [he]
    refine List.map_congr_left fun x hx => ?_
    obtain ⟨g, hg, e1, _⟩ := NdR.mem r x hx
    have := hash_eq (w := X.w) g.1 _ (n.2 g hg).1
    show DictEntry.mk (nkHash x.1) _ _ = DictEntry.mk (NestedKey.hash X.w x.1) _ _
    rw [e1, this]
  · intro x hx
    obtain ⟨g, hg, e1, e2⟩ := NdR.mem r x hx
    have h := n.2 g hg
    refine ⟨?_, by rw [e1]; exact h.2⟩
    rw [e1, e2]
    exact nested_of I _ _ _ h.1 rfl
/-- what is asked of the key -/
def KeyOk (K : PySem.W.Frag) (H : Hp) (x : V) (b : Addr) (k : NestedKey) : Prop := x = .ref b ∧ KeyV K H (.ref b) k ∧ k.depth ≤ 8
def rNIn (K : PySem.W.Frag) (neg : Bool) : R2 := fun x y H Q => ∃ d gs b k, y = .ref d ∧ NdAt K H d gs ∧ KeyOk K H x b k ∧ Q (.bl (neg != (ndGet gs k).isSome)) H
theorem nd_isSome {gs : List (NestedKey × Addr × V)} {xs : List (NestedKey × Addr × Value)} (r : NdR gs xs) (k : NestedKey) : (atKey xs k).isSome = (ndGet gs k).isSome := by
  obtain ⟨i1, i2⟩ := NdR.get k r
  cases q : ndGet gs k with
  | none => rw [i2 q]; rfl
  | some v => obtain ⟨p, hp, _⟩ := i1 v q; rw [hp]; rfl
theorem op_nin (hu : X.A.units + 9 < cLine) : OpR X (compareOp .In) (rNIn X.K false) := by
  intro pins s σ H x y v u Q I rx ry ⟨d, gs, b, k, e1, n, ⟨e2, kv, kd⟩, q⟩
  subst e1; subst e2
  cases rx; cases ry
  obtain ⟨hd, hl, xs, r, dd⟩ := nd_of I n
  refine wpAny_in_heap (knd := nestedKind X.prog X.w) (by show X.A.units + 1 + 8 < cLine; omega) ⟨nested_of I _ _ _ kv rfl, kd⟩ hd dd ?_
  rw [nd_isSome r]
  exact ⟨.bl (ndGet gs k).isSome, H, I.tok _, rfl, by simpa using q⟩
theorem op_nnotin (hu : X.A.units + 9 < cLine) : OpR X (compareOp .NotIn) (rNIn X.K true) := by
  intro pins s σ H x y v u Q I rx ry ⟨d, gs, b, k, e1, n, ⟨e2, kv, kd⟩, q⟩
  subst e1; subst e2
  cases rx; cases ry
  obtain ⟨hd, hl, xs, r, dd⟩ := nd_of I n
  refine wpAny_notIn_heap (knd := nestedKind X.prog X.w) (by show X.A.units + 1 + 8 < cLine; omega) ⟨nested_of I _ _ _ kv rfl, kd⟩ hd dd ?_
  rw [nd_isSome r]
  exact ⟨.bl (!(ndGet gs k).isSome), H, I.tok _, rfl, by simpa using q⟩
def tNGet (K : PySem.W.Frag) (td ty : TE) : TE := fun σ H Q => td σ H fun x H1 => ty σ H1 fun y H2 => ∃ d gs b k v, x = .ref d ∧ NdAt K H2 d gs ∧ KeyOk K H2 y b k ∧ ndGet gs k = some v ∧ Q v H2
def sNPut (K : PySem.W.Frag) (td ty tv : TE) : TS := fun D σ H => tv σ H fun v H1 => td σ H1 fun x H2 => ty σ H2 fun y H3 => ∃ d gs b k, x = .ref d ∧ NdAt K H3 d gs ∧ KeyOk K H3 y b k ∧ gs.length < sizeLine ∧ D.nx σ (upd H3 d (NDO d (ndPut gs k b v)))
end
section
variable {X : Cx} {o i value : Expr} {pos pos' : Pos} {td ty tv : TE}
theorem pe_nget (hu : X.A.units + 9 < cLine) (ho : PE X o td) (hi : PE X i ty) (hs : NoSl i) : PE X (.Subscript o i pos) (tNGet X.K td ty) := by
  refine ⟨fun pins s σ H Q I h => ?_⟩
  refine subD_of PySem.F.slot_dict_getitem.lookup hs (thn (ho.run pins s σ H _ I h) fun u s1 ⟨x, H1, I1, rx, q1⟩ => thn (hi.run pins s1 σ H1 _ I1 q1) fun iv s2 ⟨y, H2, I2, ry, d, gs, b, k, v, ex, n, ⟨ey, kv, kd⟩, g, q2⟩ => ?_)
  subst ex; subst ey
  cases rx; cases ry
  obtain ⟨hd, hl, xs, r, dd⟩ := nd_of I2 n
  obtain ⟨p, hp, rv⟩ := (NdR.get k r).1 v g
  refine ⟨dd.typeIs, wpAny_getItem_heap (knd := nestedKind X.prog X.w) (by show X.A.units + 1 + 8 < cLine; omega) ⟨nested_of I2 _ _ _ kv rfl, kd⟩ dd hp ?_⟩
  exact ⟨v, H2, I2.tok _, rv, q2⟩
theorem ps_nput (hu : X.A.units + 9 < cLine) (ho : PE X o td) (hi : PE X i ty) (hv : PE X value tv) (hs : swapsWith value (some (.Subscript o i pos')) pos.line X.env = pure false) :
    PS X (.Assign [.Subscript o i pos'] value pos) (sNPut X.K td ty tv) := by
  refine ⟨fun pins s σ H D I h => ?_⟩
  refine wpAny_Assign_Subscript (thn (hv.run pins s σ H _ I h) fun ru s1 ⟨v, H1, I1, rv, q1⟩ => thn (ho.run pins s1 σ H1 _ I1 q1) fun u s2 ⟨x, H2, I2, rx, q2⟩ => thn (hi.run pins s2 σ H2 _ I2 q2) fun iv s3 ⟨y, H3, I3, ry, d, gs, b, k, ex, n, ⟨ey, kv, kd⟩, hlt, q3⟩ => ?_) hs
  subst ex; subst ey
  cases rx; cases ry
  obtain ⟨hd, hl, xs, r, dd⟩ := nd_of I3 n
  have hz : xs.length ≤ sizeLine := by rw [← Paired.length r]; exact hl
  refine wpAny_setItem_heap (hsz := hz) (knd := nestedKind X.prog X.w) (by show X.A.units + 1 + 8 < cLine; omega) ⟨nested_of I3 _ _ _ kv rfl, kd⟩ dd fun h' dd' hs => ?_
  obtain ⟨q, es, ep, hq, h2, h3, h4, h6, h5⟩ := dd'
  have rp := NdR.put k b rv r
  have hl2 : (ndPut gs k b v).length ≤ sizeLine := by have := ndPut_len gs k b v; omega
  have all : ∀ x ∈ storedH xs k b ru, nkHash x.1 = NestedKey.hash X.w x.1 := fun x hx => by
    obtain ⟨g, hg, e1, _⟩ := NdR.mem rp x hx
    rw [e1]
    rcases ndPut_mem hg with ⟨g', hg', e2, e3⟩ | ⟨e2, e3⟩
    · rw [← e2]; exact (hash_eq (w := X.w) g'.1 _ (n.2 g' hg').1).symm
    · rw [e2]; exact (hash_eq (w := X.w) k _ kv).symm
  have new : ObjOk X.prog X.w (upd H3 d (NDO d (ndPut gs k b v))) h' d (NDO d (ndPut gs k b v)) := ndo_stay hd hl2 rp hq h2 h3 (by
    rw [h4]
    refine List.map_congr_left fun x hx => ?_
    show DictEntry.mk (NestedKey.hash X.w x.1) _ _ = DictEntry.mk (nkHash x.1) _ _
    rw [all x hx]) h5
  exact ⟨σ, _, d_write I3 (by rw [n.1]; exact True.intro) hs ⟨q, hq⟩ new, q3⟩
theorem nd_empty {P : Program} {w : World} {H : Hp} (h : Heap) (hb : sysModules < h.objs.size) : ObjOk P w H (h.push { cls := .type "dict", data := .dict #[] }) h.objs.size (NDO h.objs.size []) :=
  ndo_stay (beq_eq_false_iff_ne.mpr (Ne.symm (Nat.ne_of_lt hb))) (Nat.zero_le _) (xs := []) .nil (Heap.get?_push_size _ rfl) ⟨rfl, rfl, rfl⟩ (es := #[]) (ep := 0) rfl rfl List.nodup_nil
def tNNew : TE := fun _ H Q => ∀ p, H p = none → Q (.ref p) (upd H p (NDO p []))
theorem pe_nnew : PE X (.Dict [] [] pos) tNNew := ⟨fun pins s σ H Q I h =>
  wpAny_Dict_empty ⟨.ref s.heap.objs.size, _, I.laid (a := s.heap.objs.size) (o := NDO s.heap.objs.size []) (t' := s.toks) (fun _ _ q => Heap.get?_push_of_some _ q) (Nat.le_refl _) (nd_empty s.heap I.big), rfl, h _ (I.hok.fresh (Nat.le_refl _))⟩⟩
end
/-! ### over data -/
def dnGet (kvs : List (D × D)) (k : NestedKey) : Option D := (kvs.find? fun p => decide (nk p.1 = some k)).map (·.2)
def dnPut (kvs : List (D × D)) (x : D) (k : NestedKey) (v : D) : List (D × D) :=
  match (dnGet kvs k).isSome with
  | true => kvs.map fun p => match decide (nk p.1 = some k) with | true => (p.1, v) | false => p
  | false => kvs ++ [(x, v)]
def moN : Option MO → Option (List (D × D))
  | some (.dN kvs) => some kvs
  | _ => none
theorem moN_some {o : Option MO} {kvs : List (D × D)} (h : moN o = some kvs) : o = some (.dN kvs) := by
  unfold moN at h
  split at h
  · cases h; rfl
  · cases h
/-- the two lists of entries -/
structure NdRep (K : PySem.W.Frag) (B : Addr → Prop) (H : Hp) (gs : List (NestedKey × Addr × V)) (kvs : List (D × D)) : Prop where
  ks : RepAll K B H (gs.map fun g => V.ref g.2.1) (kvs.map (·.1))
  vs : RepAll K B H (gs.map (·.2.2)) (kvs.map (·.2))
  eq : kvs.map (fun p => nk p.1) = gs.map (fun g => some g.1)
theorem NdRep.get {K : PySem.W.Frag} {B : Addr → Prop} {H : Hp} (k : NestedKey) : ∀ {gs : List (NestedKey × Addr × V)} {kvs : List (D × D)}, NdRep K B H gs kvs →
    (∀ d, dnGet kvs k = some d → ∃ v, ndGet gs k = some v ∧ Rep K B H v d) ∧ (dnGet kvs k = none → ndGet gs k = none)
  | [], [], _ => ⟨fun d h => (by cases h), fun _ => rfl⟩
  | [], _ :: _, h => by cases h.eq
  | _ :: _, [], h => by cases h.eq
  | g :: gs, p :: kvs, h => by
    have h1 := h.ks
    have h2 := h.vs
    cases h1 with
    | cons a1 a2 =>
      cases h2 with
      | cons b1 b2 =>
        obtain ⟨e1, e2⟩ := List.cons.inj h.eq
        obtain ⟨i1, i2⟩ := NdRep.get k (⟨a2, b2, e2⟩ : NdRep K B H gs kvs)
        unfold dnGet ndGet at i1 i2 ⊢
        rw [List.find?_cons, List.find?_cons]
        have e : decide (nk p.1 = some k) = decide (g.1 = k) := by rw [show nk p.1 = some g.1 from e1]; simp
        rw [e]
        cases q : decide (g.1 = k) with
        | true => exact ⟨fun d h => (by cases h; exact ⟨g.2.2, rfl, b1⟩), fun h => (by cases h)⟩
        | false => exact ⟨i1, i2⟩
theorem NdRep.isSome {K : PySem.W.Frag} {B : Addr → Prop} {H : Hp} {gs : List (NestedKey × Addr × V)} {kvs : List (D × D)} (h : NdRep K B H gs kvs) (k : NestedKey) : (ndGet gs k).isSome = (dnGet kvs k).isSome := by
  obtain ⟨i1, i2⟩ := h.get k
  cases q : dnGet kvs k with
  | none => rw [i2 q]; rfl
  | some d => obtain ⟨v, hv, _⟩ := i1 d q; rw [hv]; rfl
theorem NdRep.put {K : PySem.W.Frag} {B : Addr → Prop} {H : Hp} {k : NestedKey} {a : Addr} {v : V} {x d : D} (hx : Rep K B H (.ref a) x) (hk : nk x = some k) (hv : Rep K B H v d) {gs : List (NestedKey × Addr × V)} {kvs : List (D × D)} (h : NdRep K B H gs kvs) :
    NdRep K B H (ndPut gs k a v) (dnPut kvs x k d) := by
  unfold ndPut dnPut
  rw [h.isSome k]
  cases (dnGet kvs k).isSome with
  | false =>
    refine ⟨?_, ?_, ?_⟩
    · show RepAll K B H ((gs ++ [(k, a, v)]).map _) ((kvs ++ [(x, d)]).map _)
      rw [List.map_append, List.map_append]; exact h.ks.append (.cons hx .nil)
    · show RepAll K B H ((gs ++ [(k, a, v)]).map _) ((kvs ++ [(x, d)]).map _)
      rw [List.map_append, List.map_append]; exact h.vs.append (.cons hv .nil)
    · show (kvs ++ [(x, d)]).map _ = (gs ++ [(k, a, v)]).map _
      rw [List.map_append, List.map_append, h.eq]
      show _ ++ [nk x] = _
      rw [hk]; rfl
  | true =>
    show NdRep K B H (gs.map fun g => match decide (g.1 = k) with | true => (g.1, g.2.1, v) | false => g) (kvs.map fun p => match decide (nk p.1 = some k) with | true => (p.1, d) | false => p)
    clear hx hk
    induction gs generalizing kvs with
    | nil =>
      cases kvs with
      | nil => exact h
      | cons _ _ => cases h.eq
    | cons g gs ih =>
      cases kvs with
      | nil => cases h.eq
      | cons p kvs =>
        have h1 := h.ks
        have h2 := h.vs
        cases h1 with
        | cons a1 a2 =>
          cases h2 with
          | cons b1 b2 =>
            obtain ⟨e1, e2⟩ := List.cons.inj h.eq
            have i := ih (⟨a2, b2, e2⟩ : NdRep K B H gs kvs)
            have e : decide (nk p.1 = some k) = decide (g.1 = k) := by rw [show nk p.1 = some g.1 from e1]; simp
            rw [List.map_cons, List.map_cons, e]
            cases decide (g.1 = k) with
            | true => exact ⟨.cons a1 i.ks, .cons hv i.vs, by rw [List.map_cons, List.map_cons, i.eq]; exact congrArg (· :: _) e1⟩
            | false => exact ⟨.cons a1 i.ks, .cons b1 i.vs, by rw [List.map_cons, List.map_cons, i.eq]; exact congrArg (· :: _) e1⟩
/-- what stands in the memory -/
theorem nd_mem {K : PySem.W.Frag} {F : Addr → Prop} {M : Mem} {H : Hp} {p : Addr} {kvs : List (D × D)} (w : Wd K F M H) (h : moN (M p) = some kvs) : M p = some (.dN kvs) ∧ ∃ gs, NdAt K H p gs ∧ NdRep K (Bar F M) H gs kvs := by
  have hM := moN_some h
  obtain ⟨gs, e, r1, r2, r3, r4⟩ := w.mem p _ hM
  refine ⟨hM, gs, ⟨e, fun g hg => ⟨?_, r4 g hg⟩⟩, r1, r2, r3⟩
  clear e r2 r4 hM h
  induction gs generalizing kvs with
  | nil => cases hg
  | cons g0 gs ih =>
    cases kvs with
    | nil => cases r3
    | cons p kvs =>
      obtain ⟨e1, e2⟩ := List.cons.inj r3
      cases r1 with
      | cons a1 a2 =>
        rcases List.mem_cons.mp hg with rfl | hg
        · exact keyV_of p.1 _ _ e1 a1
        · exact ih a2 e2 hg
/-- the key x: what it is, to depth 8 -/
def nkOk (x : D) (Q : NestedKey → Prop) : Prop := onO (nk x) fun k => k.depth ≤ 8 ∧ (match x with | .tup _ => True | _ => False) ∧ Q k
theorem nkOk_e {x : D} {Q : NestedKey → Prop} {K : PySem.W.Frag} {B : Addr → Prop} {H : Hp} {v : V} (h : nkOk x Q) (r : Rep K B H v x) : ∃ k b, nk x = some k ∧ KeyOk K H v b k ∧ Q k := by
  obtain ⟨k, h1, h2, h3, q⟩ := onO_e h
  cases x with
  | tup ds =>
    have kv := keyV_of _ v k h1 r
    cases r with
    | tup _ _ => exact ⟨k, _, h1, ⟨rfl, kv, h2⟩, q⟩
  | _ => exact h3.elim
def wNIn (neg : Bool) : DR2 := fun x y M Q => match y with | .ref p => onO (moN (M p)) fun kvs => nkOk x fun k => Q (.bl (neg != (dnGet kvs k).isSome)) M | _ => False
theorem ok_nIn {K : PySem.W.Frag} {neg : Bool} : OkR K (rNIn K neg) (wNIn neg) := fun F M H x y d1 d2 Q Q' w r1 r2 hw lk => by
  cases d2 with
  | ref p =>
    cases r2
    obtain ⟨kvs, h1, hw⟩ := onO_e hw
    obtain ⟨hM, gs, n, r⟩ := nd_mem w h1
    obtain ⟨k, b, _, ko, q⟩ := nkOk_e hw r1
    refine ⟨p, gs, b, k, rfl, n, ko, lk _ H _ M ?_ w (.refl _ _ _) q⟩
    rw [r.isSome k]
    exact .bl _
  | _ => exact (show False from hw).elim
section
variable {X : Cx} {E : XK} {k : Nat} {a b o i value : Expr} {wa wb wo wi wv : DTE} {pos pos' : Pos}
theorem room_9 {A : Around} {k : Nat} (h : Room k A) : A.units + 9 < cLine := by have := h.un; omega
theorem de_inN (hX : DX X E k) (ha : DE X E a wa) (hb : DE X E b wb) (hm : behindInMarks .In b = false := by rfl) : DE X E (.Compare a [.In] [b] pos) (wOp (wNIn false) wa wb) := de_cmp (op_nin (room_9 hX.room)) ok_nIn ha hb hm
theorem de_notInN (hX : DX X E k) (ha : DE X E a wa) (hb : DE X E b wb) (hm : behindInMarks .NotIn b = false := by rfl) : DE X E (.Compare a [.NotIn] [b] pos) (wOp (wNIn true) wa wb) := de_cmp (op_nnotin (room_9 hX.room)) ok_nIn ha hb hm
theorem dt_inN (hX : DX X E k) (ha : DE X E a wa) (hb : DE X E b wb) (hm : behindInMarks .In b = false := by rfl) : DT X E (.Compare a [.In] [b] pos) (wTest (wOp (wNIn false) wa wb)) := dt_cmp (op_nin (room_9 hX.room)) ok_nIn ha hb hm
theorem dt_notInN (hX : DX X E k) (ha : DE X E a wa) (hb : DE X E b wb) (hm : behindInMarks .NotIn b = false := by rfl) : DT X E (.Compare a [.NotIn] [b] pos) (wTest (wOp (wNIn true) wa wb)) := dt_cmp (op_nnotin (room_9 hX.room)) ok_nIn ha hb hm
/-- d[x] -/
def wNGet (wo wi : DTE) : DTE := fun δ M Q => wo δ M fun y M1 => wi δ M1 fun x M2 => match y with | .ref p => onO (moN (M2 p)) fun kvs => nkOk x fun k => onO (dnGet kvs k) fun d => Q d M2 | _ => False
theorem de_nget (hX : DX X E k) (ho : DE X E o wo) (hi : DE X E i wi) (hs : NoSl i := by intro _ _; rfl) : DE X E (.Subscript o i pos) (wNGet wo wi) := by
  refine pe_mono (pe_nget (room_9 hX.room) ho hi hs) fun σ H Q' ⟨F, δ, M, Q, sm, lx, hw, lk⟩ => ?_
  refine ⟨F, δ, M, _, sm, lx, hw, fun v H1 d M1 r1 w1 e1 q1 => ?_⟩
  refine ⟨F, δ, M1, _, sm.ext w1 e1, lx.ext w1 e1, q1, fun u H2 d2 M2 r2 w2 e2 q2 => ?_⟩
  cases d with
  | ref p =>
    cases r1
    obtain ⟨kvs, h1, q2⟩ := onO_e q2
    obtain ⟨hM, gs, n, r⟩ := nd_mem w2 h1
    obtain ⟨k, b, _, ko, q2⟩ := nkOk_e q2 r2
    obtain ⟨d, h2, q2⟩ := onO_e q2
    obtain ⟨v, hv, rv⟩ := (r.get k).1 d h2
    exact ⟨p, gs, b, k, v, rfl, n, ko, hv, lk v H2 d M2 rv w2 (Ext.trans w1 e1 e2) q2⟩
  | _ => exact (show False from q2).elim
/-- d[x] = v -/
def wNPut (wv wo wi : DTE) : DTS := fun D δ M => wv δ M fun v M1 => wo δ M1 fun y M2 => wi δ M2 fun x M3 => match y with
  | .ref p => onO (moN (M3 p)) fun kvs => nkOk x fun k => kvs.length < sizeLine ∧ D.nx δ (updM M3 p (.dN (dnPut kvs x k v))) | _ => False
theorem ds_nput (hX : DX X E k) (hv : DE X E value wv) (ho : DE X E o wo) (hi : DE X E i wi) (hs : swapsWith value (some (.Subscript o i pos')) pos.line X.env = pure false := by rfl) : DS X E (.Assign [.Subscript o i pos'] value pos) (wNPut wv wo wi) := by
  refine ps_mono (ps_nput (room_9 hX.room) ho hi hv hs) fun Dh σ H ⟨F, δ, M, Dd, sm, lx, ld, hw⟩ => ?_
  refine ⟨F, δ, M, _, sm, lx, hw, fun v H1 d M1 r1 w1 e1 q1 => ?_⟩
  refine ⟨F, δ, M1, _, sm.ext w1 e1, lx.ext w1 e1, q1, fun u H2 d2 M2 r2 w2 e2 q2 => ?_⟩
  have e12 := Ext.trans w1 e1 e2
  refine ⟨F, δ, M2, _, sm.ext w2 e12, lx.ext w2 e12, q2, fun u H3 d3 M3 r3 w3 e3 q3 => ?_⟩
  cases d2 with
  | ref p =>
    cases r2
    obtain ⟨kvs, h1, q3⟩ := onO_e q3
    obtain ⟨hM, gs, n, r⟩ := nd_mem w3 h1
    obtain ⟨k, b, hk, ko, hl, q3⟩ := nkOk_e q3 r3
    have lg : gs.length = kvs.length := by have := congrArg List.length r.eq; simpa using this.symm
    refine ⟨p, gs, b, k, rfl, n, ko, by rw [lg]; exact hl, ?_⟩
    have e123 := Ext.trans w2 e12 e3
    have rv := Rep.ext w1 (Ext.trans w2 e2 e3) d v r1
    have rx : Rep X.K (Bar F M3) H3 (.ref b) d3 := by have := ko.1; rw [← this]; exact r3
    have rp := NdRep.put rx hk rv r
    have x : Ext F M3 H3 (updM M3 p (.dN (dnPut kvs d3 k d))) (upd H3 p (NDO p (ndPut gs k b v))) := ext_write hM (w3.nf hM)
    have w4 : Wd X.K F (updM M3 p (.dN (dnPut kvs d3 k d))) (upd H3 p (NDO p (ndPut gs k b v))) := w3.write hM ⟨_, upd_same, RepAll.ext w3 x _ _ rp.ks, RepAll.ext w3 x _ _ rp.vs, rp.eq, fun g hg => by
      rcases ndPut_mem hg with ⟨g', hg', e, _⟩ | ⟨e, _⟩
      · rw [← e]; exact (n.2 g' hg').2
      · rw [e]; exact ko.2.2⟩
    exact ld.nx σ _ δ _ ((sm.ext w3 e123).ext w4 x) (Ext.trans w3 e123 x) rfl q3
  | _ => exact (show False from q3).elim
/-- {}, its keys to be such -/
def wNNew : DTE := fun _ M Q => ∀ p, M p = none → Q (.ref p) (updM M p (.dN []))
theorem de_nnew : DE X E (.Dict [] [] pos) wNNew := by
  refine pe_mono pe_nnew fun σ H Q' ⟨F, δ, M, Q, sm, lx, hw, lk⟩ p hp => ?_
  have x : Ext F M H (updM M p (.dN [])) (upd H p (NDO p [])) := ext_laidM hp
  exact lk _ _ _ _ (.ref p) (sm.wd.laidM (m := .dN []) hp ⟨[], upd_same, .nil, .nil, rfl, fun _ h => by cases h⟩) x (hw p (sm.wd.noM hp))
end
end Bx

set_option Elab.async false
set_option linter.all false
set_option maxRecDepth 100000
set_option maxHeartbeats 4000000
namespace Bx
open PySem PySem.Spec L2
open PyProof.Rows hiding St
/-! ### sorted(set(a tuple of ints)) -/
def rSetT (K : PySem.W.Frag) (w : World) : List V → Hp → VK → Prop := fun xs H Q => ∃ (l : Addr) (ns : List Int), xs = [.ref l] ∧ SqT K H l (ns.map V.int) ∧ ns.length + 1 < scanBound ∧ ∀ p n, H p = none → n ≤ ns.length → Q (.ref p) (upd H p (SetO w p (fun j => decide (j ∈ ns)) n))
section
variable {X : Cx} {E : XK} {k : Nat} {a : Expr} {wa : DTE} {pos : Pos}
theorem cr_setT (hc : X.calm = true) : CallR X (.type "set") (rSetT X.K X.w) := by
  intro pins s σ H xs us Q I r h
  obtain ⟨l, ns, rfl, hl, hn, q⟩ := h
  rw [Vals.ref1 r]
  obtain ⟨its, rv, pl, hz⟩ := I.tuple hl
  refine call_set_tupI ns (I.ok.hd hc) pl (by simpa using intsAre_vals rv) hn fun g tk c R hcn hk => ?_
  exact ⟨.ref s.heap.objs.size, _, I.laid (t' := tk) hk (Nat.le_refl _) (setO_new R), rfl, q _ c (I.hok.fresh (Nat.le_refl _)) hcn⟩
def wSortedSetT (wa : DTE) : DTE := fun δ M Q => wa δ M fun d M1 => match d with
  | .tup ds => onO (intsD ds) fun is => is.length < 63 ∧ ∀ ns : List Int, ns.Pairwise (· < ·) → (∀ k, k ∈ ns ↔ k ∈ is) → Q (.lst (ns.map D.int)) M1
  | _ => False
theorem de_sortedSetT {p q : Pos} {ps : Pos} (hX : DX X E k) (hm : X.mg "sorted" = none) (hm2 : X.mg "set" = none) (ha : DE X E a wa) (hg : Gl X "sorted" := by rfl) (hg2 : Gl X "set" := by rfl)
    (he2 : starEach [a] X.env = (false, eval a X.env) :: starEach [] X.env := by rfl) (hpl2 : (backTo ps (starEach [] X.env)).any (·.1) = false := by rfl)
    (he : starEach [.Call (.Name "set" q) [a] [] ps] X.env = (false, eval (.Call (.Name "set" q) [a] [] ps) X.env) :: starEach [] X.env := by rfl) (hpl : (backTo pos (starEach [] X.env)).any (·.1) = false := by rfl) :
    DE X E (.Call (.Name "sorted" p) [.Call (.Name "set" q) [a] [] ps] [] pos) (wSortedSetT wa) := by
  refine pe_mono (pe_callB (cr_sortedSet hX.calm) hg hm (by decide +kernel) (pa_cons (pe_callTy (cr_setT hX.calm) hg2 hm2 (by decide +kernel) (pa_cons ha pa_nil he2) (by decide) (by decide) he2 hpl2) pa_nil he) (by decide) (by decide) he hpl) fun σ H Q' ⟨F, δ, M, Q, sm, lx, hw, lk⟩ => ?_
  refine ⟨F, δ, M, _, sm, lx, hw, fun v H1 d M1 r1 w1 e1 q1 => ?_⟩
  cases d with
  | tup ds =>
    cases r1 with
    | tup hq ra =>
      obtain ⟨is, hi, q1⟩ := onO_e q1
      have ex := intsD_rep ra hi
      subst ex
      refine ⟨_, is, rfl, hq, Nat.lt_of_lt_of_le (show is.length + 1 < 64 by omega) (by decide), fun c n hc hn => ?_⟩
      refine ⟨c, _, n, rfl, upd_same, by omega, fun ns t hp hm hl ht => ?_⟩
      have w2 := w1.laid (o := SetO X.w c (fun j => decide (j ∈ is)) n) hc
      have e2 : Ext F M1 H1 M1 (upd H1 c (SetO X.w c (fun j => decide (j ∈ is)) n)) := ext_laid hc
      exact lk _ _ _ M1 (.newLst w2 ht (repAll_ints ns)) (w2.laid ht) (Ext.trans w1 e1 (Ext.trans w2 e2 (ext_laid ht))) (q1.2 ns hp fun k => by rw [hm k]; exact decide_eq_true_iff)
  | _ => exact (show False from q1).elim
end
end Bx

set_option Elab.async false
set_option linter.all false
set_option maxRecDepth 100000
set_option maxHeartbeats 4000000
namespace Bx
open PySem PySem.Spec L2
open PyProof.Rows hiding St
/-! ### what a foe can make of a plan -/
/-- what is so behind a day -/
def behD (c : Cl) (st : Int) (now : Int × Int) (day : Int) (s : Bool) : Int × Int :=
  match decide (day ≤ st) || !c.cnt (now.1 == 0) (isWk day) s with
  | true => now
  | false => (match now.1 == 0 with | true => (now.1, now.2 + 1) | false => (now.1 - 1, 0))
def pick (b : Bool) (day : Int) (f g : Int × List Int) : Int × List Int := match b with | true => (match decide (f.1 < g.1) with | true => (g.1, day :: g.2) | false => f) | false => f
def stopD (c : Cl) (st : Int) (now : Int × Int) (day : Int) : Int × List Int := (amtC c (behD c st now day false).2, [])
def bestN (c : Cl) (st pl : Int) : Nat → Int × Int → Int → Int → Int × List Int
  | 0, now, day, _ => stopD c st now day
  | n + 1, now, day, many => pick (decide (0 < many)) day (match decide (pl ≤ day) with | true => stopD c st now day | false => bestN c st pl n (behD c st now day false) (day + 1) many) (bestN c st pl n (behD c st now day true) (day + 1) (many - 1))
def meas (pl day many : Int) : Nat := (pl - day).toNat + many.toNat
def bestC (c : Cl) (st pl : Int) (now : Int × Int) (day many : Int) : Int × List Int := bestN c st pl (meas pl day many) now day many
theorem meas_d {pl day many : Int} (h : day < pl) : meas pl (day + 1) many + 1 = meas pl day many := by unfold meas; omega
theorem meas_m {pl day many : Int} (h : 0 < many) : meas pl (day + 1) (many - 1) + 1 ≤ meas pl day many := by unfold meas; omega
theorem bestN_fuel (c : Cl) (st pl : Int) : ∀ (n m : Nat) (now : Int × Int) (day many : Int), 0 ≤ many → meas pl day many ≤ n → meas pl day many ≤ m → bestN c st pl n now day many = bestN c st pl m now day many
  | 0, 0, _, _, _, _, _, _ => rfl
  | 0, m + 1, now, day, many, h0, h1, h2 => by
    have e1 : pl ≤ day := by unfold meas at h1; omega
    have e2 : ¬ 0 < many := by unfold meas at h1; omega
    show stopD c st now day = pick (decide (0 < many)) day (match decide (pl ≤ day) with | true => stopD c st now day | false => _) _
    rw [decide_eq_true e1, decide_eq_false e2]; rfl
  | n + 1, 0, now, day, many, h0, h1, h2 => by
    have e1 : pl ≤ day := by unfold meas at h2; omega
    have e2 : ¬ 0 < many := by unfold meas at h2; omega
    show pick (decide (0 < many)) day (match decide (pl ≤ day) with | true => stopD c st now day | false => _) _ = stopD c st now day
    rw [decide_eq_true e1, decide_eq_false e2]; rfl
  | n + 1, m + 1, now, day, many, h0, h1, h2 => by
    show pick (decide (0 < many)) day (match decide (pl ≤ day) with | true => stopD c st now day | false => bestN c st pl n _ (day + 1) many) (bestN c st pl n _ (day + 1) (many - 1)) = pick (decide (0 < many)) day (match decide (pl ≤ day) with | true => stopD c st now day | false => bestN c st pl m _ (day + 1) many) (bestN c st pl m _ (day + 1) (many - 1))
    have a : (match decide (pl ≤ day) with | true => stopD c st now day | false => bestN c st pl n (behD c st now day false) (day + 1) many) = (match decide (pl ≤ day) with | true => stopD c st now day | false => bestN c st pl m (behD c st now day false) (day + 1) many) := by
      by_cases e : pl ≤ day
      · rw [decide_eq_true e]
      · rw [decide_eq_false e]
        have := meas_d (many := many) (show day < pl by omega)
        exact bestN_fuel c st pl n m _ _ _ h0 (by omega) (by omega)
    rw [a]
    by_cases e : 0 < many
    · have := meas_m (pl := pl) (day := day) e
      rw [bestN_fuel c st pl n m _ _ _ (by omega) (by omega) (by omega)]
    · rw [decide_eq_false e]; rfl
theorem bestC_eq (c : Cl) (st pl : Int) (now : Int × Int) (day many : Int) (h0 : 0 ≤ many) : bestC c st pl now day many =
    pick (decide (0 < many)) day (match decide (pl ≤ day) with | true => stopD c st now day | false => bestC c st pl (behD c st now day false) (day + 1) many) (bestC c st pl (behD c st now day true) (day + 1) (many - 1)) := by
  have h := bestN_fuel c st pl (meas pl day many) (meas pl day many + 1) now day many h0 (Nat.le_refl _) (Nat.le_succ _)
  show bestN c st pl (meas pl day many) now day many = _
  rw [h]
  show pick (decide (0 < many)) day (match decide (pl ≤ day) with | true => stopD c st now day | false => bestN c st pl (meas pl day many) _ (day + 1) many) (bestN c st pl (meas pl day many) _ (day + 1) (many - 1)) = _
  have a : (match decide (pl ≤ day) with | true => stopD c st now day | false => bestN c st pl (meas pl day many) (behD c st now day false) (day + 1) many) = (match decide (pl ≤ day) with | true => stopD c st now day | false => bestC c st pl (behD c st now day false) (day + 1) many) := by
    by_cases e : pl ≤ day
    · rw [decide_eq_true e]
    · rw [decide_eq_false e]
      have := meas_d (many := many) (show day < pl by omega)
      exact bestN_fuel c st pl _ _ _ _ _ h0 (by omega) (Nat.le_refl _)
  rw [a]
  by_cases e : 0 < many
  · have := meas_m (pl := pl) (day := day) e
    rw [show bestN c st pl (meas pl day many) (behD c st now day true) (day + 1) (many - 1) = bestC c st pl (behD c st now day true) (day + 1) (many - 1) from bestN_fuel c st pl _ _ _ _ _ (by omega) (by omega) (Nat.le_refl _)]
  · rw [decide_eq_false e]; rfl
/-- without a strike on this day -/
def restF (c : Cl) (st pl : Int) (now : Int × Int) (day many : Int) : Int × List Int := match decide (pl ≤ day) with | true => stopD c st now day | false => bestC c st pl (behD c st now day false) (day + 1) many
theorem bestC_rest (c : Cl) (st pl : Int) (now : Int × Int) (day many : Int) (h0 : 0 ≤ many) : bestC c st pl now day many = pick (decide (0 < many)) day (restF c st pl now day many) (bestC c st pl (behD c st now day true) (day + 1) (many - 1)) := bestC_eq c st pl now day many h0
theorem restF_t {c : Cl} {st pl : Int} {now : Int × Int} {day many : Int} (h : decide (pl ≤ day) = true) : restF c st pl now day many = stopD c st now day := by unfold restF; rw [h]
theorem restF_f {c : Cl} {st pl : Int} {now : Int × Int} {day many : Int} (h : decide (pl ≤ day) = false) : restF c st pl now day many = bestC c st pl (behD c st now day false) (day + 1) many := by unfold restF; rw [h]
/-- what a plan costs with strikes S, day by day -/
def outN (c : Cl) (st pl : Int) : Nat → Int × Int → Int → List Int → Int
  | 0, now, day, _ => amtC c (behD c st now day false).2
  | n + 1, now, day, S => match hit S day with
    | true => outN c st pl n (behD c st now day true) (day + 1) S
    | false => (match decide (pl ≤ day) with | true => amtC c (behD c st now day false).2 | false => outN c st pl n (behD c st now day false) (day + 1) S)
/-- how many strikes are left -/
def cntF (S : List Int) (day : Int) : Nat := (S.filter fun s => decide (day ≤ s)).length
theorem cntF_step {S : List Int} (hp : S.Pairwise (· < ·)) (day : Int) : cntF S day = cntF S (day + 1) + (match hit S day with | true => 1 | false => 0) := by
  have h := filter_split (p := fun s => decide (day ≤ s)) (q := fun s => decide (day + 1 ≤ s)) (r := fun s => true && s == day) (ss := S) (fun s => by
    by_cases h1 : s = day
    · subst h1; simp
    · have hb : (s == day) = false := beq_eq_false_iff_ne.mpr h1
      rw [hb]
      by_cases h2 : day ≤ s
      · rw [decide_eq_true h2, decide_eq_true (show day + 1 ≤ s by omega)]; rfl
      · rw [decide_eq_false h2, decide_eq_false (show ¬ day + 1 ≤ s by omega)]; rfl) (fun s => by
    by_cases h1 : s = day
    · subst h1; rw [decide_eq_false (show ¬ s + 1 ≤ s by omega)]; rfl
    · rw [beq_eq_false_iff_ne.mpr h1]; simp)
  have h2 := filter_eq_len hp day true
  unfold cntF
  rw [h]
  congr 1
  cases q : hit S day with
  | true => rw [q] at h2; have : b1 (true && true) = 1 := rfl; rw [this] at h2; show _ = 1; omega
  | false => rw [q] at h2; have : b1 (true && false) = 0 := rfl; rw [this] at h2; show _ = 0; omega
theorem pick_le (b : Bool) (day : Int) (f g : Int × List Int) : f.1 ≤ (pick b day f g).1 ∧ (b = true → g.1 ≤ (pick b day f g).1) := by
  unfold pick
  cases b with
  | false => exact ⟨Int.le_refl _, fun h => by cases h⟩
  | true =>
    by_cases h : f.1 < g.1
    · rw [decide_eq_true h]; exact ⟨Int.le_of_lt h, fun _ => Int.le_refl _⟩
    · rw [decide_eq_false h]; exact ⟨Int.le_refl _, fun _ => by show g.1 ≤ f.1; omega⟩
/-- no strikes cost more -/
theorem best_over (c : Cl) (st pl : Int) {S : List Int} (hp : S.Pairwise (· < ·)) : ∀ (n : Nat) (now : Int × Int) (day many : Int), 0 ≤ many → meas pl day many ≤ n → cntF S day ≤ many.toNat → outN c st pl n now day S ≤ (bestN c st pl n now day many).1
  | 0, now, day, many, _, _, _ => Int.le_refl _
  | n + 1, now, day, many, h0, h1, h2 => by
    have hs := cntF_step hp day
    have hp2 := pick_le (decide (0 < many)) day (match decide (pl ≤ day) with | true => stopD c st now day | false => bestN c st pl n (behD c st now day false) (day + 1) many) (bestN c st pl n (behD c st now day true) (day + 1) (many - 1))
    show (match hit S day with | true => outN c st pl n (behD c st now day true) (day + 1) S | false => (match decide (pl ≤ day) with | true => amtC c (behD c st now day false).2 | false => outN c st pl n (behD c st now day false) (day + 1) S)) ≤ (pick _ _ _ _).1
    cases q : hit S day with
    | true =>
      rw [q] at hs
      have hs : cntF S day = cntF S (day + 1) + 1 := hs
      have hm : 0 < many := by omega
      have := meas_m (pl := pl) (day := day) hm
      exact Int.le_trans (best_over c st pl hp n _ _ _ (by omega) (by omega) (by omega)) (hp2.2 (decide_eq_true hm))
    | false =>
      rw [q] at hs
      have hs : cntF S day = cntF S (day + 1) + 0 := hs
      refine Int.le_trans ?_ hp2.1
      by_cases e : pl ≤ day
      · rw [decide_eq_true e]; exact Int.le_refl _
      · rw [decide_eq_false e]
        have := meas_d (many := many) (show day < pl by omega)
        exact best_over c st pl hp n _ _ _ h0 (by omega) (by omega)
theorem hit_ge {S : List Int} {lo d : Int} (h : ∀ s ∈ S, lo ≤ s) (hd : d < lo) : hit S d = false := by
  cases q : hit S d with
  | false => rfl
  | true => have := h d (hit_iff.mp q); omega
/-- some strikes cost so much -/
theorem best_at (c : Cl) (st pl : Int) : ∀ (n : Nat) (now : Int × Int) (day many : Int), 0 ≤ many → meas pl day many ≤ n →
    (bestN c st pl n now day many).2.Pairwise (· < ·) ∧ (∀ s ∈ (bestN c st pl n now day many).2, day ≤ s ∧ s < pl + many ∨ day ≤ s ∧ s < day + many) ∧ (bestN c st pl n now day many).2.length ≤ many.toNat ∧
    ∀ S, (∀ d, day ≤ d → hit S d = hit (bestN c st pl n now day many).2 d) → outN c st pl n now day S = (bestN c st pl n now day many).1
  | 0, now, day, many, _, _ => ⟨.nil, fun _ h => (by cases h), Nat.zero_le _, fun _ _ => rfl⟩
  | n + 1, now, day, many, h0, h1 => by
    have key : ∀ r : Int × List Int, r = bestN c st pl (n + 1) now day many → (r.2.Pairwise (· < ·) ∧ (∀ s ∈ r.2, day ≤ s ∧ s < pl + many ∨ day ≤ s ∧ s < day + many) ∧ r.2.length ≤ many.toNat ∧ ∀ S, (∀ d, day ≤ d → hit S d = hit r.2 d) → outN c st pl (n + 1) now day S = r.1) := by
      intro r er
      have er : r = pick (decide (0 < many)) day (match decide (pl ≤ day) with | true => stopD c st now day | false => bestN c st pl n (behD c st now day false) (day + 1) many) (bestN c st pl n (behD c st now day true) (day + 1) (many - 1)) := er
      -- the first way
      have first : ∀ f : Int × List Int, f = (match decide (pl ≤ day) with | true => stopD c st now day | false => bestN c st pl n (behD c st now day false) (day + 1) many) → (f.2.Pairwise (· < ·) ∧ (∀ s ∈ f.2, day ≤ s ∧ s < pl + many ∨ day ≤ s ∧ s < day + many) ∧ f.2.length ≤ many.toNat ∧ ∀ S, (∀ d, day ≤ d → hit S d = hit f.2 d) → outN c st pl (n + 1) now day S = f.1) := by
        intro f ef
        by_cases e : pl ≤ day
        · rw [decide_eq_true e] at ef
          subst ef
          refine ⟨.nil, fun _ h => (by cases h), Nat.zero_le _, fun S hS => ?_⟩
          have q : hit S day = false := hS day (Int.le_refl _)
          show (match hit S day with | true => _ | false => (match decide (pl ≤ day) with | true => amtC c (behD c st now day false).2 | false => _)) = _
          rw [q, decide_eq_true e]; rfl
        · rw [decide_eq_false e] at ef
          have ef : f = bestN c st pl n (behD c st now day false) (day + 1) many := ef
          have hm := meas_d (many := many) (show day < pl by omega)
          obtain ⟨i1, i2, i3, i4⟩ := best_at c st pl n (behD c st now day false) (day + 1) many h0 (by omega)
          rw [← ef] at i1 i2 i3 i4
          refine ⟨i1, fun s hs => ?_, i3, fun S hS => ?_⟩
          · rcases i2 s hs with h | h <;> exact .inl ⟨by omega, by omega⟩
          · have q : hit S day = false := by
              rw [hS day (Int.le_refl _)]
              exact hit_ge (lo := day + 1) (fun s hs => by rcases i2 s hs with h | h <;> omega) (by omega)
            show (match hit S day with | true => _ | false => (match decide (pl ≤ day) with | true => _ | false => outN c st pl n (behD c st now day false) (day + 1) S)) = _
            rw [q, decide_eq_false e]
            exact i4 S fun d hd => hS d (by omega)
      obtain ⟨f, ef⟩ : ∃ f, f = (match decide (pl ≤ day) with | true => stopD c st now day | false => bestN c st pl n (behD c st now day false) (day + 1) many) := ⟨_, rfl⟩
      have hf := first f ef
      rw [← ef] at er
      unfold pick at er
      by_cases hm : 0 < many
      · rw [decide_eq_true hm] at er
        by_cases hg : f.1 < (bestN c st pl n (behD c st now day true) (day + 1) (many - 1)).1
        · rw [decide_eq_true hg] at er
          have hmm := meas_m (pl := pl) (day := day) hm
          obtain ⟨i1, i2, i3, i4⟩ := best_at c st pl n (behD c st now day true) (day + 1) (many - 1) (by omega) (by omega)
          subst er
          refine ⟨List.pairwise_cons.mpr ⟨fun s hs => ?_, i1⟩, fun s hs => ?_, ?_, fun S hS => ?_⟩
          · rcases i2 s hs with h | h <;> omega
          · rcases List.mem_cons.mp hs with rfl | hs
            · exact .inr ⟨by omega, by omega⟩
            · rcases i2 s hs with h | h
              · exact .inl ⟨by omega, by omega⟩
              · exact .inr ⟨by omega, by omega⟩
          · show _ + 1 ≤ _; omega
          · have q : hit S day = true := by
              rw [hS day (Int.le_refl _)]
              exact hit_iff.mpr List.mem_cons_self
            show (match hit S day with | true => outN c st pl n (behD c st now day true) (day + 1) S | false => _) = _
            rw [q]
            refine i4 S fun d hd => ?_
            rw [hS d (by omega)]
            show (day == d || hit (bestN c st pl n (behD c st now day true) (day + 1) (many - 1)).2 d) = _
            rw [beq_eq_false_iff_ne.mpr (show day ≠ d by omega)]; rfl
        · rw [decide_eq_false hg] at er
          subst er; exact hf
      · rw [decide_eq_false hm] at er
        subst er; exact hf
    exact key _ rfl
/-! ### as the law counts -/
structure Fin (S : List Int) (pl f : Int) : Prop where
  ge : pl ≤ f
  op : hit S f = false
  cl : ∀ d, pl ≤ d → d < f → hit S d = true
theorem mem_days {d lo : Int} {n : Nat} (h : d ∈ daysL lo n) : lo ≤ d ∧ d < lo + n := by
  obtain ⟨i, hi, rfl⟩ := List.mem_map.mp h
  have := List.mem_range.mp hi
  omega
theorem days_nodup (lo : Int) (n : Nat) : (daysL lo n).Nodup := by
  unfold daysL
  refine List.Pairwise.map _ (fun a b h => ?_) List.nodup_range
  intro e
  have : (a : Int) = b := by omega
  exact h (by exact_mod_cast this)
theorem days_len (lo : Int) (n : Nat) : (daysL lo n).length = n := by unfold daysL; rw [List.length_map, List.length_range]
theorem Fin.le {S : List Int} {pl f : Int} (h : Fin S pl f) : (f - pl).toNat ≤ S.length := by
  have := nodup_len (days_nodup pl (f - pl).toNat) fun s hs => hit_iff.mp (h.cl s (mem_days hs).1 (by have := (mem_days hs).2; have := h.ge; omega))
  rwa [days_len] at this
theorem fin_ex (S : List Int) (pl : Int) : ∃ f, Fin S pl f := by
  have : ∀ n : Nat, (∃ f, Fin S pl f) ∨ ∀ d, pl ≤ d → d < pl + n → hit S d = true := fun n => by
    induction n with
    | zero => exact .inr fun d h1 h2 => by omega
    | succ n ih =>
      rcases ih with h | h
      · exact .inl h
      · cases q : hit S (pl + n) with
        | false => exact .inl ⟨_, by omega, q, h⟩
        | true =>
          refine .inr fun d h1 h2 => ?_
          by_cases e : d = pl + n
          · rw [e]; exact q
          · exact h d h1 (by omega)
  rcases this (S.length + 1) with h | h
  · exact h
  · have := nodup_len (days_nodup pl (S.length + 1)) fun s hs => hit_iff.mp (h s (mem_days hs).1 (mem_days hs).2)
    rw [days_len] at this
    omega
def stepB (c : Cl) (st : Int) (S : List Int) (now : Int × Int) (d : Int) : Int × Int := behD c st now d (hit S d)
theorem out_fold (c : Cl) (st pl : Int) {S : List Int} {f : Int} (hF : Fin S pl f) : ∀ (k n : Nat) (now : Int × Int) (day : Int), day + k = f → k ≤ n → outN c st pl n now day S = amtC c ((daysL day (k + 1)).foldl (stepB c st S) now).2
  | 0, n, now, day, e, _ => by
    have e : day = f := by omega
    subst e
    have r : (daysL day (0 + 1)).foldl (stepB c st S) now = behD c st now day false := by
      rw [daysL_succ, daysL_zero]
      show stepB c st S now (day + 0) = _
      unfold stepB
      rw [Int.add_zero, hF.op]
    rw [r]
    cases n with
    | zero => rfl
    | succ n =>
      show (match hit S day with | true => _ | false => (match decide (pl ≤ day) with | true => amtC c (behD c st now day false).2 | false => _)) = _
      rw [hF.op, decide_eq_true hF.ge]
  | k + 1, 0, _, _, _, h => absurd h (by omega)
  | k + 1, n + 1, now, day, e, h => by
    rw [daysL_cons]
    show (match hit S day with | true => outN c st pl n (behD c st now day true) (day + 1) S | false => (match decide (pl ≤ day) with | true => _ | false => outN c st pl n (behD c st now day false) (day + 1) S)) = amtC c ((daysL (day + 1) (k + 1)).foldl (stepB c st S) (stepB c st S now day)).2
    unfold stepB
    cases q : hit S day with
    | true => exact out_fold c st pl hF k n _ _ (by omega) (by omega)
    | false =>
      have e1 : ¬ pl ≤ day := fun z => by have := hF.cl day z (by omega); rw [q] at this; cases this
      rw [decide_eq_false e1]
      exact out_fold c st pl hF k n _ _ (by omega) (by omega)
/-- the days of a box -/
theorem fold_skip (c : Cl) (st : Int) (S : List Int) (now : Int × Int) : ∀ (n : Nat) (lo : Int), lo + n ≤ st + 1 → (daysL lo n).foldl (stepB c st S) now = now
  | 0, _, _ => rfl
  | n + 1, lo, h => by
    rw [daysL_cons]
    show (daysL (lo + 1) n).foldl (stepB c st S) (stepB c st S now lo) = now
    have e : stepB c st S now lo = now := by
      unfold stepB behD
      rw [decide_eq_true (show lo ≤ st by omega)]; rfl
    rw [e]
    exact fold_skip c st S now n (lo + 1) (by omega)
theorem fold_days (c : Cl) (st : Int) (S : List Int) : ∀ (n : Nat) (lo : Int) (now : Int × Int), st < lo → (now.1 ≠ 0 → now.2 = 0) → (daysL lo n).foldl (stepB c st S) now = (daysL lo n).foldl (dayStep c S) now
  | 0, _, _, _, _ => rfl
  | n + 1, lo, now, h, hz => by
    rw [daysL_cons]
    show (daysL (lo + 1) n).foldl (stepB c st S) (stepB c st S now lo) = (daysL (lo + 1) n).foldl (dayStep c S) (dayStep c S now lo)
    obtain ⟨l, g⟩ := now
    have e : stepB c st S (l, g) lo = dayStep c S (l, g) lo := by
      unfold stepB behD dayStep
      rw [decide_eq_false (show ¬ lo ≤ st by omega)]
      show (match !c.cnt (l == 0) (isWk lo) (hit S lo) with | true => (l, g) | false => (match l == 0 with | true => (l, g + 1) | false => (l - 1, 0))) = (match c.cnt (l == 0) (isWk lo) (hit S lo) with | false => (l, g) | true => (match l == 0 with | true => (l, g + 1) | false => (l - 1, g)))
      cases c.cnt (l == 0) (isWk lo) (hit S lo) with
      | false => rfl
      | true =>
        cases q : l == 0 with
        | true => rfl
        | false =>
          have : g = 0 := hz fun e => by have e : l = 0 := e; rw [e] at q; cases q
          rw [this]; rfl
    rw [e]
    refine fold_days c st S n (lo + 1) _ (by omega) ?_
    rw [← e]
    unfold stepB behD
    rw [decide_eq_false (show ¬ lo ≤ st by omega)]
    show (match !c.cnt (l == 0) (isWk lo) (hit S lo) with | true => (l, g) | false => (match l == 0 with | true => (l, g + 1) | false => (l - 1, 0))).1 ≠ 0 → (match !c.cnt (l == 0) (isWk lo) (hit S lo) with | true => (l, g) | false => (match l == 0 with | true => (l, g + 1) | false => (l - 1, 0))).2 = 0
    cases c.cnt (l == 0) (isWk lo) (hit S lo) with
    | false => exact hz
    | true =>
      cases q : l == 0 with
      | true => exact fun z => absurd (eq_of_beq q) z
      | false => exact fun _ => rfl
theorem start_rng (c : Cl) {l r : Int} (h : l ≤ r) : l ≤ c.start l r ∧ c.start l r ≤ r := by unfold Cl.start; cases c.land <;> simp only [] <;> omega
theorem out_law {c : Cl} (hc : c.Ok) {l r pl f : Int} {S : List Int} (hlr : l ≤ r) (hr : r ≤ pl) (hl : l < pl) (hF : Fin S pl f) {n : Nat} (hn : f ≤ l + 1 + n) : outN c (c.start l r) pl n (c.free, 0) (l + 1) S = lawCost c l r f S := by
  have st := start_rng c hlr
  have hf := hF.ge
  rw [out_fold c (c.start l r) pl hF (f - (l + 1)).toNat n _ _ (by omega) (by omega)]
  have e : daysL (l + 1) ((f - (l + 1)).toNat + 1) = daysL (l + 1) (c.start l r - l).toNat ++ daysL (c.start l r + 1) (f - c.start l r).toNat := by
    unfold daysL
    rw [show (f - (l + 1)).toNat + 1 = (c.start l r - l).toNat + (f - c.start l r).toNat by omega, List.range_add, List.map_append, List.map_map]
    congr 1
    refine List.map_congr_left fun i _ => ?_
    show l + 1 + (((c.start l r - l).toNat + i : Nat) : Int) = c.start l r + 1 + (i : Int)
    omega
  rw [e, List.foldl_append, fold_skip c (c.start l r) S (c.free, 0) (c.start l r - l).toNat (l + 1) (by omega), fold_days c _ S _ _ _ (by omega) (fun _ => rfl)]
  show amtC c (lawDays c l r f S) = sumC c (lawDays c l r f S)
  exact amt_law hc (lawDays_range hc.free.1 l r f S).1
noncomputable def finC (S : List Int) (pl : Int) : Int := Classical.choose (fin_ex S pl)
theorem finC_is (S : List Int) (pl : Int) : Fin S pl (finC S pl) := Classical.choose_spec (fin_ex S pl)
theorem Fin.uniq {S : List Int} {pl f g : Int} (h : Fin S pl f) (k : Fin S pl g) : f = g := by
  by_cases a : f < g
  · have := k.cl f h.ge a; rw [h.op] at this; cases this
  · by_cases b : g < f
    · have := h.cl g k.ge b; rw [k.op] at this; cases this
    · omega
/-- the worst: as the law asks it -/
structure WorstIs (c : Cl) (l r pl many : Int) (W : Int) (T : List Int) : Prop where
  over : ∀ S : List Int, S.Pairwise (· < ·) → (∀ s ∈ S, l < s) → S.length ≤ many.toNat → ∀ f, Fin S pl f → lawCost c l r f S ≤ W
  up : T.Pairwise (· < ·)
  mem : ∀ s ∈ T, l < s ∧ s ≤ pl + many
  len : T.length ≤ many.toNat
  at_ : ∀ f, Fin T pl f → lawCost c l r f T = W
def worstC (c : Cl) (l r pl many : Int) : Int × List Int := match decide (pl = l) with | true => (0, []) | false => bestC c (c.start l r) pl (c.free, 0) (l + 1) many
theorem cntF_le (S : List Int) (d : Int) : cntF S d ≤ S.length := List.length_filter_le _ _
theorem lawCost_zero (c : Cl) (l : Int) (S : List Int) : lawCost c l l l S = 0 := by
  have st : c.start l l = l := by unfold Cl.start; cases c.land <;> rfl
  unfold lawCost lawDays
  rw [st, show (l - l).toNat = 0 by omega]
  show sumC c 0 = 0
  unfold sumC
  cases c.whole with
  | true => show 0 * _ = (0 : Int); omega
  | false => rfl
theorem worst_is {c : Cl} (hc : c.Ok) {l r pl many : Int} (hlr : l ≤ r) (hr : r ≤ pl) (hm : 0 ≤ many) : WorstIs c l r pl many (worstC c l r pl many).1 (worstC c l r pl many).2 := by
  unfold worstC
  by_cases e : pl = l
  · rw [decide_eq_true e]
    have er : r = l := by omega
    subst e; subst er
    have fz : ∀ S : List Int, (∀ s ∈ S, r < s) → ∀ f, Fin S r f → f = r := fun S h f hf => by
      by_cases z : f = r
      · exact z
      · have := hf.cl r (Int.le_refl _) (by have := hf.ge; omega)
        have := h r (hit_iff.mp this)
        omega
    refine ⟨fun S _ h2 _ f hf => ?_, .nil, fun _ h => (by cases h), Nat.zero_le _, fun f hf => ?_⟩
    · rw [fz S h2 f hf, lawCost_zero]; exact Int.le_refl _
    · rw [fz [] (fun _ h => by cases h) f hf, lawCost_zero]
  · rw [decide_eq_false e]
    obtain ⟨i1, i2, i3, i4⟩ := best_at c (c.start l r) pl (meas pl (l + 1) many) (c.free, 0) (l + 1) many hm (Nat.le_refl _)
    refine ⟨fun S h1 h2 h3 f hf => ?_, i1, fun s hs => ?_, i3, fun f hf => ?_⟩
    · have hf2 := hf.le
      have hf3 := hf.ge
      rw [← out_law hc hlr hr (by omega) hf (n := meas pl (l + 1) many) (by unfold meas; omega)]
      exact best_over c _ pl h1 _ _ _ _ hm (Nat.le_refl _) (Nat.le_trans (cntF_le _ _) h3)
    · rcases i2 s hs with h | h <;> omega
    · have hf2 := hf.le
      have hf3 := hf.ge
      have hf2 : (f - pl).toNat ≤ (bestC c (c.start l r) pl (c.free, 0) (l + 1) many).2.length := hf2
      have i3' : (bestC c (c.start l r) pl (c.free, 0) (l + 1) many).2.length ≤ many.toNat := i3
      rw [← out_law hc hlr hr (by omega) hf (n := meas pl (l + 1) many) (by unfold meas; omega)]
      exact i4 _ fun _ _ => rfl
end Bx

set_option Elab.async false
set_option linter.all false
set_option maxRecDepth 100000
set_option maxHeartbeats 4000000
namespace Bx
open PySem PySem.Spec L2 L2H LamX NdefX
open PyProof.Rows hiding St
def topS (i : Nat) : Stmt := PySem.Challenge.pw_boxdays_k07_whole_foes.main.body.getD i (.Pass ⟨0, 0, 0, 0⟩)
section
variable {P : Program} {w : World} {K : PySem.W.Frag} {mg : Str → Option Value} {base : Heap} {ex : Str → Value} {as Ps : List Addr} {B : Addr}
def nmL : Nat → Nat → Str := fun l _ => if l ≤ 192 then (("_law_all_refused" : Str) ++ ".<locals>.") ++ "<lambda>" else (("_law_refused" : Str) ++ ".<locals>.") ++ "<lambda>"

abbrev s_is_whole : Stmt := topS 22
theorem sc_is_whole : FnScope ["value", "low", "high"] ["value", "low", "high"] (defScope s_is_whole) := ⟨rfl, rfl, rfl, by decide +kernel, rfl, by decide +kernel, by decide +kernel⟩
def sp_is_whole : DSpec := fun ds M Q _ => ∃ v lo hi, ds = [v, .int lo, .int hi] ∧ D.fit 64 v = true ∧ Q (.bl (isWholeD v lo hi)) M
theorem ok_is_whole (T : Here K mg "is_whole" ["value", "low", "high"] s_is_whole) (b_bool : mg "bool" = none) (b_int : mg "int" = none) (b_isinstance : mg "isinstance" = none) : DFn P w K mg base 2 "is_whole" 3 sp_is_whole := by
  refine DFn.here (k := 1) T sc_is_whole (fun f cdv A outer s H E hX => (dss_one (ds_ret (de_and (de_isT (T := "int") b_isinstance b_int (dv 0)) (de_and (de_not (de_isT (T := "bool") b_isinstance b_bool (dv 0))) (de_one (de_lele (dv 1) (dv 0) (dv 2)))))))) (fun ds M Q Ed hl hs => ?_)
  obtain ⟨v, lo, hi, rfl, hf, q⟩ := hs
  cases v with
  | int i =>
    have q : Q (.bl (decide (lo ≤ i) && decide (i ≤ hi))) M := q
    refine onD_i (b := decide (lo ≤ i)) (fun h => ?_) (fun h => ?_)
    · rw [h] at q; exact q
    · rw [h] at q; exact q
  | ref a => simp [D.fit] at hf
  | fro a => simp [D.fit] at hf
  | _ => exact q

abbrev s_are_truths : Stmt := topS 23
theorem sc_are_truths : FnScope ["value", "truth"] ["value"] (defScope s_are_truths) := ⟨rfl, rfl, rfl, by decide +kernel, rfl, by decide +kernel, by decide +kernel⟩
def sp_are_truths : DSpec := fun ds M Q _ => ∃ v, ds = [v] ∧ D.fit 64 v = true ∧ Q (.bl (isTruths v)) M
theorem ok_are_truths (T : Here K mg "are_truths" ["value"] s_are_truths) (b_all : mg "all" = none) (b_bool : mg "bool" = none) (b_isinstance : mg "isinstance" = none) (b_len : mg "len" = none) (b_tuple : mg "tuple" = none) : DFn P w K mg base 2 "are_truths" 1 sp_are_truths := by
  refine DFn.here (k := 1) T sc_are_truths (fun f cdv A outer s H E hX => (dss_one (ds_ret (de_and (de_isT (T := "tuple") b_isinstance b_tuple (dv 0)) (de_and (de_eq hX (de_len b_len (da_cons (dv 0) da_nil)) dint) (de_one (de_all hX b_all (da_cons (de_lc hX (own := [("truth", 1)]) (blkOk_by (N := ["value", "truth"]) (sc := defScope s_are_truths) (by decide +kernel)) (di_seq (dv 0)) (fun _ _ _ _ _ hX => ⟨(dg_nm hX 1), dts_nil, (de_isT (T := "bool") b_isinstance b_bool (dv 1))⟩)) da_nil)))))))) (fun ds M Q Ed hl hs => ?_)
  obtain ⟨v, rfl, hf, q⟩ := hs
  cases v with
  | tup es =>
    refine ⟨⟨fit_int _ _, fit_int _ _⟩, ?_⟩
    match es, hf, q with
    | [a, b], hf, q =>
      obtain ⟨ha, hb⟩ := fit_tup2 hf
      refine lc_map (fun d => D.bl (isBl d)) ?_ (fun i d hd Y hY => ?_) ?_
      · show 2 ≤ sizeLine
        decide
      · have : D.fit 63 d = true := by
          match i, hd with
          | 0, hd => cases hd; exact ha
          | 1, hd => cases hd; exact hb
        cases d with
        | ref a => simp [D.fit] at this
        | fro a => simp [D.fit] at this
        | _ => exact hY
      · have q : Q (.bl (isBl a && isBl b)) M := q
        show Q (.bl (isBl a && (isBl b && true))) M
        rw [Bool.and_true]
        exact q
    | [], hf, q => exact q
    | [a], hf, q => exact q
    | a :: b :: c :: r, hf, q =>
      refine onD_i (fun h => ?_) fun h => q
      have : ((a :: b :: c :: r).length : Int) = 2 := by simpa [D.eqv] using h
      simp at this
      omega
  | ref a => simp [D.fit] at hf
  | fro a => simp [D.fit] at hf
  | _ => exact q

abbrev s_rises : Stmt := topS 24
theorem sc_rises : FnScope ["numbers", "one", "other"] ["numbers"] (defScope s_rises) := ⟨rfl, rfl, rfl, by decide +kernel, rfl, by decide +kernel, by decide +kernel⟩
def sp_rises : DSpec := fun ds M Q _ => ∃ is : List Int, (ds = [.lst (is.map D.int)] ∨ ds = [.tup (is.map D.int)]) ∧ is.length ≤ sizeLine ∧ Q (.bl (rising is)) M
theorem ok_rises (T : Here K mg "rises" ["numbers"] s_rises) (b_all : mg "all" = none) (b_zip : mg "zip" = none) : DFn P w K mg base 2 "rises" 1 sp_rises := by
  refine DFn.here (k := 1) T sc_rises (fun f cdv A outer s H E hX => (dss_one (ds_ret (de_all hX b_all (da_cons (de_lc hX (own := [("one", 1), ("other", 2)]) (blkOk_by (N := ["numbers", "one", "other"]) (sc := defScope s_rises) (by decide +kernel)) (di_zip b_zip (da_cons (dv 0) (da_cons (de_cut (dv 0) (do_some dint) do_none) da_nil))) (fun _ _ _ _ _ hX => ⟨(dg_tup hX (dgs_cons (dg_nm hX 1) (dgs_cons (dg_nm hX 2) dgs_nil))), dts_nil, (de_lt (dv 1) (dv 2))⟩)) da_nil))))) (fun ds M Q Ed hl hs => ?_)
  obtain ⟨is, hd, hl2, q⟩ := hs
  have len : (zipD (is.map D.int) (is.map D.int).tail).length ≤ sizeLine := by
    rw [zipD_len, List.length_map]
    exact Nat.le_trans (Nat.min_le_left _ _) hl2
  have turn : ∀ (i : Nat) d, (zipD (is.map D.int) (is.map D.int).tail)[i]? = some d → ∃ a b, d = .tup [.int a, .int b] := fun i d h => by
    rw [zipD_ints, List.getElem?_map] at h
    cases e : (is.zip is.tail)[i]? with
    | none => rw [e] at h; cases h
    | some p => rw [e] at h; exact ⟨p.1, p.2, (Option.some.inj h).symm⟩
  have fin : (match bools ((zipD (is.map D.int) (is.map D.int).tail).map fun d => D.bl (ltPair d)) with | some bs => Q (.bl (bs.all id)) M | none => False) := by
    rw [bools_mapF]
    show Q (.bl (((zipD (is.map D.int) (is.map D.int).tail).map ltPair).all id)) M
    rw [all_mapid, all_ltPair]
    exact q
  have ct := cut_tail (is.map D.int)
  rcases hd with rfl | rfl
  all_goals
    refine lc_map (fun d => D.bl (ltPair d)) (by rw [ct]; exact len) (fun i d hd Y hY => ?_) ?_
    · rw [ct] at hd
      obtain ⟨a, b, rfl⟩ := turn i d hd
      exact hY
    · show (match bools ((zipD (is.map D.int) (cutD (is.map D.int) (some 1) none)).map fun d => D.bl (ltPair d)) with | some bs => Q (.bl (bs.all id)) M | none => False)
      rw [ct]
      exact fin

abbrev s_is_step : Stmt := topS 25
theorem sc_is_step : FnScope ["value"] ["value"] (defScope s_is_step) := ⟨rfl, rfl, rfl, by decide +kernel, rfl, by decide +kernel, by decide +kernel⟩
def sp_is_step : DSpec := fun ds M Q _ => ∃ v, ds = [v] ∧ D.fit 64 v = true ∧ Q (.bl (isStepD v)) M
theorem ok_is_step (T : Here K mg "is_step" ["value"] s_is_step) (b_isinstance : mg "isinstance" = none) (b_len : mg "len" = none) (b_tuple : mg "tuple" = none) (g_MOST_FIRST : IntAt mg "MOST_FIRST" 6) (g_MOST_PRICE : IntAt mg "MOST_PRICE" 5) (c_is_whole : DFn P w K mg base 2 "is_whole" 3 sp_is_whole) : DFn P w K mg base 3 "is_step" 1 sp_is_step := by
  refine DFn.here (k := 2) T sc_is_step (fun f cdv A outer s H E hX => (dss_cons (ds_if (DW.dt (dw_or (dt_not (dt_val (de_isT (T := "tuple") b_isinstance b_tuple (dv 0)))) (dw_or1 (dt_ne hX (de_len b_len (da_cons (dv 0) da_nil)) dint)))) (dss_one (ds_ret dbl)) dss_nil)
      (dss_one (ds_ret (de_and (de_call hX c_is_whole (da_cons (de_ix (dv 0) dint) (da_cons dint (da_cons (dgi g_MOST_FIRST) da_nil)))) (de_one (de_call hX c_is_whole (da_cons (de_ix (dv 0) dint) (da_cons dint (da_cons (dgi g_MOST_PRICE) da_nil)))))))))) (fun ds M Q Ed hl hs => ?_)
  obtain ⟨v, rfl, hf, q⟩ := hs
  cases v with
  | tup es =>
    refine ⟨⟨fit_int _ _, fit_int _ _⟩, ?_⟩
    match es, hf, q with
    | [a, b], hf, q =>
      obtain ⟨ha, hb⟩ := fit_tup2 hf
      refine ⟨rfl, a, 1, 6, rfl, fit_up ha (by decide), onD_i (fun h => ⟨rfl, b, 0, 5, rfl, fit_up hb (by decide), ?_⟩) fun h => ?_⟩
      all_goals
        have q : Q (.bl (isWholeD a 1 6 && isWholeD b 0 5)) M := q
        rw [h] at q
        exact q
    | [], hf, q => exact q
    | [a], hf, q => exact q
    | a :: b :: c :: r, hf, q =>
      refine onT_i (fun h => q) fun h => ?_
      have : ((a :: b :: c :: r).length : Int) = 2 := by simpa [D.eqv] using h
      simp at this
      omega
  | ref a => simp [D.fit] at hf
  | fro a => simp [D.fit] at hf
  | _ => exact q

abbrev s_are_steps : Stmt := topS 26
theorem sc_are_steps : FnScope ["value", "first", "price", "step"] ["value"] (defScope s_are_steps) := ⟨rfl, rfl, rfl, by decide +kernel, rfl, by decide +kernel, by decide +kernel⟩
def sp_are_steps : DSpec := fun ds M Q _ => ∃ v, ds = [v] ∧ D.fit 64 v = true ∧ Q (.bl (isStepsD v)) M
theorem ok_are_steps (T : Here K mg "are_steps" ["value"] s_are_steps) (b_all : mg "all" = none) (b_isinstance : mg "isinstance" = none) (b_len : mg "len" = none) (b_tuple : mg "tuple" = none) (g_MOST_STEPS : IntAt mg "MOST_STEPS" 3) (c_rises : DFn P w K mg base 2 "rises" 1 sp_rises) (c_is_step : DFn P w K mg base 3 "is_step" 1 sp_is_step) : DFn P w K mg base 4 "are_steps" 1 sp_are_steps := by
  refine DFn.here (k := 3) T sc_are_steps (fun f cdv A outer s H E hX => (dss_cons (ds_if (DW.dt (dw_or (dt_not (dt_val (de_isT (T := "tuple") b_isinstance b_tuple (dv 0)))) (dw_or (dt_not (dt_lele dint (de_len b_len (da_cons (dv 0) da_nil)) (dgi g_MOST_STEPS))) (dw_or1 (dt_not (dt_val (de_all hX b_all (da_cons (de_lc hX (own := [("step", 3)]) (blkOk_by (N := ["value", "first", "price", "step"]) (sc := defScope s_are_steps) (by decide +kernel)) (di_seq (dv 0)) (fun _ _ _ _ _ hX => ⟨(dg_nm hX 3), dts_nil, (de_call hX c_is_step (da_cons (dv 3) da_nil))⟩)) da_nil)))))))) (dss_one (ds_ret dbl)) dss_nil)
      (dss_one (ds_ret (de_and (de_eq hX (de_ix (de_ix (dv 0) dint) dint) dint) (de_one (de_call hX c_rises (da_cons (de_lc hX (own := [("first", 1), ("price", 2)]) (blkOk_by (N := ["value", "first", "price", "step"]) (sc := defScope s_are_steps) (by decide +kernel)) (di_seq (dv 0)) (fun _ _ _ _ _ hX => ⟨(dg_tup hX (dgs_cons (dg_nm hX 1) (dgs_cons (dg_nm hX 2) dgs_nil))), dts_nil, (dv 1)⟩)) da_nil)))))))) (fun ds M Q Ed hl hs => ?_)
  obtain ⟨v, rfl, hf, q⟩ := hs
  cases v with
  | tup es =>
    have q : Q (.bl (decide (1 ≤ es.length) && decide (es.length ≤ 3) && es.all isStepD && D.eqv ((es.map fstD).getD 0 .non) (.int 1) && risesD (es.map fstD))) M := q
    have hfe : D.fitAll 63 es = true := by simpa [D.fit] using hf
    by_cases h1 : 1 ≤ es.length
    · refine onD_i (b := decide ((1 : Int) ≤ (es.length : Int))) (fun _ => ?_) (fun h => absurd (of_decide_eq_false h) (by omega))
      by_cases h3 : es.length ≤ 3
      · refine onT_i (b := !decide ((es.length : Int) ≤ 3)) (fun h => by simp at h; omega) (fun _ => ?_)
        refine lc_map (fun d => D.bl (isStepD d)) ?_ (fun i d hd Y hY => ?_) ?_
        · exact Nat.le_trans h3 (by decide)
        · exact ⟨rfl, d, rfl, fit_up (fitAll_mem.mp hfe d (List.mem_of_getElem? hd)) (by decide), hY⟩
        · show (match bools (es.map fun d => D.bl (isStepD d)) with | some bs => _ | none => False)
          rw [bools_mapF]
          refine onT_i (b := !((es.map isStepD).all id)) (fun h => ?_) (fun h => ?_)
          · rw [all_mapid] at h
            have h : es.all isStepD = false := by simpa using h
            rw [h] at q
            have q : Q (.bl false) M := by simpa using q
            exact q
          · rw [all_mapid] at h
            have h : es.all isStepD = true := by simpa using h
            rw [h, decide_eq_true h1, decide_eq_true h3] at q
            obtain ⟨ps, e1, e2, e3⟩ := steps_ints h
            subst e1
            match ps, h1, h3, e2, q with
            | [], h1, _, _, _ => exact absurd h1 (by decide)
            | p :: ps, h1, h3, e2, q =>
              refine onO_i (atI_nat (j := 0) rfl) ⟨⟨fit_int _ _, fit_int _ _⟩, onD_i (b := (p.1 == 1)) (fun h5 => ?_) (fun h5 => ?_)⟩
              · refine lc_map fstD ?_ (fun i d hd Y hY => ?_) ?_
                · exact Nat.le_trans h3 (by decide)
                · rw [List.getElem?_map] at hd
                  cases e : (p :: ps)[i]? with
                  | none => rw [e] at hd; cases hd
                  | some r => rw [e] at hd; cases hd; exact hY
                · refine ⟨rfl, (p :: ps).map (·.1), .inl ?_, ?_, ?_⟩
                  · show [D.lst _] = _
                    rw [e2]
                  · rw [List.length_map]; rw [List.length_map] at h3; exact Nat.le_trans h3 (by decide)
                  · rw [e2, rises_ints] at q
                    have e6 : D.eqv (((((p :: ps).map (·.1)).map D.int)).getD 0 .non) (.int 1) = true := by simpa [D.eqv] using h5
                    rw [e6] at q
                    have q : Q (.bl (rising ((p :: ps).map (·.1)))) M := by simpa using q
                    exact q
              · rw [e2] at q
                have e6 : D.eqv (((((p :: ps).map (·.1)).map D.int)).getD 0 .non) (.int 1) = false := by simpa [D.eqv] using h5
                rw [e6] at q
                have q : Q (.bl false) M := by simpa using q
                exact q
      · refine onT_i (b := !decide ((es.length : Int) ≤ 3)) (fun _ => ?_) (fun h => by simp at h; omega)
        rw [decide_eq_false h3] at q
        have q : Q (.bl false) M := by simpa using q
        exact q
    · refine onD_i (b := decide ((1 : Int) ≤ (es.length : Int))) (fun h => absurd (of_decide_eq_true h) (by omega)) (fun _ => ?_)
      rw [decide_eq_false h1] at q
      have q : Q (.bl false) M := by simpa using q
      exact q
  | ref a => simp [D.fit] at hf
  | fro a => simp [D.fit] at hf
  | _ => exact q

abbrev s_is_good : Stmt := topS 27
theorem sc_is_good : FnScope ["value", "start", "free", "ends", "stops", "steps", "whole"] ["value"] (defScope s_is_good) := ⟨rfl, rfl, rfl, by decide +kernel, rfl, by decide +kernel, by decide +kernel⟩
def sp_is_good : DSpec := fun ds M Q _ => ∃ v, ds = [v] ∧ D.fit 64 v = true ∧ Q (.bl (isClauseD v)) M
theorem ok_is_good (T : Here K mg "is_good" ["value"] s_is_good) (b_bool : mg "bool" = none) (b_isinstance : mg "isinstance" = none) (b_len : mg "len" = none) (b_str : mg "str" = none) (b_tuple : mg "tuple" = none) (g_MOST_FREE : IntAt mg "MOST_FREE" 6) (c_is_whole : DFn P w K mg base 2 "is_whole" 3 sp_is_whole) (c_are_truths : DFn P w K mg base 2 "are_truths" 1 sp_are_truths) (c_are_steps : DFn P w K mg base 4 "are_steps" 1 sp_are_steps) : DFn P w K mg base 5 "is_good" 1 sp_is_good := by
  refine DFn.here (k := 4) T sc_is_good (fun f cdv A outer s H E hX => (dss_cons (ds_if (DW.dt (dw_or (dt_not (dt_val (de_isT (T := "tuple") b_isinstance b_tuple (dv 0)))) (dw_or1 (dt_ne hX (de_len b_len (da_cons (dv 0) da_nil)) dint)))) (dss_one (ds_ret dbl)) dss_nil)
      (dss_cons (ds_asg (dv 0) (dg_tup hX (dgs_cons (dg_nm hX 1) (dgs_cons (dg_nm hX 2) (dgs_cons (dg_nm hX 3) (dgs_cons (dg_nm hX 4) (dgs_cons (dg_nm hX 5) (dgs_cons (dg_nm hX 6) dgs_nil))))))))
      (dss_cons (ds_if (DW.dt (dw_or (dt_not (dt_val (de_isT (T := "str") b_isinstance b_str (dv 1)))) (dw_or (dt_notInF (dv 1) (de_tup (da_cons dstr (da_cons dstr da_nil)))) (dw_or1 (dt_not (dt_val (de_call hX c_is_whole (da_cons (dv 2) (da_cons dint (da_cons (dgi g_MOST_FREE) da_nil)))))))))) (dss_one (ds_ret dbl)) dss_nil)
      (dss_one (ds_ret (de_and (de_call hX c_are_truths (da_cons (dv 3) da_nil)) (de_and (de_call hX c_are_truths (da_cons (dv 4) da_nil)) (de_and (de_call hX c_are_steps (da_cons (dv 5) da_nil)) (de_one (de_isT (T := "bool") b_isinstance b_bool (dv 6)))))))))))) (fun ds M Q Ed hl hs => ?_)
  obtain ⟨v, rfl, hf, q⟩ := hs
  cases v with
  | tup es =>
    refine ⟨⟨fit_int _ _, fit_int _ _⟩, ?_⟩
    have no : es.length ≠ 6 → Q (.bl false) M := fun h => by
      match es, h, q with
      | [], _, q => exact q
      | [_], _, q => exact q
      | [_, _], _, q => exact q
      | [_, _, _], _, q => exact q
      | [_, _, _, _], _, q => exact q
      | [_, _, _, _, _], _, q => exact q
      | [_, _, _, _, _, _], h, _ => exact absurd rfl h
      | _ :: _ :: _ :: _ :: _ :: _ :: _ :: _, _, q => exact q
    refine onT_i (b := !((es.length : Int) == 6)) (fun h => no fun e => by rw [e] at h; cases h) (fun h => ?_)
    have h6 : es.length = 6 := by
      have : ((es.length : Int) == 6) = true := by simpa using h
      have := eq_of_beq this
      omega
    match es, h6, hf, q with
    | [b, f, e, t, s, w], _, hf, q =>
      have hfe : D.fitAll 63 [b, f, e, t, s, w] = true := by simpa [D.fit] using hf
      have fits := fitAll_mem.mp hfe
      have fb := fit_up (m := 64) (fits b (by simp)) (by decide)
      have ff := fit_up (m := 64) (fits f (by simp)) (by decide)
      have fe := fit_up (m := 64) (fits e (by simp)) (by decide)
      have ft := fit_up (m := 64) (fits t (by simp)) (by decide)
      have fs := fit_up (m := 64) (fits s (by simp)) (by decide)
      have fw := fit_up (m := 64) (fits w (by simp)) (by decide)
      have q : Q (.bl (isStart b && isWholeD f 0 6 && isTruths e && isTruths t && isStepsD s && isBl w)) M := q
      clear hf hfe fits no h h6
      cases b with
      | str x =>
        refine ⟨by decide, ⟨rfl, rfl⟩, ?_⟩
        have ein : ([D.str "landing", D.str "release"].any fun z => D.eqv z (.str x)) = isStart (.str x) := by
          show (("landing" == x) || (("release" == x) || false)) = (x == "landing" || x == "release")
          rw [Bool.or_false, beqStr_comm ("landing" : Str) x, beqStr_comm ("release" : Str) x]
        refine onT_i (b := (true != ([D.str "landing", D.str "release"].any fun z => D.eqv z (.str x)))) (fun h => ?_) (fun h => ?_)
        · rw [ein] at h
          have h : isStart (.str x) = false := by simpa using h
          rw [h] at q
          exact q
        · rw [ein] at h
          have h : isStart (.str x) = true := by simpa using h
          rw [h] at q
          refine ⟨rfl, f, 0, 6, rfl, ff, onT_i (b := !isWholeD f 0 6) (fun h1 => ?_) (fun h1 => ?_)⟩
          · have h1 : isWholeD f 0 6 = false := by simpa using h1
            rw [h1] at q
            exact q
          · have h1 : isWholeD f 0 6 = true := by simpa using h1
            rw [h1] at q
            refine ⟨rfl, e, rfl, fe, onD_i (b := isTruths e) (fun h2 => ?_) (fun h2 => ?_)⟩
            · rw [h2] at q
              refine ⟨rfl, t, rfl, ft, onD_i (b := isTruths t) (fun h3 => ?_) (fun h3 => ?_)⟩
              · rw [h3] at q
                refine ⟨rfl, s, rfl, fs, onD_i (b := isStepsD s) (fun h4 => ?_) (fun h4 => ?_)⟩
                · rw [h4] at q
                  cases w with
                  | ref a => simp [D.fit] at fw
                  | fro a => simp [D.fit] at fw
                  | _ => exact q
                · rw [h4] at q; exact q
              · rw [h3] at q; exact q
            · rw [h2] at q; exact q
      | ref a => simp [D.fit] at fb
      | fro a => simp [D.fit] at fb
      | _ => exact q
  | ref a => simp [D.fit] at hf
  | fro a => simp [D.fit] at hf
  | _ => exact q

abbrev s_is_good_box : Stmt := topS 28
theorem sc_is_good_box : FnScope ["value", "day"] ["value"] (defScope s_is_good_box) := ⟨rfl, rfl, rfl, by decide +kernel, rfl, by decide +kernel, by decide +kernel⟩
def sp_is_good_box : DSpec := fun ds M Q _ => ∃ v, ds = [v] ∧ D.fit 64 v = true ∧ Q (.bl (isBoxD v)) M
theorem ok_is_good_box (T : Here K mg "is_good_box" ["value"] s_is_good_box) (b_all : mg "all" = none) (b_isinstance : mg "isinstance" = none) (b_len : mg "len" = none) (b_tuple : mg "tuple" = none) (g_FAR : IntAt mg "FAR" 1000000000000000000000000000000) (c_is_whole : DFn P w K mg base 2 "is_whole" 3 sp_is_whole) : DFn P w K mg base 3 "is_good_box" 1 sp_is_good_box := by
  refine DFn.here (k := 2) T sc_is_good_box (fun f cdv A outer s H E hX => (dss_cons (ds_if (DW.dt (dw_or (dt_not (dt_val (de_isT (T := "tuple") b_isinstance b_tuple (dv 0)))) (dw_or (dt_ne hX (de_len b_len (da_cons (dv 0) da_nil)) dint) (dw_or1 (dt_not (dt_val (de_all hX b_all (da_cons (de_lc hX (own := [("day", 1)]) (blkOk_by (N := ["value", "day"]) (sc := defScope s_is_good_box) (by decide +kernel)) (di_seq (dv 0)) (fun _ _ _ _ _ hX => ⟨(dg_nm hX 1), dts_nil, (de_call hX c_is_whole (da_cons (dv 1) (da_cons dint (da_cons (dgi g_FAR) da_nil))))⟩)) da_nil)))))))) (dss_one (ds_ret dbl)) dss_nil)
      (dss_one (ds_ret (de_le (de_ix (dv 0) dint) (de_ix (dv 0) dint)))))) (fun ds M Q Ed hl hs => ?_)
  obtain ⟨v, rfl, hf, q⟩ := hs
  cases v with
  | tup es =>
    refine ⟨⟨fit_int _ _, fit_int _ _⟩, ?_⟩
    have no : es.length ≠ 2 → Q (.bl false) M := fun h => by
      match es, h, q with
      | [], _, q => exact q
      | [x], _, q => rw [isBoxD_len (by simp)] at q; exact q
      | [_, _], h, _ => exact absurd rfl h
      | _ :: _ :: _ :: _, _, q => rw [isBoxD_len (by simp)] at q; exact q
    refine onT_i (b := !((es.length : Int) == 2)) (fun h => no fun e => by rw [e] at h; cases h) (fun h => ?_)
    have h6 : es.length = 2 := by
      have : ((es.length : Int) == 2) = true := by simpa using h
      have := eq_of_beq this
      omega
    match es, h6, hf, q with
    | [a, b], _, hf, q =>
      obtain ⟨fa, fb⟩ := fit_tup2 hf
      clear no h h6
      refine lc_map (fun d => D.bl (isWholeD d 0 (10 ^ 30))) ?_ (fun i d hd Y hY => ?_) ?_
      · show 2 ≤ sizeLine
        decide
      · refine ⟨rfl, d, 0, _, rfl, ?_, hY⟩
        match i, hd with
        | 0, hd => cases hd; exact fit_up fa (by decide)
        | 1, hd => cases hd; exact fit_up fb (by decide)
      · refine onT_i (b := !(isWholeD a 0 (10 ^ 30) && (isWholeD b 0 (10 ^ 30) && true))) (fun h => ?_) (fun h => ?_)
        · have h : (isWholeD a 0 (10 ^ 30) && isWholeD b 0 (10 ^ 30)) = false := by rw [Bool.and_true] at h; exact Bool.not_eq_true' _ |>.mp h
          have e : isBoxD (.tup [a, b]) = false := by
            cases a <;> cases b <;> first
              | rfl
              | (show (isWholeD _ 0 (10 ^ 30) && isWholeD _ 0 (10 ^ 30) && _) = false; rw [h]; rfl)
          rw [e] at q
          exact q
        · have h : isWholeD a 0 (10 ^ 30) = true ∧ isWholeD b 0 (10 ^ 30) = true := by simpa using h
          obtain ⟨i, rfl, _, _⟩ := isWholeD_int h.1
          obtain ⟨j, rfl, _, _⟩ := isWholeD_int h.2
          have q : Q (.bl (isWholeD (.int i) 0 (10 ^ 30) && isWholeD (.int j) 0 (10 ^ 30) && decide (i ≤ j))) M := q
          rw [h.1, h.2] at q
          exact q
  | ref a => simp [D.fit] at hf
  | fro a => simp [D.fit] at hf
  | _ => exact q

abbrev s_need_clause : Stmt := topS 29
theorem sc_need_clause : FnScope ["clause"] ["clause"] (defScope s_need_clause) := ⟨rfl, rfl, rfl, by decide +kernel, rfl, by decide +kernel, by decide +kernel⟩
def sp_need_clause (ex : Str → Value) : DSpec := fun ds M Q Ed => ∃ v, ds = [v] ∧ D.fit 64 v = true ∧ (match isClauseD v with | true => Q .non M | false => Ed (ex "InvalidClause") M)
theorem ok_need_clause (T : Here K mg "need_clause" ["clause"] s_need_clause) (x_InvalidClause : ErrAt K mg ex "InvalidClause") (c_is_good : DFn P w K mg base 5 "is_good" 1 sp_is_good) : DFn P w K mg base 6 "need_clause" 1 (sp_need_clause ex) := by
  refine DFn.here (k := 5) T sc_need_clause (fun f cdv A outer s H E hX => (dss_one (ds_if (dt_not (dt_val (de_call hX c_is_good (da_cons (dv 0) da_nil)))) (dss_one (ds_raise hX x_InvalidClause)) dss_nil))) (fun ds M Q Ed hl hs => ?_)
  obtain ⟨v, rfl, hf, q⟩ := hs
  refine ⟨rfl, v, rfl, hf, onT_i (b := !isClauseD v) (fun h => ?_) (fun h => ?_)⟩
  · rw [bt h] at q; exact q
  · rw [bn h] at q; exact q

abbrev s_need_box : Stmt := topS 30
theorem sc_need_box : FnScope ["box"] ["box"] (defScope s_need_box) := ⟨rfl, rfl, rfl, by decide +kernel, rfl, by decide +kernel, by decide +kernel⟩
def sp_need_box (ex : Str → Value) : DSpec := fun ds M Q Ed => ∃ v, ds = [v] ∧ D.fit 64 v = true ∧ (match isBoxD v with | true => Q .non M | false => Ed (ex "InvalidBox") M)
theorem ok_need_box (T : Here K mg "need_box" ["box"] s_need_box) (x_InvalidBox : ErrAt K mg ex "InvalidBox") (c_is_good_box : DFn P w K mg base 3 "is_good_box" 1 sp_is_good_box) : DFn P w K mg base 4 "need_box" 1 (sp_need_box ex) := by
  refine DFn.here (k := 3) T sc_need_box (fun f cdv A outer s H E hX => (dss_one (ds_if (dt_not (dt_val (de_call hX c_is_good_box (da_cons (dv 0) da_nil)))) (dss_one (ds_raise hX x_InvalidBox)) dss_nil))) (fun ds M Q Ed hl hs => ?_)
  obtain ⟨v, rfl, hf, q⟩ := hs
  refine ⟨rfl, v, rfl, hf, onT_i (b := !isBoxD v) (fun h => ?_) (fun h => ?_)⟩
  · rw [bt h] at q; exact q
  · rw [bn h] at q; exact q

abbrev s_need_day : Stmt := topS 31
theorem sc_need_day : FnScope ["day", "low", "high"] ["day", "low", "high"] (defScope s_need_day) := ⟨rfl, rfl, rfl, by decide +kernel, rfl, by decide +kernel, by decide +kernel⟩
def sp_need_day (ex : Str → Value) : DSpec := fun ds M Q Ed => ∃ v lo hi, ds = [v, .int lo, .int hi] ∧ D.fit 64 v = true ∧ (match isWholeD v lo hi with | true => Q .non M | false => Ed (ex "InvalidDay") M)
theorem ok_need_day (T : Here K mg "need_day" ["day", "low", "high"] s_need_day) (x_InvalidDay : ErrAt K mg ex "InvalidDay") (c_is_whole : DFn P w K mg base 2 "is_whole" 3 sp_is_whole) : DFn P w K mg base 3 "need_day" 3 (sp_need_day ex) := by
  refine DFn.here (k := 2) T sc_need_day (fun f cdv A outer s H E hX => (dss_one (ds_if (dt_not (dt_val (de_call hX c_is_whole (da_cons (dv 0) (da_cons (dv 1) (da_cons (dv 2) da_nil)))))) (dss_one (ds_raise hX x_InvalidDay)) dss_nil))) (fun ds M Q Ed hl hs => ?_)
  obtain ⟨v, lo, hi, rfl, hf, q⟩ := hs
  refine ⟨rfl, v, lo, hi, rfl, hf, onT_i (b := !isWholeD v lo hi) (fun h => ?_) (fun h => ?_)⟩
  · rw [bt h] at q; exact q
  · rw [bn h] at q; exact q

abbrev s_need_number : Stmt := topS 32
theorem sc_need_number : FnScope ["number", "low", "high"] ["number", "low", "high"] (defScope s_need_number) := ⟨rfl, rfl, rfl, by decide +kernel, rfl, by decide +kernel, by decide +kernel⟩
def sp_need_number (ex : Str → Value) : DSpec := fun ds M Q Ed => ∃ v lo hi, ds = [v, .int lo, .int hi] ∧ D.fit 64 v = true ∧ (match isWholeD v lo hi with | true => Q .non M | false => Ed (ex "InvalidNumber") M)
theorem ok_need_number (T : Here K mg "need_number" ["number", "low", "high"] s_need_number) (x_InvalidNumber : ErrAt K mg ex "InvalidNumber") (c_is_whole : DFn P w K mg base 2 "is_whole" 3 sp_is_whole) : DFn P w K mg base 3 "need_number" 3 (sp_need_number ex) := by
  refine DFn.here (k := 2) T sc_need_number (fun f cdv A outer s H E hX => (dss_one (ds_if (dt_not (dt_val (de_call hX c_is_whole (da_cons (dv 0) (da_cons (dv 1) (da_cons (dv 2) da_nil)))))) (dss_one (ds_raise hX x_InvalidNumber)) dss_nil))) (fun ds M Q Ed hl hs => ?_)
  obtain ⟨v, lo, hi, rfl, hf, q⟩ := hs
  refine ⟨rfl, v, lo, hi, rfl, hf, onT_i (b := !isWholeD v lo hi) (fun h => ?_) (fun h => ?_)⟩
  · rw [bt h] at q; exact q
  · rw [bn h] at q; exact q

abbrev s_price_of : Stmt := topS 34
theorem sc_price_of : FnScope ["clause", "number", "first", "price"] ["clause", "number"] (defScope s_price_of) := ⟨rfl, rfl, rfl, by decide +kernel, rfl, by decide +kernel, by decide +kernel⟩
def sp_price_of : DSpec := fun ds M Q _ => ∃ (c : Cl) (n : Int), ds = [c.d, .int n] ∧ c.Ok ∧ 1 ≤ n ∧ Q (.int (priceF c.steps n)) M
theorem ok_price_of (T : Here K mg "price_of" ["clause", "number"] s_price_of) : DFn P w K mg base 2 "price_of" 2 sp_price_of := by
  refine DFn.here (k := 1) T sc_price_of (fun f cdv A outer s H E hX => (dss_one (ds_ret (de_ix (de_lc hX (own := [("first", 2), ("price", 3)]) (blkOk_by (N := ["clause", "number", "first", "price"]) (sc := defScope s_price_of) (by decide +kernel)) (di_seq (de_ix (dv 0) dint)) (fun _ _ _ _ _ hX => ⟨(dg_tup hX (dgs_cons (dg_nm hX 2) (dgs_cons (dg_nm hX 3) dgs_nil))), (dts_one (dt_le (dv 2) (dv 1))), (dv 3)⟩)) (de_neg dint))))) (fun ds M Q Ed hl hs => ?_)
  obtain ⟨c, n, rfl, hc, hn, q⟩ := hs
  have big : sizeLine = 16777216 := rfl
  refine lc_pure (prD n) (by rw [List.length_map]; have := hc.len.2; omega) (fun i d hd Y N h1 h2 => ?_) ?_
  · rw [List.getElem?_map] at hd
    cases e : c.steps[i]? with
    | none => rw [e] at hd; cases hd
    | some z =>
      rw [e] at hd; cases hd
      refine onT_i (b := decide (z.1 ≤ n)) (fun h => h1 _ ?_) (fun h => h2 ?_)
      · rw [prD_step, h]
      · rw [prD_step, h]
  · rw [price_filter]
    obtain ⟨xs, e⟩ := price_last hc hn
    rw [e]
    exact onO_i (atI_last _ _) q

abbrev s_amount : Stmt := topS 35
theorem sc_amount : FnScope ["clause", "days", "found", "ends", "step", "end", "first", "price"] ["clause", "days"] (defScope s_amount) := ⟨rfl, rfl, rfl, by decide +kernel, rfl, by decide +kernel, by decide +kernel⟩
def sp_amount : DSpec := fun ds M Q _ => ∃ (c : Cl) (n : Int), ds = [c.d, .int n] ∧ c.Ok ∧ Q (.int (amtC c n)) M
theorem ok_amount (T : Here K mg "amount" ["clause", "days"] s_amount) (b_max : mg "max" = none) (b_min : mg "min" = none) (b_zip : mg "zip" = none) (c_price_of : DFn P w K mg base 2 "price_of" 2 sp_price_of) : DFn P w K mg base 3 "amount" 2 sp_amount := by
  refine DFn.here (k := 2) T sc_amount (fun f cdv A outer s H E hX => (dss_cons (ds_if (dt_val (de_ix (dv 0) dint)) (dss_one (ds_ret (de_if (dt_gt (dv 1) dint) (de_mul (dv 1) (de_call hX c_price_of (da_cons (dv 0) (da_cons (dv 1) da_nil)))) dint))) dss_nil)
      (dss_cons (ds_par hX 2 3 (da_cons dint (da_cons (de_add (de_cutL (de_lc hX (own := [("first", 6), ("price", 7)]) (blkOk_by (N := ["clause", "days", "found", "ends", "step", "end", "first", "price"]) (sc := defScope s_amount) (by decide +kernel)) (di_seq (de_ix (dv 0) dint)) (fun _ _ _ _ _ hX => ⟨(dg_tup hX (dgs_cons (dg_nm hX 6) (dgs_cons (dg_nm hX 7) dgs_nil))), dts_nil, (dv 6)⟩)) (do_some dint) do_none) (de_lst (da_cons (de_add (dv 1) dint) da_nil))) da_nil)))
      (dss_cons (ds_for hX (di_zipM b_zip (da_cons (de_ix (dv 0) dint) (da_cons (dv 3) da_nil))) (dg_tup hX (dgs_cons (dg_nm hX 4) (dgs_cons (dg_nm hX 5) dgs_nil))) (dss_one (ds_set hX 2 (de_add (dv 2) (de_mul (de_max2 hX b_max (da_cons dint (da_cons (de_add (de_sub (de_min2 hX b_min (da_cons (de_sub (dv 5) dint) (da_cons (dv 1) da_nil))) (de_ix (dv 4) dint)) dint) da_nil))) (de_ix (dv 4) dint))))))
      (dss_one (ds_ret (dv 2))))))) (fun ds M Q Ed hl hs => ?_)
  obtain ⟨c, n, rfl, hc, q⟩ := hs
  have big : sizeLine = 16777216 := rfl
  have hl := hc.len
  have hstep := hc.step
  unfold amtC at q
  refine onT_i (b := c.whole) (fun h => ?_) (fun h => ?_)
  · rw [h] at q
    refine onT_i (b := decide (0 < n)) (fun h => ?_) (fun h => ?_)
    · have h' : decide (n > 0) = true := h
      rw [h'] at q
      have pb := price_bound hc n
      have := of_decide_eq_true h
      exact ⟨rfl, c, n, rfl, hc, by omega, cmulR ⟨by omega, by omega⟩, q⟩
    · have h' : decide (n > 0) = false := h
      rw [h'] at q
      exact q
  · rw [h] at q
    refine lc_map fstD (by rw [List.length_map]; omega) (fun i d hd Y hY => ?_) ?_
    · rw [List.getElem?_map] at hd
      cases e : c.steps[i]? with
      | none => rw [e] at hd; cases hd
      | some z => rw [e] at hd; cases hd; exact hY
    · rw [fst_stepD]
      have ec : cutD ((c.steps.map (·.1)).map D.int) (some 1) none = ((c.steps.map (·.1)).tail).map D.int := by rw [cut_tail, List.map_tail]
      have ee : cutD ((c.steps.map (·.1)).map D.int) (some 1) none ++ [D.int (n + 1)] = (c.ends n).map D.int := by rw [ec]; unfold Cl.ends; rw [List.map_append]; rfl
      refine ⟨sl, ?_, ?_⟩
      · show (cutD ((c.steps.map (·.1)).map D.int) (some 1) none).length + 1 ≤ sizeLine
        have := cut_len_le ((c.steps.map (·.1)).map D.int) (some 1) none
        rw [List.length_map, List.length_map] at this
        omega
      · rw [ee]
        have ez : zipD (c.steps.map stepD) ((c.ends n).map D.int) = (c.steps.zip (c.ends n)).map fun z => D.tup [stepD z.1, .int z.2] := by
          unfold zipD
          rw [List.zip_map, List.map_map]
          rfl
        refine ⟨fun i δ' M' => (∃ x y z v, δ' = ⟨[some c.d, some (.int n), some (.int (amtG ((c.steps.zip (c.ends n)).take i) n)), some (.lst ((c.ends n).map D.int)), x, y, z, v], Ed⟩) ∧ M' = M, ⟨⟨_, _, _, _, rfl⟩, rfl⟩, fun i d δ' M' hd ⟨⟨x, y, u, v, e1⟩, e2⟩ => ?_, fun δ' M' ⟨⟨x, y, z, v, e1⟩, e2⟩ => ?_⟩
        · subst e1; subst e2
          rw [ez, List.getElem?_map] at hd
          cases e : (c.steps.zip (c.ends n))[i]? with
          | none => rw [e] at hd; cases hd
          | some z =>
            rw [e] at hd; cases hd
            have pb := (hstep z.1 (List.of_mem_zip (List.mem_of_getElem? (show (c.steps.zip (c.ends n))[i]? = some (z.1, z.2) from e))).1).2
            have ea : amtG ((c.steps.zip (c.ends n)).take (i + 1)) n = amtG ((c.steps.zip (c.ends n)).take i) n + mx0 (mn (z.2 - 1) n - z.1.1 + 1) * z.1.2 := by
              unfold amtG
              rw [List.take_add_one, e, List.foldl_append]
              rfl
            exact ⟨cmulR ⟨by omega, by omega⟩, ⟨some (stepD z.1), some (.int z.2), u, v, by rw [ea] <;> rfl⟩, rfl⟩
        · subst e1; subst e2
          rw [ez, List.length_map, List.take_length]
          exact q

abbrev s_is_counted : Stmt := topS 36
theorem sc_is_counted : FnScope ["clause", "weekend", "strike", "late"] ["clause", "weekend", "strike", "late"] (defScope s_is_counted) := ⟨rfl, rfl, rfl, by decide +kernel, rfl, by decide +kernel, by decide +kernel⟩
def sp_is_counted : DSpec := fun ds M Q _ => ∃ (c : Cl) (w s late : Bool), ds = [c.d, .bl w, .bl s, .int (b1 late)] ∧ Q (.bl (c.cnt late w s)) M
theorem ok_is_counted (T : Here K mg "is_counted" ["clause", "weekend", "strike", "late"] s_is_counted) : DFn P w K mg base 2 "is_counted" 4 sp_is_counted := by
  refine DFn.here (k := 1) T sc_is_counted (fun f cdv A outer s H E hX => (dss_one (ds_ret (de_and (de_or (de_not (dv 1)) (de_one (de_ix (de_ix (dv 0) dint) (dv 3)))) (de_one (de_not (de_and (dv 2) (de_one (de_ix (de_ix (dv 0) dint) (dv 3)))))))))) (fun ds M Q Ed hl hs => ?_)
  obtain ⟨c, w, s, late, rfl, q⟩ := hs
  obtain ⟨land, free, e0, e1, s0, s1, steps, whole⟩ := c
  cases w <;> cases s <;> cases late <;> first
    | exact q
    | (cases e0 <;> cases e1 <;> cases s0 <;> cases s1 <;> exact q)

abbrev s_is_weekend : Stmt := topS 37
theorem sc_is_weekend : FnScope ["day"] ["day"] (defScope s_is_weekend) := ⟨rfl, rfl, rfl, by decide +kernel, rfl, by decide +kernel, by decide +kernel⟩
def sp_is_weekend : DSpec := fun ds M Q _ => ∃ d, ds = [.int d] ∧ Q (.bl (isWk d)) M
theorem ok_is_weekend (T : Here K mg "is_weekend" ["day"] s_is_weekend) (g_WEEK : IntAt mg "WEEK" 7) : DFn P w K mg base 2 "is_weekend" 1 sp_is_weekend := by
  refine DFn.here (k := 1) T sc_is_weekend (fun f cdv A outer s H E hX => (dss_one (ds_ret (de_ge (de_mod (dv 0) (dgi g_WEEK)) dint)))) (fun ds M Q Ed hl hs => ?_)
  obtain ⟨d, rfl, q⟩ := hs
  exact ⟨cmod, q⟩

abbrev s_start_of : Stmt := topS 38
theorem sc_start_of : FnScope ["clause", "box"] ["clause", "box"] (defScope s_start_of) := ⟨rfl, rfl, rfl, by decide +kernel, rfl, by decide +kernel, by decide +kernel⟩
def sp_start_of : DSpec := fun ds M Q _ => ∃ (c : Cl) (l r : Int), ds = [c.d, boxD l r] ∧ Q (.int (c.start l r)) M
theorem ok_start_of (T : Here K mg "start_of" ["clause", "box"] s_start_of) : DFn P w K mg base 2 "start_of" 2 sp_start_of := by
  refine DFn.here (k := 1) T sc_start_of (fun f cdv A outer s H E hX => (dss_one (ds_ret (de_if (dt_eq hX (de_ix (dv 0) dint) dstr) (de_ix (dv 1) dint) (de_ix (dv 1) dint))))) (fun ds M Q Ed hl hs => ?_)
  obtain ⟨c, l, r, rfl, q⟩ := hs
  obtain ⟨land, free, e0, e1, s0, s1, steps, whole⟩ := c
  refine ⟨⟨fit_land 64 land, by decide +kernel⟩, ?_⟩
  rw [eqv_land]
  cases land with
  | true => exact q
  | false => exact q

abbrev s_Foe____init__ : Stmt := inClass (topS 43) 0
theorem sc_Foe____init__ : FnScope ["self", "clause", "box", "plan"] ["self", "clause", "box", "plan"] (defScope s_Foe____init__) := ⟨rfl, rfl, rfl, by decide +kernel, rfl, by decide +kernel, by decide +kernel⟩
def foeL (a b c d : D) : List (Str × D) := [("by", a), ("start", b), ("plan", c), ("known", d)]
theorem foe_by {a b c d : D} : List.lookup ("by" : Str) (foeL a b c d) = some a := lk_hit
theorem foe_start {a b c d : D} : List.lookup ("start" : Str) (foeL a b c d) = some b := by unfold foeL; rw [lk_miss (by decide +kernel), lk_hit]
theorem foe_plan {a b c d : D} : List.lookup ("plan" : Str) (foeL a b c d) = some c := by unfold foeL; rw [lk_miss (by decide +kernel), lk_miss (by decide +kernel), lk_hit]
theorem foe_known {a b c d : D} : List.lookup ("known" : Str) (foeL a b c d) = some d := by unfold foeL; rw [lk_miss (by decide +kernel), lk_miss (by decide +kernel), lk_miss (by decide +kernel), lk_hit]
theorem foe_no {m : Str} {a b c d : D} (h : (m == ("by" : Str)) = false ∧ (m == ("start" : Str)) = false ∧ (m == ("plan" : Str)) = false ∧ (m == ("known" : Str)) = false) : List.lookup m (foeL a b c d) = none := (lk_miss h.1).trans ((lk_miss h.2.1).trans ((lk_miss h.2.2.1).trans (lk_miss h.2.2.2)))
theorem putD_ne {f g : Str} {d e : D} {r : List (Str × D)} (h : (g == f) = false) : putD f d ((g, e) :: r) = (g, e) :: putD f d r := by
  show (match g == f with | true => (f, d) :: r | false => (g, e) :: putD f d r) = _
  rw [h]
theorem foe_p2 {a b : D} : putD "start" b [(("by" : Str), a)] = [(("by" : Str), a), (("start" : Str), b)] := putD_ne (by decide +kernel)
theorem foe_p3 {a b c : D} : putD "plan" c [(("by" : Str), a), (("start" : Str), b)] = [(("by" : Str), a), (("start" : Str), b), (("plan" : Str), c)] := by rw [putD_ne (by decide +kernel), putD_ne (by decide +kernel)]; rfl
theorem foe_p4 {a b c d : D} : putD "known" d [(("by" : Str), a), (("start" : Str), b), (("plan" : Str), c)] = foeL a b c d := by rw [putD_ne (by decide +kernel), putD_ne (by decide +kernel), putD_ne (by decide +kernel)]; rfl
/-- the foe at p, its memo at kn -/
def FoeAt (C p kn : Addr) (c : Cl) (st pl : Int) (M : Mem) : Prop := ∃ dx, M p = some (.ins C dx (foeL c.d (.int st) (.int pl) (.ref kn)))
def sp_Foe____init__ (C : Addr) : DSpec := fun ds M Q _ => ∃ (p dx : Addr) (c : Cl) (l r pl : Int), ds = [.ref p, c.d, boxD l r, .int pl] ∧ M p = some (.ins C dx []) ∧ ∀ kn M', M kn = none → kn ≠ p → FoeAt C p kn c (c.start l r) pl M' → M' kn = some (.dN []) → (∀ a, a ≠ p → a ≠ kn → M' a = M a) → Q .non M'
theorem ok_Foe____init__ {C_Foe : Addr} (h_Foe : ClsAt K mg "Foe" C_Foe) (n_by : NoAttr K C_Foe "by") (n_known : NoAttr K C_Foe "known") (n_plan : NoAttr K C_Foe "plan") (n_start : NoAttr K C_Foe "start") (T : MHere K C_Foe "__init__" "Foe.__init__" ["self", "clause", "box", "plan"] s_Foe____init__) (c_start_of : DFn P w K mg base 2 "start_of" 2 sp_start_of) : MFn P w K mg base 3 C_Foe "__init__" 4 (sp_Foe____init__ C_Foe) := by
  refine MFn.here (k := 2) T sc_Foe____init__ (fun f cdv A outer s H E hX => (dss_cons (ds_fld h_Foe.cls n_by (dv 1) (dv 0))
      (dss_cons (ds_fld h_Foe.cls n_start (de_call hX c_start_of (da_cons (dv 1) (da_cons (dv 2) da_nil))) (dv 0))
      (dss_cons (ds_fld h_Foe.cls n_plan (dv 3) (dv 0))
      (dss_one (ds_fld h_Foe.cls n_known de_nnew (dv 0))))))) (fun ds M Q Ed hl hs => ?_)
  obtain ⟨p, dx, c, l, r, pl, rfl, hp, q⟩ := hs
  refine fld_set hp (by decide) ?_
  refine ⟨rfl, c, l, r, rfl, ?_⟩
  refine fld_set (dx := dx) (fs := [(("by" : Str), c.d)]) updM_same (Nat.le_of_ble_eq_true rfl) ?_
  rw [foe_p2, updM_updM]
  refine fld_set (dx := dx) (fs := [(("by" : Str), c.d), (("start" : Str), .int (c.start l r))]) updM_same (Nat.le_of_ble_eq_true rfl) ?_
  rw [foe_p3, updM_updM]
  refine fun kn hk => ?_
  have ne : kn ≠ p := fun e => by rw [e, updM_same] at hk; cases hk
  have hk0 : M kn = none := by rw [updM_ne ne] at hk; exact hk
  refine fld_set (dx := dx) (fs := [(("by" : Str), c.d), (("start" : Str), .int (c.start l r)), (("plan" : Str), .int pl)]) (by rw [updM_ne (Ne.symm ne)]; exact updM_same) (Nat.le_of_ble_eq_true rfl) ?_
  rw [foe_p4]
  refine q kn _ hk0 ne ⟨dx, updM_same⟩ ?_ fun a h1 h2 => ?_
  · rw [updM_ne ne]; exact updM_same
  · rw [updM_ne h1, updM_ne h2, updM_ne h1]

abbrev s_Foe__behind : Stmt := inClass (topS 43) 1
theorem sc_Foe__behind : FnScope ["self", "now", "day", "strike", "late"] ["self", "now", "day", "strike"] (defScope s_Foe__behind) := ⟨rfl, rfl, rfl, by decide +kernel, rfl, by decide +kernel, by decide +kernel⟩
def nowD (now : Int × Int) : D := .tup [.int now.1, .int now.2]
def sp_Foe__behind (C : Addr) : DSpec := fun ds M Q _ => ∃ (p kn : Addr) (c : Cl) (st pl : Int) (now : Int × Int) (day : Int) (s : Bool), ds = [.ref p, nowD now, .int day, .bl s] ∧ FoeAt C p kn c st pl M ∧ Q (nowD (behD c st now day s)) M
theorem ok_Foe__behind {C_Foe : Addr} (h_Foe : ClsAt K mg "Foe" C_Foe) (n_by : NoAttr K C_Foe "by") (n_start : NoAttr K C_Foe "start") (T : MHere K C_Foe "behind" "Foe.behind" ["self", "now", "day", "strike"] s_Foe__behind) (b_int : mg "int" = none) (c_is_counted : DFn P w K mg base 2 "is_counted" 4 sp_is_counted) (c_is_weekend : DFn P w K mg base 2 "is_weekend" 1 sp_is_weekend) : MFn P w K mg base 3 C_Foe "behind" 4 (sp_Foe__behind C_Foe) := by
  refine MFn.here (k := 2) T sc_Foe__behind (fun f cdv A outer s H E hX => (dss_cons (ds_set hX 4 (de_int b_int (da_cons (de_eq hX (de_ix (dv 1) dint) dint) da_nil)))
      (dss_cons (ds_if (DW.dt (dw_or (dt_le (dv 2) (de_fld h_Foe.cls n_start (dv 0))) (dw_or1 (dt_not (dt_val (de_call hX c_is_counted (da_cons (de_fld h_Foe.cls n_by (dv 0)) (da_cons (de_call hX c_is_weekend (da_cons (dv 2) da_nil)) (da_cons (dv 3) (da_cons (dv 4) da_nil)))))))))) (dss_one (ds_ret (dv 1))) dss_nil)
      (dss_one (ds_ret (de_if (dt_eq hX (dv 4) dint) (de_tup (da_cons (de_ix (dv 1) dint) (da_cons (de_add (de_ix (dv 1) dint) dint) da_nil))) (de_tup (da_cons (de_sub (de_ix (dv 1) dint) dint) (da_cons dint da_nil))))))))) (fun ds M Q Ed hl hs => ?_)
  obtain ⟨p, kn, c, st, pl, now, day, s, rfl, ⟨dx, hp⟩, q⟩ := hs
  obtain ⟨a, b⟩ := now
  refine ⟨⟨fit_int _ _, fit_int _ _⟩, ?_⟩
  rw [eqv_int]
  unfold behD at q
  have q : Q (nowD (match decide (day ≤ st) || !c.cnt (a == 0) (isWk day) s with | true => (a, b) | false => (match a == 0 with | true => (a, b + 1) | false => (a - 1, 0)))) M := q
  cases ha : a == 0 with
  | true =>
    rw [ha] at q
    refine fld_get hp foe_start ?_
    refine onT_i (b := decide (day ≤ st)) (fun hd => ?_) (fun hd => ?_)
    · rw [hd] at q
      exact q
    · rw [hd] at q
      refine fld_get hp foe_by ⟨rfl, day, rfl, rfl, c, isWk day, s, true, rfl, ?_⟩
      refine onT_i (b := !c.cnt true (isWk day) s) (fun hc => ?_) (fun hc => ?_)
      · rw [bt hc] at q; exact q
      · rw [bn hc] at q; exact ⟨⟨rfl, rfl⟩, sl, q⟩
  | false =>
    rw [ha] at q
    refine fld_get hp foe_start ?_
    refine onT_i (b := decide (day ≤ st)) (fun hd => ?_) (fun hd => ?_)
    · rw [hd] at q
      exact q
    · rw [hd] at q
      refine fld_get hp foe_by ⟨rfl, day, rfl, rfl, c, isWk day, s, false, rfl, ?_⟩
      refine onT_i (b := !c.cnt false (isWk day) s) (fun hc => ?_) (fun hc => ?_)
      · rw [bt hc] at q; exact q
      · rw [bn hc] at q; exact ⟨⟨rfl, rfl⟩, sl, q⟩

abbrev s_Foe__best : Stmt := inClass (topS 43) 2
theorem sc_Foe__best : FnScope ["self", "now", "day", "many", "key", "new", "found", "cost", "strikes"] ["self", "now", "day", "many"] (defScope s_Foe__best) := ⟨rfl, rfl, rfl, by decide +kernel, rfl, by decide +kernel, by decide +kernel⟩
abbrev Q4 := (Int × Int) × Int × Int
def keyD (q : Q4) : D := .tup [nowD q.1, .int q.2.1, .int q.2.2]
def keyN (q : Q4) : NestedKey := .tup [.tup [.num q.1.1, .num q.1.2], .num q.2.1, .num q.2.2]
theorem nk_key (q : Q4) : nk (keyD q) = some (keyN q) := rfl
theorem keyN_inj {q r : Q4} (h : keyN q = keyN r) : q = r := by
  obtain ⟨⟨a, b⟩, d, m⟩ := q
  obtain ⟨⟨a', b'⟩, d', m'⟩ := r
  unfold keyN at h
  simp only [NestedKey.tup.injEq, List.cons.injEq, NestedKey.num.injEq, and_true] at h
  obtain ⟨⟨h1, h2⟩, h3, h4⟩ := h
  subst h1 h2 h3 h4
  rfl
def resD (r : Int × List Int) : D := .tup [.int r.1, .tup (r.2.map D.int)]
def bestQ (c : Cl) (st pl : Int) (q : Q4) : Int × List Int := bestC c st pl q.1 q.2.1 q.2.2
def memo (c : Cl) (st pl : Int) (L : List Q4) : List (D × D) := L.map fun q => (keyD q, resD (bestQ c st pl q))
theorem dec_key (q r : Q4) : decide (nk (keyD r) = some (keyN q)) = decide (r = q) := by
  rw [nk_key]
  by_cases h : r = q
  · subst h; simp
  · rw [decide_eq_false h, decide_eq_false fun e => h (keyN_inj (Option.some.inj e))]
theorem memo_get {c : Cl} {st pl : Int} {q : Q4} : ∀ {L : List Q4}, (q ∈ L → dnGet (memo c st pl L) (keyN q) = some (resD (bestQ c st pl q))) ∧ (q ∉ L → dnGet (memo c st pl L) (keyN q) = none)
  | [] => ⟨fun h => by (cases h), fun _ => rfl⟩
  | r :: L => by
    obtain ⟨i1, i2⟩ := memo_get (c := c) (st := st) (pl := pl) (q := q) (L := L)
    unfold dnGet at i1 i2 ⊢
    show (_ → Option.map _ (List.find? _ ((keyD r, resD (bestQ c st pl r)) :: memo c st pl L)) = _) ∧ (_ → Option.map _ (List.find? _ ((keyD r, resD (bestQ c st pl r)) :: memo c st pl L)) = _)
    rw [List.find?_cons, dec_key]
    by_cases h : r = q
    · subst h
      rw [decide_eq_true rfl]
      exact ⟨fun _ => rfl, fun n => absurd List.mem_cons_self n⟩
    · rw [decide_eq_false h]
      exact ⟨fun m => i1 (by rcases List.mem_cons.mp m with e | m; exact absurd e.symm h; exact m), fun n => i2 fun m => n (List.mem_cons_of_mem _ m)⟩
theorem memo_put {c : Cl} {st pl : Int} {q : Q4} (L : List Q4) : ∃ L', dnPut (memo c st pl L) (keyD q) (keyN q) (resD (bestQ c st pl q)) = memo c st pl L' ∧ ((q ∈ L ∧ L' = L) ∨ (q ∉ L ∧ L' = L ++ [q])) := by
  unfold dnPut
  by_cases h : q ∈ L
  · refine ⟨L, ?_, .inl ⟨h, rfl⟩⟩
    rw [memo_get.1 h]
    show (memo c st pl L).map (fun p => match decide (nk p.1 = some (keyN q)) with | true => (p.1, resD (bestQ c st pl q)) | false => p) = _
    unfold memo
    rw [List.map_map]
    refine List.map_congr_left fun r _ => ?_
    show (match decide (nk (keyD r) = some (keyN q)) with | true => (keyD r, resD (bestQ c st pl q)) | false => (keyD r, resD (bestQ c st pl r))) = _
    rw [dec_key]
    by_cases e : r = q
    · subst e; rw [decide_eq_true rfl]
    · rw [decide_eq_false e]
  · refine ⟨L ++ [q], ?_, .inr ⟨h, rfl⟩⟩
    rw [memo_get.2 h]
    show memo c st pl L ++ [_] = _
    unfold memo
    rw [List.map_append]; rfl
/-- what may be asked, from the day lo on -/
structure InB (lo : Int) (q : Q4) : Prop where
  l : 0 ≤ q.1.1 ∧ q.1.1 ≤ 6
  g : 0 ≤ q.1.2 ∧ q.1.2 ≤ q.2.1 - lo
  d : lo ≤ q.2.1 ∧ q.2.1 ≤ lo + 66
  m : 0 ≤ q.2.2 ∧ q.2.2 ≤ 6
structure MOk (lo : Int) (L : List Q4) : Prop where
  nd : L.Nodup
  all : ∀ q ∈ L, InB lo q
def codeQ (lo : Int) (q : Q4) : Int := ((q.1.1 * 67 + q.1.2) * 67 + (q.2.1 - lo)) * 7 + q.2.2
theorem MOk.len {lo : Int} {L : List Q4} (h : MOk lo L) : L.length ≤ 220000 := by
  have nd : (L.map (codeQ lo)).Nodup := by
    unfold List.Nodup
    rw [List.pairwise_map]
    refine List.Pairwise.imp_of_mem (fun {a b} ha hb hne e => hne ?_) h.nd
    have h1 := h.all a ha
    have h2 := h.all b hb
    obtain ⟨⟨a1, a2⟩, a3, a4⟩ := a
    obtain ⟨⟨b1, b2⟩, b3, b4⟩ := b
    have x1 := h1.l; have x2 := h1.g; have x3 := h1.d; have x4 := h1.m
    have y1 := h2.l; have y2 := h2.g; have y3 := h2.d; have y4 := h2.m
    unfold codeQ at e
    dsimp only at *
    have e1 : a1 = b1 := by omega
    have e2 : a2 = b2 := by omega
    have e3 : a3 = b3 := by omega
    have e4 : a4 = b4 := by omega
    rw [e1, e2, e3, e4]
  have := nodup_len nd (is := daysL 0 220000) fun s hs => by
    obtain ⟨q, hq, rfl⟩ := List.mem_map.mp hs
    have h1 := h.all q hq
    obtain ⟨⟨a1, a2⟩, a3, a4⟩ := q
    have x1 := h1.l; have x2 := h1.g; have x3 := h1.d; have x4 := h1.m
    unfold codeQ
    dsimp only at *
    refine List.mem_map.mpr ⟨(((a1 * 67 + a2) * 67 + (a3 - lo)) * 7 + a4).toNat, List.mem_range.mpr (by omega), by omega⟩
  rwa [days_len, List.length_map] at this
theorem MOk.put {lo : Int} {L L' : List Q4} {q : Q4} (h : MOk lo L) (hq : InB lo q) (e : (q ∈ L ∧ L' = L) ∨ (q ∉ L ∧ L' = L ++ [q])) : MOk lo L' := by
  rcases e with ⟨_, rfl⟩ | ⟨n, rfl⟩
  · exact h
  · refine ⟨?_, fun x hx => ?_⟩
    · rw [List.nodup_append]
      refine ⟨h.nd, List.pairwise_singleton _ _, fun a ha b hb e => ?_⟩
      rw [List.mem_singleton.mp hb] at e
      rw [e] at ha; exact n ha
    · rcases List.mem_append.mp hx with hx | hx
      · exact h.all x hx
      · rw [List.mem_singleton.mp hx]; exact hq
theorem InB.next {c : Cl} {st lo : Int} {now : Int × Int} {day many many' : Int} {s : Bool} (h : InB lo (now, day, many)) (hd : day + 1 ≤ lo + 66) (hm : 0 ≤ many' ∧ many' ≤ many) : InB lo (behD c st now day s, day + 1, many') := by
  obtain ⟨a, b⟩ := now
  have x1 := h.l; have x2 := h.g; have x3 := h.d; have x4 := h.m
  dsimp only at x1 x2 x3 x4
  have key : 0 ≤ (behD c st (a, b) day s).1 ∧ (behD c st (a, b) day s).1 ≤ 6 ∧ 0 ≤ (behD c st (a, b) day s).2 ∧ (behD c st (a, b) day s).2 ≤ day + 1 - lo := by
    unfold behD
    cases decide (day ≤ st) || !c.cnt (a == 0) (isWk day) s with
    | true => exact ⟨x1.1, x1.2, x2.1, by show b ≤ _; omega⟩
    | false =>
      cases e : a == 0 with
      | true => exact ⟨x1.1, x1.2, by show 0 ≤ b + 1; omega, by show b + 1 ≤ _; omega⟩
      | false =>
        have : a ≠ 0 := fun z => by rw [z] at e; cases e
        exact ⟨by show 0 ≤ a - 1; omega, by show a - 1 ≤ 6; omega, Int.le_refl _, by show 0 ≤ _; omega⟩
  exact ⟨⟨key.1, key.2.1⟩, ⟨key.2.2.1, key.2.2.2⟩, ⟨by show lo ≤ day + 1; omega, hd⟩, ⟨hm.1, by show many' ≤ 6; omega⟩⟩
def spBest (C : Addr) (n : Nat) : DSpec := fun ds M Q _ => ∃ (p kn : Addr) (c : Cl) (st pl lo : Int) (now : Int × Int) (day many : Int) (L : List Q4), ds = [.ref p, nowD now, .int day, .int many] ∧ c.Ok ∧ FoeAt C p kn c st pl M ∧ kn ≠ p ∧ M kn = some (.dN (memo c st pl L)) ∧ MOk lo L ∧
  InB lo (now, day, many) ∧ meas pl day many ≤ n ∧ day - lo + meas pl day many ≤ 66 ∧ ∀ M' L', MOk lo L' → M' kn = some (.dN (memo c st pl L')) → (∀ a, a ≠ kn → M' a = M a) → Q (resD (bestC c st pl now day many)) M'
def spPrev (C : Addr) : Nat → DSpec
  | 0 => fun _ _ _ _ => False
  | n + 1 => spBest C n
theorem FoeAt.keep {C p kn : Addr} {c : Cl} {st pl : Int} {M M' : Mem} (h : FoeAt C p kn c st pl M) (ne : kn ≠ p) (k : ∀ a, a ≠ kn → M' a = M a) : FoeAt C p kn c st pl M' := by
  obtain ⟨dx, hp⟩ := h
  exact ⟨dx, by rw [k p (Ne.symm ne)]; exact hp⟩
theorem prev_i {C : Addr} {n : Nat} {p kn : Addr} {c : Cl} {st pl lo : Int} {now : Int × Int} {day many : Int} {L : List Q4} {M : Mem} {Q : DK} {Ed : Value → Mem → Prop} (hc : c.Ok) (hF : FoeAt C p kn c st pl M) (ne : kn ≠ p) (hk : M kn = some (.dN (memo c st pl L))) (hL : MOk lo L)
    (hb : InB lo (now, day, many)) (hn : meas pl day many + 1 ≤ n) (hm : day - lo + meas pl day many ≤ 66) (q : ∀ M' L', MOk lo L' → M' kn = some (.dN (memo c st pl L')) → (∀ a, a ≠ kn → M' a = M a) → Q (resD (bestC c st pl now day many)) M') :
    spPrev C n [.ref p, nowD now, .int day, .int many] M Q Ed := by
  cases n with
  | zero => exact absurd hn (by omega)
  | succ n => exact ⟨p, kn, c, st, pl, lo, now, day, many, L, rfl, hc, hF, ne, hk, hL, hb, by omega, hm, q⟩
def sp_Foe__best (C : Addr) : DSpec := spBest C 66
theorem step_Foe__best {C_Foe : Addr} {j n : Nat} (hj : j ≤ 5 + n) (h_Foe : ClsAt K mg "Foe" C_Foe) (n_by : NoAttr K C_Foe "by") (n_known : NoAttr K C_Foe "known") (n_plan : NoAttr K C_Foe "plan") (T : MHere K C_Foe "best" "Foe.best" ["self", "now", "day", "many"] s_Foe__best) (c_amount : DFn P w K mg base 3 "amount" 2 sp_amount) (cm_Foe__behind : MFn P w K mg base 3 C_Foe "behind" 4 (sp_Foe__behind C_Foe)) (cm_Foe__best : MFn P w K mg base j C_Foe "best" 4 (spPrev C_Foe n)) : MFn P w K mg base (5 + n + 1) C_Foe "best" 4 (spBest C_Foe n) := by
  have l3 : 3 ≤ 5 + n := by omega
  refine MFn.here (k := 5 + n) T sc_Foe__best (fun f cdv A outer s H E hX => (dss_cons (ds_set hX 4 (de_tup (da_cons (dv 1) (da_cons (dv 2) (da_cons (dv 3) da_nil)))))
      (dss_cons (ds_if (dt_notInN hX (dv 4) (de_fld h_Foe.cls n_known (dv 0))) (dss_cons (ds_set hX 5 (de_meth hX h_Foe.cls cm_Foe__behind (dv 0) (da_cons (dv 1) (da_cons (dv 2) (da_cons dbl da_nil))) (hj := l3)))
      (dss_cons (ds_set hX 6 (de_if (dt_ge (dv 2) (de_fld h_Foe.cls n_plan (dv 0))) (de_tup (da_cons (de_call hX c_amount (da_cons (de_fld h_Foe.cls n_by (dv 0)) (da_cons (de_ix (dv 5) dint) da_nil)) (hj := l3)) (da_cons (de_tup da_nil) da_nil))) (de_meth hX h_Foe.cls cm_Foe__best (dv 0) (da_cons (dv 5) (da_cons (de_add (dv 2) dint) (da_cons (dv 3) da_nil))) (hj := hj))))
      (dss_cons (ds_if (dt_gt (dv 3) dint) (dss_cons (ds_asg (de_meth hX h_Foe.cls cm_Foe__best (dv 0) (da_cons (de_meth hX h_Foe.cls cm_Foe__behind (dv 0) (da_cons (dv 1) (da_cons (dv 2) (da_cons dbl da_nil))) (hj := l3)) (da_cons (de_add (dv 2) dint) (da_cons (de_sub (dv 3) dint) da_nil))) (hj := hj)) (dg_tup hX (dgs_cons (dg_nm hX 7) (dgs_cons (dg_nm hX 8) dgs_nil))))
      (dss_one (ds_set hX 6 (de_if (dt_gt (dv 7) (de_ix (dv 6) dint)) (de_tup (da_cons (dv 7) (da_cons (de_add (de_tup (da_cons (dv 2) da_nil)) (dv 8)) da_nil))) (dv 6))))) dss_nil)
      (dss_one (ds_nput hX (dv 6) (de_fld h_Foe.cls n_known (dv 0)) (dv 4)))))) dss_nil)
      (dss_one (ds_ret (de_nget hX (de_fld h_Foe.cls n_known (dv 0)) (dv 4))))))) (fun ds M Q Ed hl hs => ?_)
  obtain ⟨p, kn, c, st, pl, lo, now, day, many, L, rfl, hc, hF, ne, hk, hL, hb, hn, hm, q⟩ := hs
  obtain ⟨dx, hp⟩ := id hF
  have big : sizeLine = 16777216 := rfl
  refine ⟨sl, ?_⟩
  refine fld_get hp foe_known ?_
  refine onO_i (a := memo c st pl L) (by rw [hk]; rfl) ?_
  refine onO_i (nk_key (now, day, many)) ⟨Nat.le_of_ble_eq_true rfl, trivial, ?_⟩
  have get : ∀ L', MOk lo L' → ((now, day, many) : Q4) ∈ L' → dnGet (memo c st pl L') (keyN (now, day, many)) = some (resD (bestC c st pl now day many)) := fun L' _ h => memo_get.1 h
  refine onT_i (b := true != (dnGet (memo c st pl L) (keyN (now, day, many))).isSome) (fun h => ?_) (fun h => ?_)
  rotate_left
  · have hin : ((now, day, many) : Q4) ∈ L := Classical.byContradiction fun z => by rw [memo_get.2 z] at h; cases h
    refine fld_get hp foe_known ?_
    refine onO_i (a := memo c st pl L) (by rw [hk]; rfl) ?_
    refine onO_i (nk_key (now, day, many)) ⟨Nat.le_of_ble_eq_true rfl, trivial, ?_⟩
    exact onO_i (get L hL hin) (q M L hL hk fun _ _ => rfl)
  · have hin : ((now, day, many) : Q4) ∉ L := fun z => by rw [memo_get.1 z] at h; cases h
    clear h
    have m0 := hb.m
    dsimp only at m0
    have eq := bestC_rest c st pl now day many m0.1
    refine meth_i hp (foe_no ⟨by decide +kernel, by decide +kernel, by decide +kernel, by decide +kernel⟩) ⟨rfl, p, kn, c, st, pl, now, day, false, rfl, hF, ?_⟩
    refine fld_get hp foe_plan ?_
    obtain ⟨f0, ef⟩ : ∃ f0, f0 = restF c st pl now day many := ⟨_, rfl⟩
    rw [← ef] at eq
    refine onT_K (fun d M1 => ∃ L1, d = resD f0 ∧ MOk lo L1 ∧ M1 kn = some (.dN (memo c st pl L1)) ∧ ∀ a, a ≠ kn → M1 a = M a) (fun d M1 ⟨L1, ed, hL1, hk1, k1⟩ => ?_) (fun Q' hQ => onT_i (fun h => ?_) (fun h => ?_))
    · subst ed
      have hF1 := hF.keep ne k1
      obtain ⟨dx1, hp1⟩ := id hF1
      refine onT_S (fun δ' M2 => (∃ x y, δ' = ⟨[some (.ref p), some (nowD now), some (.int day), some (.int many), some (keyD (now, day, many)), some (nowD (behD c st now day false)), some (resD (bestC c st pl now day many)), x, y], Ed⟩) ∧ ∃ L2, MOk lo L2 ∧ M2 kn = some (.dN (memo c st pl L2)) ∧ ∀ a, a ≠ kn → M2 a = M a) (fun δ' M2 ⟨⟨x, y, e1⟩, L2, hL2, hk2, k2⟩ => ?_) (fun nx hnx => onT_i (fun h => ?_) (fun h => ?_))
      · subst e1
        have hF2 := hF.keep ne k2
        obtain ⟨dx2, hp2⟩ := id hF2
        refine fld_get hp2 foe_known ?_
        refine onO_i (a := memo c st pl L2) (by rw [hk2]; rfl) ?_
        refine onO_i (nk_key (now, day, many)) ⟨Nat.le_of_ble_eq_true rfl, trivial, ?_⟩
        obtain ⟨L3, e3, h3⟩ := memo_put (c := c) (st := st) (pl := pl) (q := (now, day, many)) L2
        have hL3 := hL2.put hb h3
        have in3 : ((now, day, many) : Q4) ∈ L3 := by rcases h3 with ⟨h, rfl⟩ | ⟨_, rfl⟩; exact h; exact List.mem_append_right _ List.mem_cons_self
        refine ⟨by unfold memo; rw [List.length_map]; have := hL2.len; omega, ?_⟩
        have e3 : dnPut (memo c st pl L2) (keyD (now, day, many)) (keyN (now, day, many)) (resD (bestC c st pl now day many)) = memo c st pl L3 := e3
        rw [e3]
        have k3 : ∀ a, a ≠ kn → updM M2 kn (.dN (memo c st pl L3)) a = M a := fun a h => by rw [updM_ne h]; exact k2 a h
        obtain ⟨dx3, hp3⟩ := id (hF.keep ne k3)
        refine fld_get hp3 foe_known ?_
        refine onO_i (a := memo c st pl L3) (by rw [updM_same]; rfl) ?_
        refine onO_i (nk_key (now, day, many)) ⟨Nat.le_of_ble_eq_true rfl, trivial, ?_⟩
        exact onO_i (get L3 hL3 in3) (q _ L3 hL3 updM_same k3)
      · have hm0 : 0 < many := of_decide_eq_true h
        have mm := meas_m (pl := pl) (day := day) hm0
        have hd := hb.d
        dsimp only at hd
        refine meth_i hp1 (foe_no ⟨by decide +kernel, by decide +kernel, by decide +kernel, by decide +kernel⟩) ?_
        refine meth_i hp1 (foe_no ⟨by decide +kernel, by decide +kernel, by decide +kernel, by decide +kernel⟩) ⟨rfl, p, kn, c, st, pl, now, day, true, rfl, hF1, ?_⟩
        refine ⟨rfl, prev_i hc hF1 ne hk1 hL1 (hb.next (by omega) ⟨by omega, by omega⟩) (by omega) (by omega) fun M2 L2 hL2 hk2 k2 => ?_⟩
        have k2' : ∀ a, a ≠ kn → M2 a = M a := fun a h => (k2 a h).trans (k1 a h)
        rw [decide_eq_true hm0] at eq
        unfold pick at eq
        refine onT_i (b := decide (f0.1 < (bestC c st pl (behD c st now day true) (day + 1) (many - 1)).1)) (fun h2 => ?_) (fun h2 => ?_)
        · rw [h2] at eq
          refine ⟨sl, by rw [List.length_map]; have := (best_at c st pl (meas pl (day + 1) (many - 1)) (behD c st now day true) (day + 1) (many - 1) (by omega) (Nat.le_refl _)).2.2.1; show 1 + (bestN c st pl (meas pl (day + 1) (many - 1)) (behD c st now day true) (day + 1) (many - 1)).2.length ≤ sizeLine; omega, sl, ?_⟩
          refine hnx _ _ ⟨⟨some (.int (bestC c st pl (behD c st now day true) (day + 1) (many - 1)).1), some (.tup ((bestC c st pl (behD c st now day true) (day + 1) (many - 1)).2.map D.int)), ?_⟩, L2, hL2, hk2, k2'⟩
          rw [eq]; rfl
        · rw [h2] at eq
          refine hnx _ _ ⟨⟨some (.int (bestC c st pl (behD c st now day true) (day + 1) (many - 1)).1), some (.tup ((bestC c st pl (behD c st now day true) (day + 1) (many - 1)).2.map D.int)), ?_⟩, L2, hL2, hk2, k2'⟩
          rw [eq]; rfl
      · rw [h] at eq
        have eq : bestC c st pl now day many = f0 := eq
        refine hnx _ _ ⟨⟨none, none, ?_⟩, L1, hL1, hk1, k1⟩
        rw [eq]; rfl
    · have h : decide (pl ≤ day) = true := h
      rw [restF_t h] at ef
      refine fld_get hp foe_by ⟨rfl, c, (behD c st now day false).2, rfl, hc, sl, sl, ?_⟩
      exact hQ _ _ ⟨L, by rw [ef]; rfl, hL, hk, fun _ _ => rfl⟩
    · have h : decide (pl ≤ day) = false := h
      have hlt : day < pl := by have := of_decide_eq_false h; omega
      rw [restF_f h] at ef
      have md := meas_d (many := many) hlt
      have hd := hb.d
      dsimp only at hd
      refine meth_i hp (foe_no ⟨by decide +kernel, by decide +kernel, by decide +kernel, by decide +kernel⟩) ⟨rfl, ?_⟩
      refine prev_i hc hF ne hk hL (hb.next (by omega) ⟨by omega, by omega⟩) (by omega) (by omega) fun M2 L2 hL2 hk2 k2 => ?_
      exact hQ _ _ ⟨L2, by rw [ef], hL2, hk2, k2⟩
theorem ok_Foe__best {C_Foe : Addr} (h_Foe : ClsAt K mg "Foe" C_Foe) (n_by : NoAttr K C_Foe "by") (n_known : NoAttr K C_Foe "known") (n_plan : NoAttr K C_Foe "plan") (T : MHere K C_Foe "best" "Foe.best" ["self", "now", "day", "many"] s_Foe__best) (c_amount : DFn P w K mg base 3 "amount" 2 sp_amount) (cm_Foe__behind : MFn P w K mg base 3 C_Foe "behind" 4 (sp_Foe__behind C_Foe)) : MFn P w K mg base 72 C_Foe "best" 4 (sp_Foe__best C_Foe) := by
  have all : ∀ n, MFn P w K mg base (5 + n + 1) C_Foe "best" 4 (spBest C_Foe n) := fun n => by
    induction n with
    | zero => exact step_Foe__best (j := 1) (n := 0) (by decide) h_Foe n_by n_known n_plan T c_amount cm_Foe__behind (MFn.void T)
    | succ n ih => exact step_Foe__best (j := 5 + n + 1) (n := n + 1) (by omega) h_Foe n_by n_known n_plan T c_amount cm_Foe__behind ih
  exact all 66


abbrev s_worst_of : Stmt := topS 44
theorem sc_worst_of : FnScope ["clause", "box", "plan", "many"] ["clause", "box", "plan", "many"] (defScope s_worst_of) := ⟨rfl, rfl, rfl, by decide +kernel, rfl, by decide +kernel, by decide +kernel⟩
structure FoeIn0 (c : Cl) (l r pl many : Int) : Prop where
  c : c.Ok
  b : l ≤ r
  w : r ≤ l + 20
  p : r ≤ pl ∧ pl ≤ r + 40
  m : 0 ≤ many ∧ many ≤ 6
def sp_worst_of : DSpec := fun ds M Q _ => ∃ (c : Cl) (l r pl many : Int), ds = [c.d, boxD l r, .int pl, .int many] ∧ FoeIn0 c l r pl many ∧ ∀ M', MExt M M' → Q (resD (worstC c l r pl many)) M'
theorem ok_worst_of (T : Here K mg "worst_of" ["clause", "box", "plan", "many"] s_worst_of) {C_Foe : Addr} (h_Foe : ClsAt K mg "Foe" C_Foe) (cm_Foe____init__ : MFn P w K mg base 3 C_Foe "__init__" 4 (sp_Foe____init__ C_Foe)) (cm_Foe__best : MFn P w K mg base 72 C_Foe "best" 4 (sp_Foe__best C_Foe)) : DFn P w K mg base 73 "worst_of" 4 sp_worst_of := by
  refine DFn.here (k := 72) T sc_worst_of (fun f cdv A outer s H E hX => (dss_cons (ds_if (dt_eq hX (dv 2) (de_ix (dv 1) dint)) (dss_one (ds_ret (de_tup (da_cons dint (da_cons (de_tup da_nil) da_nil))))) dss_nil)
      (dss_one (ds_ret (de_meth hX h_Foe.cls cm_Foe__best (de_make hX h_Foe cm_Foe____init__ (da_cons (dv 0) (da_cons (dv 1) (da_cons (dv 2) da_nil)))) (da_cons (de_tup (da_cons (de_ix (dv 0) dint) (da_cons dint da_nil))) (da_cons (de_add (de_ix (dv 1) dint) dint) (da_cons (dv 3) da_nil)))))))) (fun ds M Q Ed hl hs => ?_)
  obtain ⟨c, l, r, pl, many, rfl, h, q⟩ := hs
  refine ⟨⟨fit_int _ _, fit_int _ _⟩, ?_⟩
  rw [eqv_int]
  unfold worstC at q
  refine onT_i (b := pl == l) (fun e => ?_) (fun e => ?_)
  · have e := eq_of_beq e
    rw [decide_eq_true e] at q
    exact ⟨sl, sl, q M fun _ _ h => h⟩
  · have e : ¬ pl = l := fun z => by rw [z, beq_self_eq_true] at e; cases e
    rw [decide_eq_false e] at q
    have hw := h.w; have hp := h.p; have hm := h.m; have hlr := h.b
    refine fun p dx hp0 => ⟨rfl, p, dx, c, l, r, pl, rfl, updM_same, fun kn M' hk ne hF hn k => ⟨rfl, ?_⟩⟩
    obtain ⟨dx', hp'⟩ := id hF
    refine meth_i hp' (foe_no ⟨by decide +kernel, by decide +kernel, by decide +kernel, by decide +kernel⟩) ⟨sl, rfl, ?_⟩
    have hk0 : M kn = none := by rw [updM_ne ne] at hk; exact hk
    have me : meas pl (l + 1) many ≤ 66 := by unfold meas; omega
    refine ⟨p, kn, c, c.start l r, pl, l + 1, (c.free, 0), l + 1, many, [], rfl, h.c, hF, ne, hn, ⟨List.Pairwise.nil, fun _ h => (by cases h)⟩, ⟨h.c.free, ⟨Int.le_refl _, by show (0 : Int) ≤ l + 1 - (l + 1); omega⟩, ⟨Int.le_refl _, by show l + 1 ≤ l + 1 + 66; omega⟩, hm⟩, me, by omega, fun M2 L2 hL2 hk2 k2 => q M2 fun a o ha => ?_⟩
    have a1 : a ≠ p := fun z => by rw [z, hp0] at ha; cases ha
    have a2 : a ≠ kn := fun z => by rw [z, hk0] at ha; cases ha
    rw [k2 a a2, k a a1 a2, updM_ne a1]
    exact ha

abbrev s_need_all : Stmt := topS 45
theorem sc_need_all : FnScope ["clause", "box", "plan", "many"] ["clause", "box", "plan", "many"] (defScope s_need_all) := ⟨rfl, rfl, rfl, by decide +kernel, rfl, by decide +kernel, by decide +kernel⟩
def boxLf : D → Int
  | .tup [.int l, _] => l
  | _ => 0
/-- what is refused, in the program's order -/
def foeE (vc vb vp vm : D) : Option Str := match isClauseD vc with
  | false => some "InvalidClause"
  | true => match isBoxD vb with
    | false => some "InvalidBox"
    | true => match isWholeD vp (boxR vb) (boxR vb + 40) with
      | false => some "InvalidDay"
      | true => match isWholeD vm 0 6 with
        | false => some "InvalidNumber"
        | true => match isWholeD (.int (boxR vb)) (boxLf vb) (boxLf vb + 20) with
          | false => some "InvalidDay"
          | true => none
theorem foeE_c {vc vb vp vm : D} (h : isClauseD vc = false) : foeE vc vb vp vm = some ("InvalidClause" : Str) := by unfold foeE; rw [h]
theorem foeE_b {vc vb vp vm : D} (h : isClauseD vc = true) (h2 : isBoxD vb = false) : foeE vc vb vp vm = some ("InvalidBox" : Str) := by unfold foeE; rw [h, h2]
theorem foeE_p {vc vb vp vm : D} (h : isClauseD vc = true) (h2 : isBoxD vb = true) (h3 : isWholeD vp (boxR vb) (boxR vb + 40) = false) : foeE vc vb vp vm = some ("InvalidDay" : Str) := by unfold foeE; rw [h, h2, h3]
theorem foeE_m {vc vb vp vm : D} (h : isClauseD vc = true) (h2 : isBoxD vb = true) (h3 : isWholeD vp (boxR vb) (boxR vb + 40) = true) (h4 : isWholeD vm 0 6 = false) : foeE vc vb vp vm = some ("InvalidNumber" : Str) := by unfold foeE; rw [h, h2, h3, h4]
theorem foeE_w {vc vb vp vm : D} (h : isClauseD vc = true) (h2 : isBoxD vb = true) (h3 : isWholeD vp (boxR vb) (boxR vb + 40) = true) (h4 : isWholeD vm 0 6 = true) (h5 : isWholeD (.int (boxR vb)) (boxLf vb) (boxLf vb + 20) = false) : foeE vc vb vp vm = some ("InvalidDay" : Str) := by unfold foeE; rw [h, h2, h3, h4, h5]
structure FoeIn (c : Cl) (l r pl many : Int) : Prop where
  c : c.Ok
  b : Box l r
  w : r ≤ l + 20
  p : r ≤ pl ∧ pl ≤ r + 40
  m : 0 ≤ many ∧ many ≤ 6
theorem FoeIn.no {c : Cl} {l r pl many : Int} (h : FoeIn c l r pl many) : foeE c.d (boxD l r) (.int pl) (.int many) = none := by
  unfold foeE
  rw [isClauseD_ok h.c, h.b.ok]
  show (match isWholeD (.int pl) r (r + 40) with | false => some "InvalidDay" | true => match isWholeD (.int many) 0 6 with | false => some "InvalidNumber" | true => match isWholeD (.int r) l (l + 20) with | false => some "InvalidDay" | true => none) = (none : Option Str)
  rw [isWhole_ok h.p, isWhole_ok h.m, isWhole_ok ⟨h.b.le, h.w⟩]
def sp_need_all (ex : Str → Value) : DSpec := fun ds M Q Ed => ∃ vc vb vp vm, ds = [vc, vb, vp, vm] ∧ (D.fit 64 vc = true ∧ D.fit 64 vb = true ∧ D.fit 64 vp = true ∧ D.fit 64 vm = true) ∧ (match foeE vc vb vp vm with | some e => Ed (ex e) M | none => Q .non M)
theorem ok_need_all (T : Here K mg "need_all" ["clause", "box", "plan", "many"] s_need_all) (g_LONGEST_PLAN : IntAt mg "LONGEST_PLAN" 40) (g_LONGEST_WAIT : IntAt mg "LONGEST_WAIT" 20) (g_MOST_FOE : IntAt mg "MOST_FOE" 6) (c_need_clause : DFn P w K mg base 6 "need_clause" 1 (sp_need_clause ex)) (c_need_box : DFn P w K mg base 4 "need_box" 1 (sp_need_box ex)) (c_need_day : DFn P w K mg base 3 "need_day" 3 (sp_need_day ex)) (c_need_number : DFn P w K mg base 3 "need_number" 3 (sp_need_number ex)) : DFn P w K mg base 7 "need_all" 4 (sp_need_all ex) := by
  refine DFn.here (k := 6) T sc_need_all (fun f cdv A outer s H E hX => (dss_cons (ds_expr (de_call hX c_need_clause (da_cons (dv 0) da_nil)))
      (dss_cons (ds_expr (de_call hX c_need_box (da_cons (dv 1) da_nil)))
      (dss_cons (ds_expr (de_call hX c_need_day (da_cons (dv 2) (da_cons (de_ix (dv 1) dint) (da_cons (de_add (de_ix (dv 1) dint) (dgi g_LONGEST_PLAN)) da_nil)))))
      (dss_cons (ds_expr (de_call hX c_need_number (da_cons (dv 3) (da_cons dint (da_cons (dgi g_MOST_FOE) da_nil)))))
      (dss_one (ds_expr (de_call hX c_need_day (da_cons (de_ix (dv 1) dint) (da_cons (de_ix (dv 1) dint) (da_cons (de_add (de_ix (dv 1) dint) (dgi g_LONGEST_WAIT)) da_nil))))))))))) (fun ds M Q Ed hl hs => ?_)
  obtain ⟨vc, vb, vf, vm, rfl, ⟨f1, f2, f3, f4⟩, q⟩ := hs
  unfold foeE at q
  refine ⟨rfl, vc, rfl, f1, ?_⟩
  cases h1 : isClauseD vc with
  | false => rw [h1] at q; exact q
  | true =>
    rw [h1] at q
    refine ⟨rfl, vb, rfl, f2, ?_⟩
    cases h2 : isBoxD vb with
    | false => rw [h2] at q; exact q
    | true =>
      rw [h2] at q
      have hb : ∃ l r, vb = boxD l r := by
        cases vb with
        | tup es =>
          have hl : es.length = 2 := by
            cases Nat.decEq es.length 2 with
            | isTrue h => exact h
            | isFalse h => rw [isBoxD_len h] at h2; cases h2
          match es, hl, h2 with
          | [a, b], _, h2 => cases a <;> cases b <;> first | exact ⟨_, _, rfl⟩ | cases h2
        | _ => cases h2
      obtain ⟨l, r, rfl⟩ := hb
      refine ⟨rfl, vf, r, r + 40, rfl, f3, ?_⟩
      have q : (match (match isWholeD vf r (r + 40) with | false => some "InvalidDay" | true => match isWholeD vm 0 6 with | false => some "InvalidNumber" | true => match isWholeD (.int r) l (l + 20) with | false => some "InvalidDay" | true => none : Option Str) with | some e => Ed (ex e) M | none => Q .non M) := q
      cases h3 : isWholeD vf r (r + 40) with
      | false => rw [h3] at q; exact q
      | true =>
        rw [h3] at q
        refine ⟨rfl, vm, 0, 6, rfl, f4, ?_⟩
        cases h4 : isWholeD vm 0 6 with
        | false => rw [h4] at q; exact q
        | true =>
          rw [h4] at q
          refine ⟨rfl, .int r, l, l + 20, rfl, rfl, ?_⟩
          cases h5 : isWholeD (.int r) l (l + 20) with
          | false => rw [h5] at q; exact q
          | true => rw [h5] at q; exact q

abbrev s_worst : Stmt := topS 46
theorem sc_worst : FnScope ["clause", "box", "plan", "many"] ["clause", "box", "plan", "many"] (defScope s_worst) := ⟨rfl, rfl, rfl, by decide +kernel, rfl, by decide +kernel, by decide +kernel⟩
def sp_worst (ex : Str → Value) : DSpec := fun ds M Q Ed => (∃ (c : Cl) (l r pl many : Int), ds = [c.d, boxD l r, .int pl, .int many] ∧ FoeIn c l r pl many ∧ ∀ M', MExt M M' → Q (.int (worstC c l r pl many).1) M') ∨
  ∃ vc vb vp vm e, ds = [vc, vb, vp, vm] ∧ (D.fit 64 vc = true ∧ D.fit 64 vb = true ∧ D.fit 64 vp = true ∧ D.fit 64 vm = true) ∧ foeE vc vb vp vm = some e ∧ Ed (ex e) M
theorem ok_worst (T : Here K mg "worst" ["clause", "box", "plan", "many"] s_worst) (c_worst_of : DFn P w K mg base 73 "worst_of" 4 sp_worst_of) (c_need_all : DFn P w K mg base 7 "need_all" 4 (sp_need_all ex)) : DFn P w K mg base 74 "worst" 4 (sp_worst ex) := by
  refine DFn.here (k := 73) T sc_worst (fun f cdv A outer s H E hX => (dss_cons (ds_expr (de_call hX c_need_all (da_cons (dv 0) (da_cons (dv 1) (da_cons (dv 2) (da_cons (dv 3) da_nil))))))
      (dss_one (ds_ret (de_ix (de_call hX c_worst_of (da_cons (dv 0) (da_cons (dv 1) (da_cons (dv 2) (da_cons (dv 3) da_nil))))) dint))))) (fun ds M Q Ed hl hs => ?_)
  rcases hs with ⟨c, l, r, pl, many, rfl, hv, q⟩ | ⟨vc, vb, vp, vm, e, rfl, hf, he, q⟩
  · refine ⟨rfl, _, _, _, _, rfl, ⟨fit_cl hv.c, fit_box l r, fit_int _ _, fit_int _ _⟩, ?_⟩
    rw [hv.no]
    exact ⟨rfl, c, l, r, pl, many, rfl, ⟨hv.c, hv.b.le, hv.w, hv.p, hv.m⟩, fun M' h => q M' h⟩
  · refine ⟨rfl, vc, vb, vp, vm, rfl, hf, ?_⟩
    rw [he]
    exact q

abbrev s_foe_days : Stmt := topS 47
theorem sc_foe_days : FnScope ["clause", "box", "plan", "many"] ["clause", "box", "plan", "many"] (defScope s_foe_days) := ⟨rfl, rfl, rfl, by decide +kernel, rfl, by decide +kernel, by decide +kernel⟩
def sp_foe_days (ex : Str → Value) : DSpec := fun ds M Q Ed => (∃ (c : Cl) (l r pl many : Int), ds = [c.d, boxD l r, .int pl, .int many] ∧ FoeIn c l r pl many ∧ ∀ M', MExt M M' → Q (.tup ((worstC c l r pl many).2.map D.int)) M') ∨
  ∃ vc vb vp vm e, ds = [vc, vb, vp, vm] ∧ (D.fit 64 vc = true ∧ D.fit 64 vb = true ∧ D.fit 64 vp = true ∧ D.fit 64 vm = true) ∧ foeE vc vb vp vm = some e ∧ Ed (ex e) M
theorem ok_foe_days (T : Here K mg "foe_days" ["clause", "box", "plan", "many"] s_foe_days) (c_worst_of : DFn P w K mg base 73 "worst_of" 4 sp_worst_of) (c_need_all : DFn P w K mg base 7 "need_all" 4 (sp_need_all ex)) : DFn P w K mg base 74 "foe_days" 4 (sp_foe_days ex) := by
  refine DFn.here (k := 73) T sc_foe_days (fun f cdv A outer s H E hX => (dss_cons (ds_expr (de_call hX c_need_all (da_cons (dv 0) (da_cons (dv 1) (da_cons (dv 2) (da_cons (dv 3) da_nil))))))
      (dss_one (ds_ret (de_ix (de_call hX c_worst_of (da_cons (dv 0) (da_cons (dv 1) (da_cons (dv 2) (da_cons (dv 3) da_nil))))) dint))))) (fun ds M Q Ed hl hs => ?_)
  rcases hs with ⟨c, l, r, pl, many, rfl, hv, q⟩ | ⟨vc, vb, vp, vm, e, rfl, hf, he, q⟩
  · refine ⟨rfl, _, _, _, _, rfl, ⟨fit_cl hv.c, fit_box l r, fit_int _ _, fit_int _ _⟩, ?_⟩
    rw [hv.no]
    exact ⟨rfl, c, l, r, pl, many, rfl, ⟨hv.c, hv.b.le, hv.w, hv.p, hv.m⟩, fun M' h => q M' h⟩
  · refine ⟨rfl, vc, vb, vp, vm, rfl, hf, ?_⟩
    rw [he]
    exact q

abbrev s__law_vat : Stmt := topS 49
theorem sc__law_vat : FnScope ["script", "k", "cell"] ["script", "k"] (defScope s__law_vat) := ⟨rfl, rfl, rfl, by decide +kernel, rfl, by decide +kernel, by decide +kernel⟩
def sp__law_vat : DSpec := fun ds M Q _ => ∃ (ns : List Int) (k : Int), ds = [.fro (ns.map D.int), .int k] ∧ 0 ≤ k ∧ ∀ p a b, M p = none → Q (.ref p) (updM M p (vatO a b))
theorem ok__law_vat (T : Here K mg "_law_vat" ["script", "k"] s__law_vat) (b_abs : mg "abs" = none) (b_int : mg "int" = none) (b_len : mg "len" = none) : DFn P w K mg base 2 "_law_vat" 2 sp__law_vat := by
  refine DFn.here (k := 1) T sc__law_vat (fun f cdv A outer s H E hX => (dss_cons (ds_set hX 2 (de_add (de_mul dint (dv 1)) dint))
      (dss_cons (ds_if (dt_lt (dv 1) (de_len b_len (da_cons (dv 0) da_nil))) (dss_one (ds_set hX 2 (de_abs b_abs (da_cons (de_int b_int (da_cons (de_ix (dv 0) (dv 1)) da_nil)) da_nil)))) dss_nil)
      (dss_one (ds_ret (de_lstM (da_cons (de_if (dt_ge (dv 2) (de_pow dint dint)) (dv 2) dint) (da_cons (de_add (de_mod (de_int b_int (da_cons (de_add (de_add (de_mul (dv 2) dint) (de_mul dint (dv 1))) dint) da_nil)) dint) dint) da_nil)))))))) (fun ds M Q Ed hl hs => ?_)
  obtain ⟨ns, k, rfl, hk, q⟩ := hs
  refine ⟨cmulL, onT_i (fun h => ?_) (fun h => ?_)⟩
  · obtain ⟨j, rfl⟩ := Int.eq_ofNat_of_zero_le hk
    have h : (j : Int) < ((ns.map D.int).length : Int) := of_decide_eq_true h
    have hj : j < ns.length := by simpa using h
    refine onO_i (atI_nat (by rw [List.getElem?_map, List.getElem?_eq_getElem hj]; rfl)) ?_
    refine ⟨⟨by decide, by decide, by decide⟩, onT_i (fun h2 => ?_) (fun h2 => ?_)⟩
    all_goals exact ⟨cmulR, cmulL, cmod, sl, fun p hp => q p _ _ hp⟩
  · refine ⟨⟨by decide, by decide, by decide⟩, onT_i (fun h2 => ?_) (fun h2 => ?_)⟩
    all_goals exact ⟨cmulR, cmulL, cmod, sl, fun p hp => q p _ _ hp⟩

abbrev s__law_under : Stmt := topS 50
theorem sc__law_under : FnScope ["vat", "many", "found", "wide"] ["vat", "many"] (defScope s__law_under) := ⟨rfl, rfl, rfl, by decide +kernel, rfl, by decide +kernel, by decide +kernel⟩
def sp__law_under : DSpec := fun ds M Q _ => ∃ (p : Addr) (n : Int), ds = [.ref p, .int n] ∧ (0 < n ∧ n < 2 ^ 30) ∧ VatAt M p ∧ ∀ r M', 0 ≤ r → r < n → VatEx M M' p → Q (.int r) M'
theorem ok__law_under (T : Here K mg "_law_under" ["vat", "many"] s__law_under) (b_int : mg "int" = none) : DFn P w K mg base 2 "_law_under" 2 sp__law_under := by
  refine DFn.here (k := 1) T sc__law_under (fun f cdv A outer s H E hX => (dss_cons (ds_if (dt_gt (de_ix (dv 0) dint) dint) (dss_cons (ds_set hX 2 (de_mod (de_int b_int (da_cons (de_ix (dv 0) dint) da_nil)) (dv 1)))
      (dss_cons (ds_ixset (de_fdiv (de_ix (dv 0) dint) (dv 1)) (dv 0) dint)
      (dss_one (ds_ret (dv 2))))) dss_nil)
      (dss_cons (ds_ixset (de_mod (de_int b_int (da_cons (de_add (de_mul (de_ix (dv 0) dint) dint) dint) da_nil)) dint) (dv 0) dint)
      (dss_cons (ds_set hX 3 (de_mod (de_int b_int (da_cons (de_mul (de_ix (dv 0) dint) (de_add (de_fdiv (de_ix (dv 0) dint) dint) dint)) da_nil)) dint))
      (dss_one (ds_ret (de_mod (de_int b_int (da_cons (de_fdiv (dv 3) dint) da_nil)) (dv 1)))))))) (fun ds M Q Ed hl hs => ?_)
  obtain ⟨p, n, rfl, ⟨n1, n2⟩, va, q⟩ := hs
  obtain ⟨a, b, hv⟩ := id va
  have q2 : ∀ x a b, Q (.int (x % n)) (updM M p (vatO a b)) := fun x a b => q _ _ (Int.emod_nonneg x (by omega)) (Int.emod_lt_of_pos x n1) (VatEx.refl va).upd
  have v0 := moL_vat hv
  have v1 : ∀ {a b : Int}, moL (updM M p (.lst [.int a, .int b]) p) = some [.int a, .int b] := by intro a b; rw [updM_same]; rfl
  refine onO_i v0 (onO_i (atI_nat (j := 0) rfl) (onT_i (fun h => ?_) (fun h => ?_)))
  · refine onO_i v0 (onO_i (atI_nat (j := 0) rfl) ⟨n1, ?_⟩)
    refine onO_i v0 (onO_i (atI_nat (j := 0) rfl) ⟨cdiv ⟨n1, by omega⟩, onO_i v0 (onO_i (ixl 0) ?_)⟩)
    exact q2 _ _ _
  · refine onO_i v0 (onO_i (atI_nat (j := 1) rfl) ⟨cmulR, cmod, onO_i v0 (onO_i (ixl 1) ?_)⟩)
    have hz2 : -(2 ^ 64) < (b * 39373 + 101) % 2147483629 ∧ (b * 39373 + 101) % 2147483629 < 2 ^ 64 := by omega
    refine onO_i v1 (onO_i (atI_nat (j := 1) rfl) (onO_i v1 (onO_i (atI_nat (j := 1) rfl) ?_)))
    exact ⟨cdiv, cmulL hz2, cmod, cdiv, n1, q2 _ _ _⟩

abbrev s__law_some : Stmt := topS 51
theorem sc__law_some : FnScope ["vat", "things"] ["vat", "things"] (defScope s__law_some) := ⟨rfl, rfl, rfl, by decide +kernel, rfl, by decide +kernel, by decide +kernel⟩
def sp__law_some : DSpec := fun ds M Q _ => ∃ (p : Addr) (es : List D), ds = [.ref p, .lst es] ∧ (0 < es.length ∧ es.length < 2 ^ 30) ∧ VatAt M p ∧ ∀ d M', d ∈ es → VatEx M M' p → Q d M'
theorem ok__law_some (T : Here K mg "_law_some" ["vat", "things"] s__law_some) (b_len : mg "len" = none) (c__law_under : DFn P w K mg base 2 "_law_under" 2 sp__law_under) : DFn P w K mg base 3 "_law_some" 2 sp__law_some := by
  refine DFn.here (k := 2) T sc__law_some (fun f cdv A outer s H E hX => (dss_one (ds_ret (de_ix (dv 1) (de_call hX c__law_under (da_cons (dv 0) (da_cons (de_len b_len (da_cons (dv 1) da_nil)) da_nil))))))) (fun ds M Q Ed hl hs => ?_)
  obtain ⟨p, es, rfl, ⟨n1, n2⟩, hv, q⟩ := hs
  refine ⟨rfl, p, es.length, rfl, ⟨by omega, by omega⟩, hv, fun r M' h1 h2 e => ?_⟩
  obtain ⟨j, rfl⟩ := Int.eq_ofNat_of_zero_le h1
  have hj : j < es.length := by omega
  exact onO_i (atI_nat (List.getElem?_eq_getElem hj)) (q _ M' (List.getElem_mem hj) e)

abbrev s__law_is_whole : Stmt := topS 52
theorem sc__law_is_whole : FnScope ["value", "low", "high"] ["value", "low", "high"] (defScope s__law_is_whole) := ⟨rfl, rfl, rfl, by decide +kernel, rfl, by decide +kernel, by decide +kernel⟩
def sp__law_is_whole : DSpec := fun ds M Q _ => ∃ v lo hi, ds = [v, .int lo, .int hi] ∧ D.fit 64 v = true ∧ Q (.bl (isWholeD v lo hi)) M
theorem ok__law_is_whole (T : Here K mg "_law_is_whole" ["value", "low", "high"] s__law_is_whole) (b_bool : mg "bool" = none) (b_int : mg "int" = none) (b_isinstance : mg "isinstance" = none) : DFn P w K mg base 2 "_law_is_whole" 3 sp__law_is_whole := by
  refine DFn.here (k := 1) T sc__law_is_whole (fun f cdv A outer s H E hX => (dss_one (ds_ret (de_and (de_isT (T := "int") b_isinstance b_int (dv 0)) (de_and (de_not (de_isT (T := "bool") b_isinstance b_bool (dv 0))) (de_one (de_lele (dv 1) (dv 0) (dv 2)))))))) (fun ds M Q Ed hl hs => ?_)
  obtain ⟨v, lo, hi, rfl, hf, q⟩ := hs
  cases v with
  | int i =>
    have q : Q (.bl (decide (lo ≤ i) && decide (i ≤ hi))) M := q
    refine onD_i (b := decide (lo ≤ i)) (fun h => ?_) (fun h => ?_)
    · rw [h] at q; exact q
    · rw [h] at q; exact q
  | ref a => simp [D.fit] at hf
  | fro a => simp [D.fit] at hf
  | _ => exact q

abbrev s__law_price : Stmt := topS 53
theorem sc__law_price : FnScope ["clause", "number", "found", "first", "price"] ["clause", "number"] (defScope s__law_price) := ⟨rfl, rfl, rfl, by decide +kernel, rfl, by decide +kernel, by decide +kernel⟩
def sp__law_price : DSpec := fun ds M Q _ => ∃ (c : Cl) (n : Int), ds = [c.d, .int n] ∧ Q (.int (priceF c.steps n)) M
theorem ok__law_price (T : Here K mg "_law_price" ["clause", "number"] s__law_price) : DFn P w K mg base 2 "_law_price" 2 sp__law_price := by
  refine DFn.here (k := 1) T sc__law_price (fun f cdv A outer s H E hX => (dss_cons (ds_set hX 2 dint)
      (dss_cons (ds_for hX (di_seq (de_ix (dv 0) dint)) (dg_tup hX (dgs_cons (dg_nm hX 3) (dgs_cons (dg_nm hX 4) dgs_nil))) (dss_one (ds_set hX 2 (de_if (dt_le (dv 3) (dv 1)) (dv 4) (dv 2)))))
      (dss_one (ds_ret (dv 2)))))) (fun ds M Q Ed hl hs => ?_)
  obtain ⟨c, n, rfl, q⟩ := hs
  refine ⟨fun i δ' M' => (∃ x y, δ' = ⟨[some c.d, some (.int n), some (.int (priceF (c.steps.take i) n)), x, y], Ed⟩) ∧ M' = M, ⟨⟨_, _, rfl⟩, rfl⟩, fun i d δ' M' hd ⟨⟨x, y, e1⟩, e2⟩ => ?_, fun δ' M' ⟨⟨x, y, e1⟩, e2⟩ => ?_⟩
  · subst e1; subst e2
    rw [List.getElem?_map] at hd
    cases e : c.steps[i]? with
    | none => rw [e] at hd; cases hd
    | some z =>
      rw [e] at hd; cases hd
      have ea : priceF (c.steps.take (i + 1)) n = if z.1 ≤ n then z.2 else priceF (c.steps.take i) n := by
        unfold priceF
        rw [List.take_add_one, e, List.foldl_append]
        rfl
      refine onT_i (b := decide (z.1 ≤ n)) (fun h => ?_) (fun h => ?_)
      · rw [if_pos (of_decide_eq_true h)] at ea
        exact ⟨⟨_, _, by rw [ea] <;> rfl⟩, rfl⟩
      · rw [if_neg (of_decide_eq_false h)] at ea
        exact ⟨⟨_, _, by rw [ea] <;> rfl⟩, rfl⟩
  · subst e1; subst e2
    rw [List.length_map, List.take_length]
    exact q

abbrev s__law_sum : Stmt := topS 54
theorem sc__law_sum : FnScope ["clause", "days", "number"] ["clause", "days"] (defScope s__law_sum) := ⟨rfl, rfl, rfl, by decide +kernel, rfl, by decide +kernel, by decide +kernel⟩
def sp__law_sum : DSpec := fun ds M Q _ => ∃ (c : Cl) (n : Int), ds = [c.d, .int n] ∧ c.Ok ∧ (0 ≤ n ∧ (c.whole = true ∨ n ≤ 1000000)) ∧ Q (.int (sumC c n)) M
theorem ok__law_sum (T : Here K mg "_law_sum" ["clause", "days"] s__law_sum) (b_range : mg "range" = none) (b_sum : mg "sum" = none) (c__law_price : DFn P w K mg base 2 "_law_price" 2 sp__law_price) : DFn P w K mg base 3 "_law_sum" 2 sp__law_sum := by
  refine DFn.here (k := 2) T sc__law_sum (fun f cdv A outer s H E hX => (dss_cons (ds_if (dt_val (de_ix (dv 0) dint)) (dss_one (ds_ret (de_mul (dv 1) (de_call hX c__law_price (da_cons (dv 0) (da_cons (dv 1) da_nil)))))) dss_nil)
      (dss_one (ds_ret (de_sum hX b_sum (da_cons (de_lc hX (own := [("number", 2)]) (blkOk_by (N := ["clause", "days", "number"]) (sc := defScope s__law_sum) (by decide +kernel)) (di_rng2 b_range (da_cons dint (da_cons (de_add (dv 1) dint) da_nil))) (fun _ _ _ _ _ hX => ⟨(dg_nm hX 2), dts_nil, (de_call hX c__law_price (da_cons (dv 0) (da_cons (dv 2) da_nil)))⟩)) da_nil)))))) (fun ds M Q Ed hl hs => ?_)
  obtain ⟨c, n, rfl, hc, ⟨h0, h1⟩, q⟩ := hs
  have pb := price_bound hc n
  unfold sumC at q
  refine onT_i (b := c.whole) (fun h => ?_) (fun h => ?_)
  · rw [h] at q
    exact ⟨rfl, c, n, rfl, cmulR ⟨by omega, by omega⟩, q⟩
  · rw [h] at q
    have h1 : n ≤ 1000000 := by
      rcases h1 with h1 | h1
      · rw [h] at h1; cases h1
      · exact h1
    have big : sizeLine = 16777216 := rfl
    refine ⟨⟨by decide, by decide, by omega, by omega⟩, ?_⟩
    refine lc_map (fun d => match d with | .int k => .int (priceF c.steps k) | d => d) (by rw [rngD_len]; omega) (fun i d hd Y hY => ?_) ?_
    · obtain ⟨_, rfl⟩ := rngD_get hd
      exact ⟨rfl, c, _, rfl, hY⟩
    · have e : (rngD 1 (n + 1 - 1).toNat).map (fun d => match d with | .int k => D.int (priceF c.steps k) | d => d) = ((daysL 1 n.toNat).map (priceF c.steps)).map D.int := by
        unfold rngD daysL
        rw [show n + 1 - 1 = n by omega, List.map_map, List.map_map, List.map_map]
        rfl
      rw [e]
      exact onO_i (intsD_map _) q

abbrev s__law_days : Stmt := topS 55
theorem sc__law_days : FnScope ["clause", "box", "fetched", "strikes", "left", "found", "day", "late"] ["clause", "box", "fetched", "strikes"] (defScope s__law_days) := ⟨rfl, rfl, rfl, by decide +kernel, rfl, by decide +kernel, by decide +kernel⟩
def sp__law_days : DSpec := fun ds M Q _ => ∃ (c : Cl) (l r f : Int) (ss : List Int), ds = [c.d, boxD l r, .int f, .tup (ss.map D.int)] ∧ (-(2 ^ 61) ≤ l ∧ l ≤ 2 ^ 61 ∧ -(2 ^ 61) ≤ r ∧ r ≤ 2 ^ 61 ∧ -(2 ^ 61) ≤ f ∧ f ≤ 2 ^ 61) ∧ Q (.int (lawDays c l r f ss)) M
theorem ok__law_days (T : Here K mg "_law_days" ["clause", "box", "fetched", "strikes"] s__law_days) (b_range : mg "range" = none) : DFn P w K mg base 2 "_law_days" 4 sp__law_days := by
  refine DFn.here (k := 1) T sc__law_days (fun f cdv A outer s H E hX => (dss_cons (ds_par hX 4 5 (da_cons (de_ix (dv 0) dint) (da_cons dint da_nil)))
      (dss_cons (ds_for hX (di_rng2 b_range (da_cons (de_add (de_if (dt_eq hX (de_ix (dv 0) dint) dstr) (de_ix (dv 1) dint) (de_ix (dv 1) dint)) dint) (da_cons (de_add (dv 2) dint) da_nil))) (dg_nm hX 6) (dss_cons (ds_set hX 7 (de_if (dt_eq hX (dv 4) dint) dint dint))
      (dss_cons (ds_if (DW.dt (dw_or (DW.dt (dw_and (dt_ge (de_mod (dv 6) dint) dint) (dw_and1 (dt_not (dt_val (de_ix (de_ix (dv 0) dint) (dv 7))))))) (dw_or1 (DW.dt (dw_and (dt_inF (dv 6) (dv 3)) (dw_and1 (dt_val (de_ix (de_ix (dv 0) dint) (dv 7))))))))) (dss_one ds_continue) dss_nil)
      (dss_one (ds_asg (de_if (dt_eq hX (dv 7) dint) (de_tup (da_cons (dv 4) (da_cons (de_add (dv 5) dint) da_nil))) (de_tup (da_cons (de_sub (dv 4) dint) (da_cons (dv 5) da_nil)))) (dg_tup hX (dgs_cons (dg_nm hX 4) (dgs_cons (dg_nm hX 5) dgs_nil))))))))
      (dss_one (ds_ret (dv 5)))))) (fun ds M Q Ed hl hs => ?_)
  obtain ⟨c, l, r, f, ss, rfl, hb, q⟩ := hs
  refine ⟨⟨fit_land 64 c.land, by decide +kernel⟩, ?_⟩
  rw [eqv_land]
  have main : ∀ st : Int, c.start l r = st → (-(2 ^ 61) ≤ st ∧ st ≤ 2 ^ 61) → FoGoal (rngD (st + 1) (f + 1 - (st + 1)).toNat) (.nm 6) (wSeq (wAsg (wIfE (wTest (wOp wEqV (wVar 4) (wC (.int 0)))) (wC (.int 1)) (wC (.int 0))) (.nm 7))
      (wSeq (wIf (wTOr (wTAnd (wTest (wOp (wI0 fun i j => .bl (decide (j ≤ i))) (wOp (wI (fun _ j => 0 < j) fun i j => .int (i % j)) (wVar 6) (wC (.int 7))) (wC (.int 5)))) (wTNot (wTest (wOp wIx (wOp wIx (wVar 0) (wC (.int 2))) (wVar 7)))))
        (wTAnd (wTest (wOp (wInF false) (wVar 6) (wVar 3))) (wTest (wOp wIx (wOp wIx (wVar 0) (wC (.int 3))) (wVar 7))))) wCont wNext)
        (wAsg (wIfE (wTest (wOp wEqV (wVar 7) (wC (.int 1)))) (wTup (wCons (wVar 4) (wCons (wOp wAddV (wVar 5) (wC (.int 1))) wNil))) (wTup (wCons (wOp (wI0 fun i j => .int (i - j)) (wVar 4) (wC (.int 1))) (wCons (wVar 5) wNil)))) (.tp [.nm 4, .nm 5]))))
      { nx := wRet (wVar 5) { nx := fun _ M' => Q .non M', rt := Q }, rt := Q } ⟨[some c.d, some (boxD l r), some (.int f), some (.tup (ss.map D.int)), some (.int c.free), some (.int 0), none, none], Ed⟩ M := fun st hst hs => by
    have en : (f + 1 - (st + 1)).toNat = (f - st).toNat := by omega
    rw [en]
    refine ⟨fun i δ' M' => (∃ x y, δ' = ⟨[some c.d, some (boxD l r), some (.int f), some (.tup (ss.map D.int)), some (.int (dayFold c ss (c.free, 0) (st + 1) i).1), some (.int (dayFold c ss (c.free, 0) (st + 1) i).2), x, y], Ed⟩) ∧ M' = M, ⟨⟨none, none, rfl⟩, rfl⟩, fun i d δ' M' hd ⟨⟨x, y, e1⟩, e2⟩ => ?_, fun δ' M' ⟨⟨x, y, e1⟩, e2⟩ => ?_⟩
    · subst e1; subst e2
      obtain ⟨_, rfl⟩ := rngD_get hd
      have es : dayFold c ss (c.free, 0) (st + 1) (i + 1) = dayStep c ss (dayFold c ss (c.free, 0) (st + 1) i) (st + 1 + (i : Nat)) := by
        unfold dayFold
        rw [daysL_succ, List.foldl_append]; rfl
      generalize dayFold c ss (c.free, 0) (st + 1) i = s at es ⊢
      generalize st + 1 + (i : Int) = d at es ⊢
      unfold dayStep at es
      refine ⟨⟨fit_int _ _, fit_int _ _⟩, ?_⟩
      rw [eqv_int]
      cases hl : (s.1 == 0) with
      | true =>
        rw [hl] at es
        have eF : c.cnt true (isWk d) (hit ss d) = false → dayFold c ss (c.free, 0) (st + 1) (i + 1) = s := fun h => by rw [es, h]
        have eT : c.cnt true (isWk d) (hit ss d) = true → dayFold c ss (c.free, 0) (st + 1) (i + 1) = (s.1, s.2 + 1) := fun h => by rw [es, h]
        have cn : c.cnt true (isWk d) (hit ss d) = ((!isWk d || c.e1) && !(hit ss d && c.s1)) := rfl
        refine ⟨cmod, onT_i (b := isWk d) (fun hw => onT_i (b := !c.e1) (fun he => ?_) (fun he => ⟨⟨rfl, flat_ints ss⟩, ?_⟩)) (fun hw => ⟨⟨rfl, flat_ints ss⟩, ?_⟩)⟩
        · exact ⟨⟨_, _, by rw [eF (by rw [cn, hw, bt he] <;> rfl)] <;> rfl⟩, rfl⟩
        · rw [any_ints, Bool.false_bne]
          refine onT_i (b := hit ss d) (fun hh => onT_i (b := c.s1) (fun hs => ?_) (fun hs => ?_)) (fun hh => ?_)
          · exact ⟨⟨_, _, by rw [eF (by rw [cn, hh, hs]; simp)] <;> rfl⟩, rfl⟩
          · exact ⟨⟨fit_int _ _, fit_int _ _⟩, sl, ⟨_, _, by rw [eT (by rw [cn, hh, hs, bn he]; simp)] <;> rfl⟩, rfl⟩
          · exact ⟨⟨fit_int _ _, fit_int _ _⟩, sl, ⟨_, _, by rw [eT (by rw [cn, hh, bn he]; simp)] <;> rfl⟩, rfl⟩
        · rw [any_ints, Bool.false_bne]
          refine onT_i (b := hit ss d) (fun hh => onT_i (b := c.s1) (fun hs => ?_) (fun hs => ?_)) (fun hh => ?_)
          · exact ⟨⟨_, _, by rw [eF (by rw [cn, hh, hs]; simp)] <;> rfl⟩, rfl⟩
          · exact ⟨⟨fit_int _ _, fit_int _ _⟩, sl, ⟨_, _, by rw [eT (by rw [cn, hh, hs, hw]; simp)] <;> rfl⟩, rfl⟩
          · exact ⟨⟨fit_int _ _, fit_int _ _⟩, sl, ⟨_, _, by rw [eT (by rw [cn, hh, hw]; simp)] <;> rfl⟩, rfl⟩
      | false =>
        rw [hl] at es
        have eF : c.cnt false (isWk d) (hit ss d) = false → dayFold c ss (c.free, 0) (st + 1) (i + 1) = s := fun h => by rw [es, h]
        have eT : c.cnt false (isWk d) (hit ss d) = true → dayFold c ss (c.free, 0) (st + 1) (i + 1) = (s.1 - 1, s.2) := fun h => by rw [es, h]
        have cn : c.cnt false (isWk d) (hit ss d) = ((!isWk d || c.e0) && !(hit ss d && c.s0)) := rfl
        refine ⟨cmod, onT_i (b := isWk d) (fun hw => onT_i (b := !c.e0) (fun he => ?_) (fun he => ⟨⟨rfl, flat_ints ss⟩, ?_⟩)) (fun hw => ⟨⟨rfl, flat_ints ss⟩, ?_⟩)⟩
        · exact ⟨⟨_, _, by rw [eF (by rw [cn, hw, bt he] <;> rfl)] <;> rfl⟩, rfl⟩
        · rw [any_ints, Bool.false_bne]
          refine onT_i (b := hit ss d) (fun hh => onT_i (b := c.s0) (fun hs => ?_) (fun hs => ?_)) (fun hh => ?_)
          · exact ⟨⟨_, _, by rw [eF (by rw [cn, hh, hs]; simp)] <;> rfl⟩, rfl⟩
          · exact ⟨⟨fit_int _ _, fit_int _ _⟩, sl, ⟨_, _, by rw [eT (by rw [cn, hh, hs, bn he]; simp)] <;> rfl⟩, rfl⟩
          · exact ⟨⟨fit_int _ _, fit_int _ _⟩, sl, ⟨_, _, by rw [eT (by rw [cn, hh, bn he]; simp)] <;> rfl⟩, rfl⟩
        · rw [any_ints, Bool.false_bne]
          refine onT_i (b := hit ss d) (fun hh => onT_i (b := c.s0) (fun hs => ?_) (fun hs => ?_)) (fun hh => ?_)
          · exact ⟨⟨_, _, by rw [eF (by rw [cn, hh, hs]; simp)] <;> rfl⟩, rfl⟩
          · exact ⟨⟨fit_int _ _, fit_int _ _⟩, sl, ⟨_, _, by rw [eT (by rw [cn, hh, hs, hw]; simp)] <;> rfl⟩, rfl⟩
          · exact ⟨⟨fit_int _ _, fit_int _ _⟩, sl, ⟨_, _, by rw [eT (by rw [cn, hh, hw]; simp)] <;> rfl⟩, rfl⟩
    · subst e1; subst e2
      rw [rngD_len]
      unfold lawDays at q
      rw [hst] at q
      exact q
  obtain ⟨land, free, e0, e1, s0, s1, steps, whole⟩ := c
  cases land with
  | true => exact ⟨⟨by omega, by omega, by omega, by omega⟩, main l rfl ⟨by omega, by omega⟩⟩
  | false => exact ⟨⟨by omega, by omega, by omega, by omega⟩, main r rfl ⟨by omega, by omega⟩⟩

abbrev s__law_cost : Stmt := topS 56
theorem sc__law_cost : FnScope ["clause", "box", "fetched", "strikes"] ["clause", "box", "fetched", "strikes"] (defScope s__law_cost) := ⟨rfl, rfl, rfl, by decide +kernel, rfl, by decide +kernel, by decide +kernel⟩
def sp__law_cost : DSpec := fun ds M Q _ => ∃ (c : Cl) (l r f : Int) (ss : List Int), ds = [c.d, boxD l r, .int f, .tup (ss.map D.int)] ∧ c.Ok ∧ (-(2 ^ 61) ≤ l ∧ l ≤ 2 ^ 61 ∧ -(2 ^ 61) ≤ r ∧ r ≤ 2 ^ 61 ∧ -(2 ^ 61) ≤ f ∧ f ≤ 2 ^ 61) ∧ (0 ≤ lawDays c l r f ss ∧ (c.whole = true ∨ lawDays c l r f ss ≤ 1000000)) ∧ Q (.int (lawCost c l r f ss)) M
theorem ok__law_cost (T : Here K mg "_law_cost" ["clause", "box", "fetched", "strikes"] s__law_cost) (c__law_sum : DFn P w K mg base 3 "_law_sum" 2 sp__law_sum) (c__law_days : DFn P w K mg base 2 "_law_days" 4 sp__law_days) : DFn P w K mg base 4 "_law_cost" 4 sp__law_cost := by
  refine DFn.here (k := 3) T sc__law_cost (fun f cdv A outer s H E hX => (dss_one (ds_ret (de_call hX c__law_sum (da_cons (dv 0) (da_cons (de_call hX c__law_days (da_cons (dv 0) (da_cons (dv 1) (da_cons (dv 2) (da_cons (dv 3) da_nil))))) da_nil)))))) (fun ds M Q Ed hl hs => ?_)
  obtain ⟨c, l, r, f, ss, rfl, hc, hb, hd, q⟩ := hs
  exact ⟨rfl, c, l, r, f, ss, rfl, hb, rfl, c, _, rfl, hc, hd, q⟩

abbrev s__law_clause : Stmt := topS 57
theorem sc__law_clause : FnScope ["vat", "firsts", "prices", "truths", "start", "free", "steps", "first", "turn", "price"] ["vat"] (defScope s__law_clause) := ⟨rfl, rfl, rfl, by decide +kernel, rfl, by decide +kernel, by decide +kernel⟩
def sp__law_clause : DSpec := fun ds M Q _ => ∃ p, ds = [.ref p] ∧ VatAt M p ∧ ∀ (c : Cl) M', c.Ok → VatEx M M' p → Q c.d M'
theorem ok__law_clause (T : Here K mg "_law_clause" ["vat"] s__law_clause) (b_len : mg "len" = none) (b_range : mg "range" = none) (b_tuple : mg "tuple" = none) (b_zip : mg "zip" = none) (c__law_under : DFn P w K mg base 2 "_law_under" 2 sp__law_under) (c__law_some : DFn P w K mg base 3 "_law_some" 2 sp__law_some) : DFn P w K mg base 4 "_law_clause" 1 sp__law_clause := by
  refine DFn.here (k := 3) T sc__law_clause (fun f cdv A outer s H E hX => (dss_cons (ds_set hX 1 (de_call hX c__law_some (da_cons (dv 0) (da_cons (de_lst (da_cons (de_tup (da_cons dint da_nil)) (da_cons (de_tup (da_cons dint da_nil)) (da_cons (de_tup (da_cons dint (da_cons dint da_nil))) (da_cons (de_tup (da_cons dint (da_cons dint da_nil))) (da_cons (de_tup (da_cons dint (da_cons dint (da_cons dint da_nil)))) (da_cons (de_tup (da_cons dint (da_cons dint (da_cons dint da_nil)))) (da_cons (de_tup (da_cons dint (da_cons dint da_nil))) da_nil)))))))) da_nil))))
      (dss_cons (ds_setLc hX 2 (own := [("first", 7)]) (blkOk_by (N := ["vat", "firsts", "prices", "truths", "start", "free", "steps", "first", "turn", "price"]) (sc := defScope s__law_clause) (by decide +kernel)) (di_seq (dv 1)) (fun _ _ _ _ _ hX => ⟨(dg_nm hX 7), dts_nil, (de_call hX c__law_some (da_cons (dv 0) (da_cons (de_lst (da_cons dint (da_cons dint (da_cons dint (da_cons dint (da_cons dint (da_cons dint (da_cons dint (da_cons dint da_nil))))))))) da_nil)))⟩) (sw_true rfl rfl rfl (by decide +kernel)))
      (dss_cons (ds_setLc hX 3 (own := [("turn", 8)]) (blkOk_by (N := ["vat", "firsts", "prices", "truths", "start", "free", "steps", "first", "turn", "price"]) (sc := defScope s__law_clause) (by decide +kernel)) (di_rng1 b_range (da_cons dint da_nil)) (fun _ _ _ _ _ hX => ⟨(dg_nm hX 8), dts_nil, (de_eq hX (de_call hX c__law_under (da_cons (dv 0) (da_cons dint da_nil))) dint)⟩) (sw_true rfl rfl rfl (by decide +kernel)))
      (dss_cons (ds_par hX 4 5 (da_cons (de_call hX c__law_some (da_cons (dv 0) (da_cons (de_lst (da_cons dstr (da_cons dstr da_nil))) da_nil))) (da_cons (de_call hX c__law_some (da_cons (dv 0) (da_cons (de_lst (da_cons dint (da_cons dint (da_cons dint (da_cons dint (da_cons dint da_nil)))))) da_nil))) da_nil)))
      (dss_cons (ds_set hX 6 (de_tuple b_tuple (da_cons (de_lc hX (own := [("first", 7), ("price", 9)]) (blkOk_by (N := ["vat", "firsts", "prices", "truths", "start", "free", "steps", "first", "turn", "price"]) (sc := defScope s__law_clause) (by decide +kernel)) (di_zipM b_zip (da_cons (dv 1) (da_cons (dv 2) da_nil))) (fun _ _ _ _ _ hX => ⟨(dg_tup hX (dgs_cons (dg_nm hX 7) (dgs_cons (dg_nm hX 9) dgs_nil))), dts_nil, (de_tup (da_cons (dv 7) (da_cons (dv 9) da_nil)))⟩)) da_nil)))
      (dss_one (ds_ret (de_tup (da_cons (dv 4) (da_cons (dv 5) (da_cons (de_tup (da_cons (de_ix (dv 3) dint) (da_cons (de_ix (dv 3) dint) da_nil))) (da_cons (de_tup (da_cons (de_ix (dv 3) dint) (da_cons (de_ix (dv 3) dint) da_nil))) (da_cons (dv 6) (da_cons (de_and (de_ix (dv 3) dint) (de_one (de_gt (de_len b_len (da_cons (dv 1) da_nil)) dint))) da_nil))))))))))))))) (fun ds M Q Ed hl hs => ?_)
  obtain ⟨p, rfl, hv, q⟩ := hs
  refine ⟨sl, sl, sl, sl, sl, sl, sl, sl, rfl, p, _, rfl, ⟨by decide, by decide⟩, hv, fun fs M1 hfs e1 => ?_⟩
  have hF : ∃ is : List Int, fs = .tup (is.map D.int) ∧ okF is := by
    simp only [List.mem_cons, List.not_mem_nil, or_false] at hfs
    rcases hfs with e | e | e | e | e | e | e
    · exact ⟨[1], e, by decide⟩
    · exact ⟨[1], e, by decide⟩
    · exact ⟨[1, 2], e, by decide⟩
    · exact ⟨[1, 3], e, by decide⟩
    · exact ⟨[1, 2, 4], e, by decide⟩
    · exact ⟨[1, 4, 6], e, by decide⟩
    · exact ⟨[1, 5], e, by decide⟩
  obtain ⟨is, rfl, hF⟩ := hF
  have hl := hF.1.2
  refine lc_each (fun M2 => VatEx M M2 p) (fun d => ∃ i, d = .int i ∧ 0 ≤ i ∧ i ≤ 5) (by rw [List.length_map]; exact Nat.le_trans hl (by decide)) e1 (fun i d M2 hd e2 Y hY => ?_) (fun ps M2 e2 hpl hps => ?_)
  · refine ⟨sl, rfl, p, _, rfl, ⟨by decide, by decide⟩, e2.1, fun y M3 hy e3 => hY y M3 ?_ (e2.trans e3)⟩
    simp only [List.mem_cons, List.not_mem_nil, or_false] at hy
    rcases hy with e | e | e | e | e | e | e | e <;> exact ⟨_, e, by decide, by decide⟩
  obtain ⟨ps, rfl, hps'⟩ := map_of_all hps
  rw [List.length_map, List.length_map] at hpl
  refine ⟨⟨by decide, by decide⟩, ?_⟩
  refine lc_each (fun M3 => VatEx M M3 p) (fun d => ∃ b, d = .bl b ∧ True) (by decide) e2 (fun i d M3 hd e3 Y hY => ?_) (fun bs M3 e3 hbl hbs => ?_)
  · exact ⟨rfl, p, 2, rfl, ⟨by decide, by decide⟩, e3.1, fun r M4 _ _ e4 => ⟨⟨fit_int _ _, fit_int _ _⟩, hY _ M4 ⟨_, rfl, trivial⟩ (e3.trans e4)⟩⟩
  obtain ⟨bs, rfl, _⟩ := map_of_all hbs
  rw [List.length_map] at hbl
  match bs, hbl with
  | [b0, b1, b2, b3, b4], _ =>
    refine ⟨sl, rfl, p, _, rfl, ⟨by decide, by decide⟩, e3.1, fun st M4 hst e4 => ?_⟩
    refine ⟨sl, rfl, p, _, rfl, ⟨by decide, by decide⟩, e4.1, fun fr M5 hfr e5 => ?_⟩
    have hst : ∃ l : Bool, st = .str (if l then "landing" else "release") := by
      simp only [List.mem_cons, List.not_mem_nil, or_false] at hst
      rcases hst with e | e
      · exact ⟨true, e⟩
      · exact ⟨false, e⟩
    have hfr : ∃ f : Int, fr = .int f ∧ 0 ≤ f ∧ f ≤ 6 := by
      simp only [List.mem_cons, List.not_mem_nil, or_false] at hfr
      rcases hfr with e | e | e | e | e <;> exact ⟨_, e, by decide, by decide⟩
    obtain ⟨l, rfl⟩ := hst
    obtain ⟨f, rfl, hf⟩ := hfr
    have zl : (zipD (is.map D.int) (ps.map D.int)).length ≤ sizeLine := by
      rw [zipD_len, List.length_map]
      exact Nat.le_trans (Nat.min_le_left _ _) (Nat.le_trans hl (by decide))
    refine lc_map (fun d => d) zl (fun i d hd Y hY => ?_) ?_
    · obtain ⟨x, y, _, _, rfl⟩ := zipD_get hd
      exact ⟨sl, hY⟩
    · rw [List.map_id', zipD_steps]
      have fin : ∀ wh : Bool, Q (Cl.d ⟨l, f, b0, b1, b2, b3, is.zip ps, wh⟩) M5 := fun wh => q _ M5 (okF_of hF hpl hps' _ rfl hf) (e3.trans (e4.trans e5))
      refine ⟨sl, sl, ?_⟩
      cases b4 with
      | true => exact ⟨sl, fin _⟩
      | false => exact ⟨sl, fin false⟩

abbrev s__law_names : Stmt := topS 58
theorem sc__law_names : FnScope ["e", "some", "labels", "word", "good"] ["e"] (defScope s__law_names) := ⟨rfl, rfl, rfl, by decide +kernel, rfl, by decide +kernel, by decide +kernel⟩
theorem ok__law_names (T : Here K mg "_law_names" ["e"] s__law_names) (er : Errs K mg ex as B) (b_isinstance : mg "isinstance" = none) (b_zip : mg "zip" = none) (b_ValueError : mg "ValueError" = none) : NmFn P w K mg base 2 as := by
  exact nm_here (k := 1) (wb := w_names) T sc__law_names er (fun i f cdv A outer s H E p hi C hz hk hv hX => (dss_cons (ds_setN hX.nd 1 (de_lst (da_cons (de_isP C hz hX 0 (er.at_ 0 _ rfl).1 (hk 0 (by decide)) b_isinstance) (da_cons (de_isP C hz hX 0 (er.at_ 1 _ rfl).1 (hk 1 (by decide)) b_isinstance) (da_cons (de_isP C hz hX 0 (er.at_ 2 _ rfl).1 (hk 2 (by decide)) b_isinstance) (da_cons (de_isP C hz hX 0 (er.at_ 3 _ rfl).1 (hk 3 (by decide)) b_isinstance) (da_cons (de_isP C hz hX 0 (er.at_ 4 _ rfl).1 (hk 4 (by decide)) b_isinstance) (da_cons (de_isP C hz hX 0 (er.at_ 5 _ rfl).1 (hk 5 (by decide)) b_isinstance) (da_cons (de_isP C hz hX 0 (er.at_ 6 _ rfl).1 (hk 6 (by decide)) b_isinstance) (da_cons (de_isP C hz hX 0 (er.at_ 7 _ rfl).1 (hk 7 (by decide)) b_isinstance) (da_cons (de_isP C hz hX 0 (er.at_ 8 _ rfl).1 (hk 8 (by decide)) b_isinstance) (da_cons (de_isP C hz hX 0 (er.at_ 9 _ rfl).1 (hk 9 (by decide)) b_isinstance) (da_cons (de_isP C hz hX 0 (er.at_ 10 _ rfl).1 (hk 10 (by decide)) b_isinstance) (da_cons (de_isP C hz hX 0 (er.at_ 11 _ rfl).1 (hk 11 (by decide)) b_isinstance) (da_cons (de_isP C hz hX 0 (er.at_ 12 _ rfl).1 (hk 12 (by decide)) b_isinstance) (da_cons (de_isPT C hz hX 0 b_ValueError hv b_isinstance) da_nil)))))))))))))))) (dss_cons (ds_setN hX.nd 2 dstr) (dss_one (ds_ret (de_join dstr (de_lcz hX (own := [("word", 3), ("good", 4)]) (blkOk_by (N := ["e", "some", "labels", "word", "good"]) (sc := defScope s__law_names) (by decide +kernel)) (di_zipZ b_zip (da_cons (de_split (dv 2) dstr) (da_cons (dv 1) da_nil))) (fun _ _ _ _ _ => ⟨fun hot => dg_tupH hot (dgs_cons (dg_nmN sc__law_names.nd 3) (dgs_cons (dg_nmN sc__law_names.nd 4) dgs_nil)), dts_one (dt_val (dv 4)), dv 3⟩)))))))) rd_names

abbrev s__law_error : Stmt := topS 59
theorem sc__law_error : FnScope ["call", "e"] ["call"] (defScope s__law_error) := ⟨rfl, rfl, rfl, by decide +kernel, rfl, by decide +kernel, by decide +kernel⟩
theorem ok__law_error (T : Here K mg "_law_error" ["call"] s__law_error) (er : Errs K mg ex as B) (nm : NmFn P w K mg base 2 as) {f : Addr} {sp : DSpec} (V : FnV P w K mg base 81 0 f sp) : DFn P w K mg base 82 "_law_error" 1 (G_error K ex f sp) :=
  DFn.here (k := 81) (wb := w_error K ex f sp) T sc__law_error (fun f cdv A outer s H E hX => (dss_cons (ds_tryW hX 1 er (suite_nm hX 1 nm) (fun pn xe E1 hX => dss_one (ds_expr (de_callV0 (K' := K) hX 0 (One.v V))))) (dss_one (ds_ret dstr)))) rd_error

abbrev s__law_all_refused : Stmt := topS 60
theorem sc__law_all_refused : FnScope ["call", "odds", "name", "odd"] ["call", "odds", "name"] (defScope s__law_all_refused) := ⟨rfl, rfl, rfl, by decide +kernel, rfl, by decide +kernel, by decide +kernel⟩
theorem ok__law_all_refused (T : Here K mg "_law_all_refused" ["call", "odds", "name"] s__law_all_refused) {cc__law_all_refused PP__law_all_refused : Addr} (cd : CodeAt K mg "_law_all_refused" cc__law_all_refused) (tb__law_all_refused : TabB base mg cc__law_all_refused PP__law_all_refused) (c__law_error : ∀ (base' : Heap) (f : Addr) (sp : DSpec), Up K mg base base' → FnV P w K mg base' 81 0 f sp → DFn P w K mg base' 82 "_law_error" 1 (G_error K ex f sp)) {f : Addr} {sp : DSpec} (V : FnV P w K mg base 80 1 f sp) : DFn P w K mg base 83 "_law_all_refused" 3 (G_all K ex PP__law_all_refused nmL f sp) :=
  DFn.hereC (k := 82) (wb := w_all K ex PP__law_all_refused nmL f sp) T cd sc__law_all_refused (fun f cdv A outer s H E hc hX => (dss_one (ds_ret (de_eq hX (de_lcn hX nfc_cx (own := [("odd", 3)]) (blkOk_by (N := ["call", "odds", "name", "odd"]) (sc := defScope s__law_all_refused) (by decide +kernel)) (di_seq (dv 1)) (fun _ _ _ _ _ hX nf => ⟨(dg_nm hX 3), (dts_one (dt_ne hX (de_callL (nm := nmL) (ps := []) (fr := ["call", "odd"]) (js := [0, 3]) (Nl := ["call", "odd"]) (kl := 80) hX nf tb__law_all_refused hc
        (fun _ _ _ _ _ _ _ _ _ _ u1 hX nf => (de_callV (K' := K) hX 0 (fun f s h => ((One.v V) f s h).up u1) (da_cons (dv 1) da_nil)))
        (fun base' f sp u' V => c__law_error base' f sp u' V) da_nil (nscope_by (by decide +kernel)) (hb := fun _ _ _ _ _ us hl => match us, hl with | [], _ => rfl)) (dv 2))), (dv 3)⟩)) (de_lst da_nil))))) rd_all

abbrev s__law_known : Stmt := topS 61
theorem sc__law_known : FnScope ["one", "two"] [] (defScope s__law_known) := ⟨rfl, rfl, rfl, by decide +kernel, rfl, by decide +kernel, by decide +kernel⟩
def cl1 : Cl := ⟨true, 2, true, true, false, false, [(1, 1)], false⟩
def cl2 : Cl := ⟨false, 2, false, false, true, true, [(1, 2), (3, 4)], false⟩
def cl3 : Cl := ⟨true, 0, true, true, false, false, [(1, 3), (3, 1)], true⟩
def sp__law_known : DSpec := fun ds M Q _ => Q (.tup [cl1.d, cl2.d, cl3.d]) M
theorem ok__law_known (T : Here K mg "_law_known" [] s__law_known) : DFn P w K mg base 2 "_law_known" 0 sp__law_known := by
  refine DFn.here (k := 1) T sc__law_known (fun f cdv A outer s H E hX => (dss_cons (ds_set hX 0 (de_tup (da_cons dstr (da_cons dint (da_cons (de_tup (da_cons dbl (da_cons dbl da_nil))) (da_cons (de_tup (da_cons dbl (da_cons dbl da_nil))) (da_cons (de_tup (da_cons (de_tup (da_cons dint (da_cons dint da_nil))) da_nil)) (da_cons dbl da_nil))))))))
      (dss_cons (ds_set hX 1 (de_tup (da_cons dstr (da_cons dint (da_cons (de_tup (da_cons dbl (da_cons dbl da_nil))) (da_cons (de_tup (da_cons dbl (da_cons dbl da_nil))) (da_cons (de_tup (da_cons (de_tup (da_cons dint (da_cons dint da_nil))) (da_cons (de_tup (da_cons dint (da_cons dint da_nil))) da_nil))) (da_cons dbl da_nil))))))))
      (dss_one (ds_ret (de_tup (da_cons (dv 0) (da_cons (dv 1) (da_cons (de_tup (da_cons dstr (da_cons dint (da_cons (de_tup (da_cons dbl (da_cons dbl da_nil))) (da_cons (de_tup (da_cons dbl (da_cons dbl da_nil))) (da_cons (de_tup (da_cons (de_tup (da_cons dint (da_cons dint da_nil))) (da_cons (de_tup (da_cons dint (da_cons dint da_nil))) da_nil))) (da_cons dbl da_nil))))))) da_nil))))))))) (fun ds M Q Ed hl hs => ?_)
  match ds, hl with
  | [], _ =>
    repeat (refine ⟨sl, ?_⟩)
    exact hs

abbrev s__law_bad_clauses : Stmt := topS 62
theorem sc__law_bad_clauses : FnScope ["a", "b", "c", "some", "odds", "odd"] [] (defScope s__law_bad_clauses) := ⟨rfl, rfl, rfl, by decide +kernel, rfl, by decide +kernel, by decide +kernel⟩
def aD (x2 x3 x4 x5 : D) : D := .tup [.str "landing", .int 2, x2, x3, x4, x5]
def tt2 : D := .tup [.bl true, .bl true]
def ff2 : D := .tup [.bl false, .bl false]
def s11 : D := .tup [.int 1, .int 1]
def badBase : List D := [.non, .tup [], .tup [.str "landing", .int 2, tt2, ff2, .tup [s11]], .lst [.str "landing", .int 2, tt2, ff2, .tup [s11], .bl false],
  .tup [.str "Landing", .int 2, tt2, ff2, .tup [s11], .bl false], .tup [.str "landing", .int 7, tt2, ff2, .tup [s11], .bl false], .tup [.str "landing", .bl true, tt2, ff2, .tup [s11], .bl false],
  aD (.tup [.bl true]) ff2 (.tup [s11]) (.bl false), aD tt2 (.tup [.int 0, .int 1]) (.tup [s11]) (.bl false), aD tt2 ff2 (.tup []) (.bl false), aD tt2 ff2 (.tup [s11]) (.int 0)]
def badOdds : List D := [.tup [.tup [.int 2, .int 1]], .tup [.tup [.int 1, .int 6]], .tup [s11, .tup [.int 1, .int 2]], .tup [s11, .tup [.int 7, .int 2]], .tup [.tup [.int 1, .int 1, .int 1]],
  .tup [s11, s11, s11, s11], .lst [s11], .tup [.tup [.int 1, .bl true]]]
def badClauses : List D := badBase ++ badOdds.map fun d => aD tt2 ff2 d (.bl false)
theorem badC_no : ∀ d ∈ badClauses, D.fit 63 d = true ∧ isClauseD d = false := all_no (by decide +kernel)
def sp__law_bad_clauses : DSpec := fun ds M Q _ => Q (.lst badClauses) M
theorem ok__law_bad_clauses (T : Here K mg "_law_bad_clauses" [] s__law_bad_clauses) (b_list : mg "list" = none) (c__law_known : DFn P w K mg base 2 "_law_known" 0 sp__law_known) : DFn P w K mg base 3 "_law_bad_clauses" 0 sp__law_bad_clauses := by
  refine DFn.here (k := 2) T sc__law_bad_clauses (fun f cdv A outer s H E hX => (dss_cons (ds_asg (de_call0 hX c__law_known) (dg_tup hX (dgs_cons (dg_nm hX 0) (dgs_cons (dg_nm hX 1) (dgs_cons (dg_nm hX 2) dgs_nil)))))
      (dss_cons (ds_set hX 3 (de_lst (da_cons dnon (da_cons (de_tup da_nil) (da_cons (de_cut (dv 0) do_none (do_some dint)) (da_cons (de_list b_list (da_cons (dv 0) da_nil)) (da_cons (de_add (de_tup (da_cons dstr da_nil)) (de_cut (dv 0) (do_some dint) do_none)) (da_cons (de_add (de_add (de_cut (dv 0) do_none (do_some dint)) (de_tup (da_cons dint da_nil))) (de_cut (dv 0) (do_some dint) do_none)) (da_cons (de_add (de_add (de_cut (dv 0) do_none (do_some dint)) (de_tup (da_cons dbl da_nil))) (de_cut (dv 0) (do_some dint) do_none)) da_nil)))))))))
      (dss_cons (ds_set hX 3 (de_catM (dv 3) (de_lst (da_cons (de_add (de_add (de_cut (dv 0) do_none (do_some dint)) (de_tup (da_cons (de_tup (da_cons dbl da_nil)) da_nil))) (de_cut (dv 0) (do_some dint) do_none)) (da_cons (de_add (de_add (de_cut (dv 0) do_none (do_some dint)) (de_tup (da_cons (de_tup (da_cons dint (da_cons dint da_nil))) da_nil))) (de_cut (dv 0) (do_some dint) do_none)) (da_cons (de_add (de_cut (dv 0) do_none (do_some dint)) (de_tup (da_cons (de_tup da_nil) (da_cons dbl da_nil)))) (da_cons (de_add (de_cut (dv 0) do_none (do_some dint)) (de_tup (da_cons dint da_nil))) da_nil)))))))
      (dss_cons (ds_set hX 4 (de_lst (da_cons (de_tup (da_cons (de_tup (da_cons dint (da_cons dint da_nil))) da_nil)) (da_cons (de_tup (da_cons (de_tup (da_cons dint (da_cons dint da_nil))) da_nil)) (da_cons (de_tup (da_cons (de_tup (da_cons dint (da_cons dint da_nil))) (da_cons (de_tup (da_cons dint (da_cons dint da_nil))) da_nil))) (da_cons (de_tup (da_cons (de_tup (da_cons dint (da_cons dint da_nil))) (da_cons (de_tup (da_cons dint (da_cons dint da_nil))) da_nil))) (da_cons (de_tup (da_cons (de_tup (da_cons dint (da_cons dint (da_cons dint da_nil)))) da_nil)) da_nil)))))))
      (dss_cons (ds_for hX (di_seq (de_add (dv 4) (de_lst (da_cons (de_mul (de_tup (da_cons (de_tup (da_cons dint (da_cons dint da_nil))) da_nil)) dint) (da_cons (de_lst (da_cons (de_tup (da_cons dint (da_cons dint da_nil))) da_nil)) (da_cons (de_tup (da_cons (de_tup (da_cons dint (da_cons dbl da_nil))) da_nil)) da_nil)))))) (dg_nm hX 5) (dss_one (ds_expr (de_append (dv 3) (de_add (de_cut (dv 0) do_none (do_some dint)) (de_tup (da_cons (dv 5) (da_cons dbl da_nil))))))))
      (dss_one (ds_ret (de_frz (dv 3)))))))))) (fun ds M Q Ed hl hs => ?_)
  match ds, hl with
  | [], _ =>
    refine ⟨rfl, ?_⟩
    repeat (refine ⟨sl, ?_⟩)
    refine fun p hp => ?_
    repeat (refine ⟨sl, ?_⟩)
    refine ⟨⟨by decide, by decide, by decide, by decide⟩, ?_⟩
    repeat (refine ⟨sl, ?_⟩)
    refine ⟨fun i δ' M' => (∃ x, δ' = ⟨[some cl1.d, some cl2.d, some cl3.d, some (.ref p), some (.lst (badOdds.take 5)), x], Ed⟩) ∧ M' = updM M p (.lst (badBase ++ (badOdds.take i).map fun d => aD tt2 ff2 d (.bl false))), ⟨⟨_, rfl⟩, rfl⟩, fun i d δ' M' hd ⟨⟨x, e1⟩, e2⟩ => ?_, fun δ' M' ⟨⟨x, e1⟩, e2⟩ => ?_⟩
    · subst e1; subst e2
      have hd : badOdds[i]? = some d := hd
      have hi := (List.getElem?_eq_some_iff.mp hd).1
      refine onO_i (a := badBase ++ (badOdds.take i).map fun d => aD tt2 ff2 d (.bl false)) (by rw [updM_same]; rfl) ⟨sl, sl, ?_⟩
      refine onO_i (a := badBase ++ (badOdds.take i).map fun d => aD tt2 ff2 d (.bl false)) (by rw [updM_same]; rfl) ⟨?_, ⟨⟨_, rfl⟩, ?_⟩⟩
      · rw [List.length_append, List.length_map, List.length_take]
        have : badBase.length = 11 := rfl
        have : sizeLine = 16777216 := rfl
        have : badOdds.length = 8 := rfl
        omega
      · rw [updM_updM, List.take_add_one, hd, List.append_assoc, List.map_append]
        rfl
    · subst e1; subst e2
      refine onO_i (a := badClauses) (by rw [updM_same]; rfl) ?_
      rw [delM_updM hp]
      exact hs

abbrev s__law_bad_boxes : Stmt := topS 63
theorem sc__law_bad_boxes : FnScope [] [] (defScope s__law_bad_boxes) := ⟨rfl, rfl, rfl, by decide +kernel, rfl, by decide +kernel, by decide +kernel⟩
def badBoxes : List D := [.non, .tup [], .tup [.int 1], .lst [.int 1, .int 1], .tup [.int 2, .int 1], .tup [.int (-1), .int 0], .tup [.int 0, .int (10 ^ 30 + 1)], .tup [.bl true, .int 1], .tup [.int 0, .non], .tup [.int 1, .int 1, .int 1]]
theorem badB_no : ∀ d ∈ badBoxes, D.fit 63 d = true ∧ isBoxD d = false := all_no (by decide +kernel)
def sp__law_bad_boxes : DSpec := fun ds M Q _ => Q (.lst badBoxes) M
theorem ok__law_bad_boxes (T : Here K mg "_law_bad_boxes" [] s__law_bad_boxes) : DFn P w K mg base 2 "_law_bad_boxes" 0 sp__law_bad_boxes := by
  refine DFn.here (k := 1) T sc__law_bad_boxes (fun f cdv A outer s H E hX => (dss_one (ds_ret (de_lst (da_cons dnon (da_cons (de_tup da_nil) (da_cons (de_tup (da_cons dint da_nil)) (da_cons (de_lst (da_cons dint (da_cons dint da_nil))) (da_cons (de_tup (da_cons dint (da_cons dint da_nil))) (da_cons (de_tup (da_cons (de_neg dint) (da_cons dint da_nil))) (da_cons (de_tup (da_cons dint (da_cons (de_add (de_pow dint dint) dint) da_nil))) (da_cons (de_tup (da_cons dbl (da_cons dint da_nil))) (da_cons (de_tup (da_cons dint (da_cons dnon da_nil))) (da_cons (de_tup (da_cons dint (da_cons dint (da_cons dint da_nil)))) da_nil)))))))))))))) (fun ds M Q Ed hl hs => ?_)
  match ds, hl with
  | [], _ => exact ⟨sl, sl, sl, sl, sl, ⟨by decide, by decide, by decide⟩, sl, sl, sl, sl, sl, hs⟩

abbrev s__law_plan_cost : Stmt := topS 64
theorem sc__law_plan_cost : FnScope ["clause", "box", "plan", "hits", "day"] ["clause", "box", "plan", "hits"] (defScope s__law_plan_cost) := ⟨rfl, rfl, rfl, by decide +kernel, rfl, by decide +kernel, by decide +kernel⟩
def sp__law_plan_cost : DSpec := fun ds M Q _ => ∃ (c : Cl) (l r pl : Int) (S : List Int), ds = [c.d, boxD l r, .int pl, .tup (S.map D.int)] ∧ c.Ok ∧ (0 ≤ l ∧ l ≤ r ∧ r ≤ pl ∧ pl ≤ 100000) ∧ S.length ≤ 100 ∧ ∀ f, Fin S pl f → Q (.int (lawCost c l r f S)) M
theorem ok__law_plan_cost (T : Here K mg "_law_plan_cost" ["clause", "box", "plan", "hits"] s__law_plan_cost) (c__law_cost : DFn P w K mg base 4 "_law_cost" 4 sp__law_cost) : DFn P w K mg base 5 "_law_plan_cost" 4 sp__law_plan_cost := by
  refine DFn.here (k := 4) T sc__law_plan_cost (fun f cdv A outer s H E hX => (dss_cons (ds_set hX 4 (dv 2))
      (dss_cons (ds_while hX (dt_inF (dv 4) (dv 3)) (dss_one (ds_set hX 4 (de_add (dv 4) dint))))
      (dss_one (ds_ret (de_call hX c__law_cost (da_cons (dv 0) (da_cons (dv 1) (da_cons (dv 4) (da_cons (dv 3) da_nil)))))))))) (fun ds M Q Ed hl hs => ?_)
  obtain ⟨c, l, r, pl, S, rfl, hc, hr, hS, q⟩ := hs
  obtain ⟨f0, hF⟩ := fin_ex S pl
  have f1 := hF.le
  have f2 := hF.ge
  refine ⟨⟨fun n δ' M' => ∃ d : Int, δ' = ⟨[some c.d, some (boxD l r), some (.int pl), some (.tup (S.map D.int)), some (.int d)], Ed⟩ ∧ M' = M ∧ pl ≤ d ∧ d ≤ f0 ∧ n = (f0 - d).toNat ∧ ∀ e, pl ≤ e → e < d → hit S e = true, ⟨_, pl, rfl, rfl, Int.le_refl _, f2, rfl, fun e h1 h2 => absurd h1 (by omega)⟩, fun n δ' M' ⟨d, e1, e2, d0, d1, en, dh⟩ => ?_⟩⟩
  subst e1; subst e2
  refine ⟨⟨rfl, flat_ints S⟩, ?_⟩
  rw [any_ints, Bool.false_bne]
  refine onT_i (b := hit S d) (fun h => ?_) (fun h => ?_)
  · have : d ≠ f0 := fun e => by rw [e, hF.op] at h; cases h
    refine ⟨(f0 - (d + 1)).toNat, by omega, d + 1, rfl, rfl, by omega, by omega, rfl, fun e h1 h2 => ?_⟩
    by_cases z : e = d
    · rw [z]; exact h
    · exact dh e h1 (by omega)
  · have ld := lawDays_range hc.free.1 l r d S
    have st := start_rng c hr.2.1
    exact ⟨rfl, c, l, r, d, S, rfl, hc, ⟨by omega, by omega, by omega, by omega, by omega, by omega⟩, ⟨ld.1, .inr (by omega)⟩, q d ⟨d0, h, dh⟩⟩

abbrev s__law_all_hits : Stmt := topS 65
theorem sc__law_all_hits : FnScope ["first", "last", "most", "found", "day", "hits"] ["first", "last", "most"] (defScope s__law_all_hits) := ⟨rfl, rfl, rfl, by decide +kernel, rfl, by decide +kernel, by decide +kernel⟩
def hitsL (lo most : Int) : Nat → List (List Int)
  | 0 => [[]]
  | n + 1 => hitsL lo most n ++ ((hitsL lo most n).filter fun S => decide ((S.length : Int) < most)).map fun S => S ++ [lo + (n : Nat)]
def tupI (S : List Int) : D := .tup (S.map D.int)
theorem hits_len (lo most : Int) : ∀ n, (hitsL lo most n).length ≤ 2 ^ n
  | 0 => Nat.le_refl _
  | n + 1 => by
    have ih := hits_len lo most n
    have hf := List.length_filter_le (fun S : List Int => decide ((S.length : Int) < most)) (hitsL lo most n)
    show (hitsL lo most n ++ _).length ≤ _
    rw [List.length_append, List.length_map, Nat.pow_succ]
    omega
theorem hits_ok (lo most : Int) (h0 : 0 ≤ most) : ∀ n, ∀ S ∈ hitsL lo most n, S.Pairwise (· < ·) ∧ (∀ s ∈ S, lo ≤ s ∧ s < lo + n) ∧ S.length ≤ most.toNat
  | 0, S, h => by
    rw [List.mem_singleton.mp h]
    exact ⟨.nil, fun _ h => (by cases h), Nat.zero_le _⟩
  | n + 1, S, h => by
    rcases List.mem_append.mp h with h | h
    · obtain ⟨a, b, c⟩ := hits_ok lo most h0 n S h
      exact ⟨a, fun s hs => by have := b s hs; omega, c⟩
    · obtain ⟨T, hT, rfl⟩ := List.mem_map.mp h
      obtain ⟨hT, hl⟩ := List.mem_filter.mp hT
      have hl := of_decide_eq_true hl
      obtain ⟨a, b, c⟩ := hits_ok lo most h0 n T hT
      refine ⟨List.pairwise_append.mpr ⟨a, List.pairwise_singleton _ _, fun x hx y hy => ?_⟩, fun s hs => ?_, ?_⟩
      · rw [List.mem_singleton.mp hy]; exact (b x hx).2
      · rcases List.mem_append.mp hs with hs | hs
        · have := b s hs; omega
        · rw [List.mem_singleton.mp hs]; omega
      · rw [List.length_append, List.length_singleton]; omega
/-- all of them are there -/
theorem hits_all (lo most : Int) : ∀ (n : Nat) (S : List Int), S.Pairwise (· < ·) → (∀ s ∈ S, lo ≤ s ∧ s < lo + n) → (S.length : Int) ≤ most → S ∈ hitsL lo most n
  | 0, S, _, h2, _ => by
    cases S with
    | nil => exact List.mem_singleton.mpr rfl
    | cons s S => have := h2 s List.mem_cons_self; omega
  | n + 1, S, h1, h2, h3 => by
    show S ∈ hitsL lo most n ++ _
    by_cases h : lo + (n : Int) ∈ S
    · refine List.mem_append_right _ (List.mem_map.mpr ?_)
      rcases List.eq_nil_or_concat S with e | ⟨T, z, e⟩
      · rw [e] at h; cases h
      · have e : S = T ++ [z] := by rw [e]; simp
        subst e
        obtain ⟨p1, p2, p3⟩ := List.pairwise_append.mp h1
        have hz : z = lo + n := by
          rcases List.mem_append.mp h with h | h
          · have a := p3 _ h z (List.mem_singleton.mpr rfl)
            have b := h2 z (List.mem_append_right _ (List.mem_singleton.mpr rfl))
            omega
          · exact (List.mem_singleton.mp h).symm
        rw [List.length_append, List.length_singleton] at h3
        refine ⟨T, List.mem_filter.mpr ⟨hits_all lo most n T p1 (fun s hs => ?_) (by omega), decide_eq_true (by omega)⟩, by rw [hz]⟩
        have a := p3 s hs z (List.mem_singleton.mpr rfl)
        have b := h2 s (List.mem_append_left _ hs)
        omega
    · refine List.mem_append_left _ (hits_all lo most n S h1 (fun s hs => ?_) h3)
      have b := h2 s hs
      have : s ≠ lo + n := fun e => h (e ▸ hs)
      omega
def sp__law_all_hits : DSpec := fun ds M Q _ => ∃ (lo hi most : Int), ds = [.int lo, .int hi, .int most] ∧ (-1000000 ≤ lo ∧ lo ≤ 1000000 ∧ -1000000 ≤ hi ∧ hi + 1 - lo ≤ 13) ∧ (0 ≤ most ∧ most ≤ 6) ∧ Q (.lst ((hitsL lo most (hi + 1 - lo).toNat).map tupI)) M
theorem ok__law_all_hits (T : Here K mg "_law_all_hits" ["first", "last", "most"] s__law_all_hits) (b_len : mg "len" = none) (b_range : mg "range" = none) : DFn P w K mg base 2 "_law_all_hits" 3 sp__law_all_hits := by
  refine DFn.here (k := 1) T sc__law_all_hits (fun f cdv A outer s H E hX => (dss_cons (ds_set hX 3 (de_lst (da_cons (de_tup da_nil) da_nil)))
      (dss_cons (ds_for hX (di_rng2 b_range (da_cons (dv 0) (da_cons (de_add (dv 1) dint) da_nil))) (dg_nm hX 4) (dss_one (ds_set hX 3 (de_add (dv 3) (de_lc hX (own := [("hits", 5)]) (blkOk_by (N := ["first", "last", "most", "found", "day", "hits"]) (sc := defScope s__law_all_hits) (by decide +kernel)) (di_seq (dv 3)) (fun _ _ _ _ _ hX => ⟨(dg_nm hX 5), (dts_one (dt_lt (de_len b_len (da_cons (dv 5) da_nil)) (dv 2))), (de_add (dv 5) (de_tup (da_cons (dv 4) da_nil)))⟩))))))
      (dss_one (ds_ret (dv 3)))))) (fun ds M Q Ed hl hs => ?_)
  obtain ⟨lo, hi, most, rfl, hr, hm, q⟩ := hs
  have big : sizeLine = 16777216 := rfl
  refine ⟨sl, sl, ?_⟩
  refine ⟨⟨by omega, by omega, by omega, by omega⟩, ?_⟩
  refine ⟨fun i δ' M' => (∃ x, δ' = ⟨[some (.int lo), some (.int hi), some (.int most), some (.lst ((hitsL lo most i).map tupI)), x, none], Ed⟩) ∧ M' = M, ⟨⟨_, rfl⟩, rfl⟩, fun i d δ' M' hd ⟨⟨x, e1⟩, e2⟩ => ?_, fun δ' M' ⟨⟨x, e1⟩, e2⟩ => ?_⟩
  · subst e1; subst e2
    obtain ⟨hi2, rfl⟩ := rngD_get hd
    have l1 := hits_len lo most i
    have l2 : 2 ^ i ≤ 2 ^ 13 := Nat.pow_le_pow_right (by decide) (by omega)
    have l3 : (2 : Nat) ^ 13 = 8192 := by decide
    refine lc_fil (f := tupI) (fun S => decide ((S.length : Int) < most)) (fun S => tupI (S ++ [lo + (i : Nat)])) (by omega) (fun S hS Y N hy hno => ?_) ?_
    · have hl := (hits_ok lo most hm.1 i S hS).2.2
      refine onT_i (b := decide (((S.map D.int).length : Int) < most)) (fun h => ?_) (fun h => ?_)
      · rw [List.length_map] at h
        refine ⟨sl, by rw [List.length_map]; show S.length + 1 ≤ sizeLine; omega, ?_⟩
        have := hy h
        unfold tupI at this
        rw [List.map_append] at this
        exact this
      · rw [List.length_map] at h
        exact hno h
    · refine ⟨?_, ⟨some (.int (lo + (i : Nat))), ?_⟩, rfl⟩
      · have hf := List.length_filter_le (fun S : List Int => decide ((S.length : Int) < most)) (hitsL lo most i)
        rw [List.length_map, List.length_map]
        omega
      · have : (hitsL lo most (i + 1)).map tupI = (hitsL lo most i).map tupI ++ ((hitsL lo most i).filter fun S => decide ((S.length : Int) < most)).map fun S => tupI (S ++ [lo + (i : Nat)]) := by
          show (hitsL lo most i ++ _).map tupI = _
          rw [List.map_append, List.map_map]; rfl
        rw [this]
  · subst e1; subst e2
    rw [rngD_len]
    exact q

abbrev s__law_are_hits : Stmt := topS 66
theorem sc__law_are_hits : FnScope ["value", "box", "most", "day"] ["value", "box", "most"] (defScope s__law_are_hits) := ⟨rfl, rfl, rfl, by decide +kernel, rfl, by decide +kernel, by decide +kernel⟩
def sp__law_are_hits : DSpec := fun ds M Q _ => ∃ (T : List Int) (l r most : Int), ds = [.tup (T.map D.int), boxD l r, .int most] ∧ T.Pairwise (· < ·) ∧ (∀ s ∈ T, l + 1 ≤ s ∧ s ≤ 1000000) ∧ (T.length : Int) ≤ most ∧ T.length ≤ 50 ∧ Q (.bl true) M
theorem ok__law_are_hits (T : Here K mg "_law_are_hits" ["value", "box", "most"] s__law_are_hits) (b_isinstance : mg "isinstance" = none) (b_len : mg "len" = none) (b_list : mg "list" = none) (b_set : mg "set" = none) (b_sorted : mg "sorted" = none) (b_tuple : mg "tuple" = none) (c__law_is_whole : DFn P w K mg base 2 "_law_is_whole" 3 sp__law_is_whole) : DFn P w K mg base 3 "_law_are_hits" 3 sp__law_are_hits := by
  refine DFn.here (k := 2) T sc__law_are_hits (fun f cdv A outer s H E hX => (dss_cons (ds_if (DW.dt (dw_or (dt_not (dt_val (de_isT (T := "tuple") b_isinstance b_tuple (dv 0)))) (dw_or1 (dt_gt (de_len b_len (da_cons (dv 0) da_nil)) (dv 2))))) (dss_one (ds_ret dbl)) dss_nil)
      (dss_cons (ds_if (dt_ne hX (de_lc hX (own := [("day", 3)]) (blkOk_by (N := ["value", "box", "most", "day"]) (sc := defScope s__law_are_hits) (by decide +kernel)) (di_seq (dv 0)) (fun _ _ _ _ _ hX => ⟨(dg_nm hX 3), (dts_one (dt_not (dt_val (de_call hX c__law_is_whole (da_cons (dv 3) (da_cons (de_add (de_ix (dv 1) dint) dint) (da_cons (de_pow dint dint) da_nil))))))), (dv 3)⟩)) (de_lst da_nil)) (dss_one (ds_ret dbl)) dss_nil)
      (dss_one (ds_ret (de_eq hX (de_list b_list (da_cons (dv 0) da_nil)) (de_sortedSetT hX b_sorted b_set (dv 0)))))))) (fun ds M Q Ed hl hs => ?_)
  obtain ⟨T, l, r, most, rfl, hp, hm, hl1, hl2, q⟩ := hs
  have big : sizeLine = 16777216 := rfl
  refine onT_i (b := decide (most < ((T.map D.int).length : Int))) (fun h => ?_) (fun _ => ?_)
  · have h := of_decide_eq_true h
    rw [List.length_map] at h
    omega
  refine lc_fil (f := D.int) (fun _ => false) D.int (by omega) (fun s hs Y N hy hno => ?_) ?_
  · refine ⟨⟨by decide, by decide, by decide⟩, rfl, .int s, l + 1, _, rfl, rfl, ?_⟩
    have hs := hm s hs
    have e : isWholeD (.int s) (l + 1) (10 ^ (31 : Int).toNat) = true := isWhole_ok ⟨hs.1, by
      have : (1000000 : Int) ≤ 10 ^ (31 : Int).toNat := by decide
      omega⟩
    show onT (!isWholeD (.int s) (l + 1) (10 ^ (31 : Int).toNat)) _ _
    rw [e]
    exact hno rfl
  have e0 : (T.filter fun _ => false) = [] := List.filter_eq_nil_iff.mpr fun _ _ => by simp
  rw [e0]
  refine ⟨sl, ⟨rfl, rfl⟩, onT_i (fun h => absurd h (by decide)) (fun _ => ?_)⟩
  refine onO_i (intsD_map T) ⟨by omega, fun ns hn hmem => ?_⟩
  have e : ns = T := sorted_eq hn hp hmem
  subst e
  have fT : D.fit 64 (.lst (ns.map D.int)) = true := by rw [fit_lstC]; exact fit_ints _ _
  refine ⟨⟨fT, fT⟩, ?_⟩
  rw [eqv_self 64 _ fT]
  exact q

abbrev s__law_refused : Stmt := topS 67
theorem sc__law_refused : FnScope ["clause", "box", "call", "odds"] ["clause", "box"] (defScope s__law_refused) := ⟨rfl, rfl, rfl, by decide +kernel, rfl, by decide +kernel, by decide +kernel⟩
def sp__law_refused (ex : Str → Value) (Ps : List Addr) : DSpec := fun ds M Q _ => ∃ (c : Cl) (l r : Int), ds = [c.d, boxD l r] ∧ c.Ok ∧ Box l r ∧ TM Ps nmL M ∧ Q (.bl true) M
theorem ok__law_refused (T : Here K mg "_law_refused" ["clause", "box"] s__law_refused) {cc__law_refused PP__law_refused : Addr} (cd : CodeAt K mg "_law_refused" cc__law_refused) (tb__law_refused : TabB base mg cc__law_refused PP__law_refused) (pm : PP__law_refused ∈ Ps) (c__law_error : ∀ (base' : Heap) (f : Addr) (sp : DSpec), Up K mg base base' → FnV P w K mg base' 81 0 f sp → DFn P w K mg base' 82 "_law_error" 1 (G_error K ex f sp)) (c__law_all_refused : ∀ (base' : Heap) (f : Addr) (sp : DSpec), Up K mg base base' → FnV P w K mg base' 80 1 f sp → DFn P w K mg base' 83 "_law_all_refused" 3 (G_all K ex PP__law_all_refused nmL f sp)) (pm_all : PP__law_all_refused ∈ Ps) (c_worst : DFn P w K mg base 74 "worst" 4 (sp_worst ex)) (c_foe_days : DFn P w K mg base 74 "foe_days" 4 (sp_foe_days ex)) (c__law_bad_clauses : DFn P w K mg base 3 "_law_bad_clauses" 0 sp__law_bad_clauses) (c__law_bad_boxes : DFn P w K mg base 2 "_law_bad_boxes" 0 sp__law_bad_boxes) : DFn P w K mg base 84 "_law_refused" 2 (sp__law_refused ex Ps) := by
  obtain ⟨f_worst, m_worst, k_worst, v_worst⟩ := FnV.of c_worst
  obtain ⟨f_foe_days, m_foe_days, k_foe_days, v_foe_days⟩ := FnV.of c_foe_days
  have v_call : ∀ g s, ((g = f_worst ∧ s = sp_worst ex) ∨ (g = f_foe_days ∧ s = sp_foe_days ex)) → FnV P w K mg base 79 4 g s := fun g s h => by
    rcases h with ⟨rfl, rfl⟩ | ⟨rfl, rfl⟩
    · exact v_worst.mono (by decide)
    · exact v_foe_days.mono (by decide)
  refine DFn.hereC (k := 83) T cd sc__law_refused (fun f cdv A outer s H E hc hX => (dss_cons (ds_for hX (di_seq (de_tup (da_cons (de_fnv m_worst) (da_cons (de_fnv m_foe_days) da_nil)))) (dg_nm hX 2) (dss_cons (ds_if (dt_not (dt_val (de_callL (nm := nmL) (ps := ["odd"]) (fr := ["call"]) (js := [2]) (Nl := ["odd", "call"]) (kl := 79) hX nfc_cx tb__law_refused hc
        (fun _ _ _ _ _ _ _ _ _ _ u1 hX nf => (de_callV (K' := K) hX 1 (fun f s h => (v_call f s h).up u1) (da_cons (dv 0) (da_cons dnon (da_cons dnon (da_cons dnon da_nil))))))
        (fun base' f sp u' V => c__law_all_refused base' f sp u' V) (da_cons (de_call0 hX c__law_bad_clauses) (da_cons dstr da_nil)) (nscope_by (by decide +kernel)) (hb := fun _ _ _ _ _ us hl => match us, hl with | [_], _ => rfl)))) (dss_one (ds_ret dbl)) dss_nil)
      (dss_cons (ds_if (dt_not (dt_val (de_callL (nm := nmL) (ps := ["odd"]) (fr := ["clause", "call"]) (js := [0, 2]) (Nl := ["odd", "clause", "call"]) (kl := 79) hX nfc_cx tb__law_refused hc
        (fun _ _ _ _ _ _ _ _ _ _ u1 hX nf => (de_callV (K' := K) hX 2 (fun f s h => (v_call f s h).up u1) (da_cons (dv 1) (da_cons (dv 0) (da_cons dnon (da_cons dnon da_nil))))))
        (fun base' f sp u' V => c__law_all_refused base' f sp u' V) (da_cons (de_call0 hX c__law_bad_boxes) (da_cons dstr da_nil)) (nscope_by (by decide +kernel)) (hb := fun _ _ _ _ _ us hl => match us, hl with | [_], _ => rfl)))) (dss_one (ds_ret dbl)) dss_nil)
      (dss_cons (ds_set hX 3 (de_lst (da_cons (de_sub (de_ix (dv 1) dint) dint) (da_cons (de_add (de_ix (dv 1) dint) dint) (da_cons dnon (da_cons dbl da_nil))))))
      (dss_cons (ds_if (dt_not (dt_val (de_callL (nm := nmL) (ps := ["odd"]) (fr := ["clause", "box", "call"]) (js := [0, 1, 2]) (Nl := ["odd", "clause", "box", "call"]) (kl := 79) hX nfc_cx tb__law_refused hc
        (fun _ _ _ _ _ _ _ _ _ _ u1 hX nf => (de_callV (K' := K) hX 3 (fun f s h => (v_call f s h).up u1) (da_cons (dv 1) (da_cons (dv 2) (da_cons (dv 0) (da_cons dnon da_nil))))))
        (fun base' f sp u' V => c__law_all_refused base' f sp u' V) (da_cons (dv 3) (da_cons dstr da_nil)) (nscope_by (by decide +kernel)) (hb := fun _ _ _ _ _ us hl => match us, hl with | [_], _ => rfl)))) (dss_one (ds_ret dbl)) dss_nil)
      (dss_cons (ds_if (dt_not (dt_val (de_callL (nm := nmL) (ps := ["odd"]) (fr := ["clause", "box", "call"]) (js := [0, 1, 2]) (Nl := ["odd", "clause", "box", "call"]) (kl := 79) hX nfc_cx tb__law_refused hc
        (fun _ _ _ _ _ _ _ _ _ _ u1 hX nf => (de_callV (K' := K) hX 3 (fun f s h => (v_call f s h).up u1) (da_cons (dv 1) (da_cons (dv 2) (da_cons (de_ix (dv 2) (dint (i := 1))) (da_cons (dv 0) da_nil))))))
        (fun base' f sp u' V => c__law_all_refused base' f sp u' V) (da_cons (de_lst (da_cons (de_neg dint) (da_cons dint (da_cons dbl (da_cons dnon da_nil))))) (da_cons dstr da_nil)) (nscope_by (by decide +kernel)) (hb := fun _ _ _ _ _ us hl => match us, hl with | [_], _ => rfl)))) (dss_one (ds_ret dbl)) dss_nil)
      (dss_one (ds_if (dt_ne hX (de_callL (nm := nmL) (ps := []) (fr := ["clause", "call"]) (js := [0, 2]) (Nl := ["clause", "call"]) (kl := 80) hX nfc_cx tb__law_refused hc
        (fun _ _ _ _ _ _ _ _ _ _ u1 hX nf => (de_callV (K' := K) hX 1 (fun f s h => (v_call f s h).up u1) (da_cons (dv 0) (da_cons (de_tup (da_cons (dint (i := 0)) (da_cons (dint (i := 21)) da_nil))) (da_cons (dint (i := 21)) (da_cons (dint (i := 1)) da_nil))))))
        (fun base' f sp u' V => c__law_error base' f sp u' V) da_nil (nscope_by (by decide +kernel)) (hb := fun _ _ _ _ _ us hl => match us, hl with | [], _ => rfl)) dstr) (dss_one (ds_ret dbl)) dss_nil))))))))
      (dss_one (ds_ret dbl)))) (fun ds M Q Ed hl hs => ?_)
  obtain ⟨c, l, r, rfl, hc, hb, tm, q⟩ := hs
  have hP := tm _ pm
  have hA := tm _ pm_all
  have fc := fit_cl hc
  have fb := fit_box l r
  have kc := isClauseD_ok hc
  have kb := hb.ok
  have up : ∀ {d : D}, D.fit 63 d = true → D.fit 64 d = true := fun h => fit_up h (by decide)
  refine ⟨sl, ?_⟩
  refine ⟨fun i δ' M' => (∃ x y, δ' = ⟨[some c.d, some (boxD l r), x, y], Ed⟩) ∧ M' = M, ⟨⟨_, _, rfl⟩, rfl⟩, fun i d δ' M' hd ⟨⟨x, y, e1⟩, e2⟩ => ?_, fun δ' M' ⟨⟨x, y, e1⟩, e2⟩ => ?_⟩
  · subst e1; subst e2
    obtain ⟨f, s, rfl, hS, hl, need⟩ : ∃ f s, d = .ref f ∧ ((f = f_worst ∧ s = sp_worst ex) ∨ (f = f_foe_days ∧ s = sp_foe_days ex)) ∧ Lv K f M' ∧
        ∀ vc vb vf vs e N (Q : DK) (Ed : Value → Mem → Prop), (D.fit 64 vc = true ∧ D.fit 64 vb = true ∧ D.fit 64 vf = true ∧ D.fit 64 vs = true) → foeE vc vb vf vs = some e → Ed (ex e) N → s [vc, vb, vf, vs] N Q Ed := by
      have hd := List.mem_of_getElem? hd
      simp only [List.mem_cons, List.not_mem_nil, or_false] at hd
      rcases hd with rfl | rfl
      · exact ⟨_, _, rfl, .inl ⟨rfl, rfl⟩, .inl k_worst, fun vc vb vf vs e N Q Ed h1 h2 h3 => .inr ⟨vc, vb, vf, vs, e, rfl, h1, h2, h3⟩⟩
      · exact ⟨_, _, rfl, .inr ⟨rfl, rfl⟩, .inl k_foe_days, fun vc vb vf vs e N Q Ed h1 h2 h3 => .inr ⟨vc, vb, vf, vs, e, rfl, h1, h2, h3⟩⟩
    refine ⟨hP, fun g κ hg => ⟨rfl, ?_⟩⟩
    show _ ∧ _ ∧ _
    refine G_all_i (nm := _) hg hA rfl (by decide) (by decide +kernel) (fun o ho M1 Q' Ed' hx hE => ?_) ?_
    · have ⟨h1, h2⟩ := badC_no o ho
      refine ⟨f, s, hS, rfl, hl.ext hx, hl.ext hx, rfl, need _ _ _ _ "InvalidClause" _ _ _ ⟨up h1, rfl, rfl, rfl⟩ ?_ (hE 0 _ (by decide) rfl (by decide +kernel))⟩
      exact foeE_c h2
    refine fun M3 e3 => ?_
    cases e3.trans (delM_updM hg)
    refine ⟨hP, fun g κ hg => ⟨rfl, ?_⟩⟩
    show _ ∧ _ ∧ _
    refine G_all_i (nm := _) hg hA rfl (by decide) (by decide +kernel) (fun o ho M1 Q' Ed' hx hE => ?_) ?_
    · have ⟨h1, h2⟩ := badB_no o ho
      refine ⟨f, s, hS, rfl, hl.ext hx, hl.ext hx, rfl, need _ _ _ _ "InvalidBox" _ _ _ ⟨fc, up h1, rfl, rfl⟩ (foeE_b kc h2) (hE 1 _ (by decide) rfl (by decide +kernel))⟩
    refine fun M3 e3 => ?_
    cases e3.trans (delM_updM hg)
    refine ⟨sl, ?_⟩
    refine ⟨hP, fun g κ hg => ?_⟩
    show _ ∧ _ ∧ _
    refine G_all_i (nm := _) hg hA rfl (Nat.le_of_ble_eq_true rfl) (by decide +kernel) (fun o ho M1 Q' Ed' hx hE => ?_) ?_
    · have ⟨h1, h2⟩ : D.fit 63 o = true ∧ isWholeD o r (r + 40) = false := by
        simp only [List.mem_cons, List.not_mem_nil, or_false] at ho
        rcases ho with rfl | rfl | rfl | rfl
        · exact ⟨rfl, by show (decide (r ≤ r - 1) && _) = false; rw [decide_eq_false (by omega)]; rfl⟩
        · exact ⟨rfl, by show (_ && decide (r + 41 ≤ r + 40)) = false; rw [decide_eq_false (show ¬ r + 41 ≤ r + 40 by omega)]; exact Bool.and_false _⟩
        · exact ⟨rfl, rfl⟩
        · exact ⟨rfl, rfl⟩
      exact ⟨f, s, hS, rfl, hl.ext hx, hl.ext hx, rfl, need _ _ _ _ "InvalidDay" _ _ _ ⟨fc, fb, up h1, rfl⟩ (foeE_p kc kb h2) (hE 3 _ (by decide) rfl (by decide +kernel))⟩
    refine fun M3 e3 => ?_
    cases e3.trans (delM_updM hg)
    have kp : isWholeD (.int r) r (r + 40) = true := isWhole_ok ⟨Int.le_refl _, by omega⟩
    refine ⟨hP, fun g κ hg => ⟨sl, ?_⟩⟩
    show _ ∧ _ ∧ _
    refine G_all_i (nm := _) hg hA rfl (Nat.le_of_ble_eq_true rfl) (by decide +kernel) (fun o ho M1 Q' Ed' hx hE => ?_) ?_
    · have ⟨h1, h2⟩ : D.fit 63 o = true ∧ isWholeD o 0 6 = false := by
        simp only [List.mem_cons, List.not_mem_nil, or_false] at ho
        rcases ho with rfl | rfl | rfl | rfl
        · exact ⟨rfl, rfl⟩
        · exact ⟨rfl, rfl⟩
        · exact ⟨rfl, rfl⟩
        · exact ⟨rfl, rfl⟩
      exact ⟨f, s, hS, rfl, hl.ext hx, hl.ext hx, rfl, need _ _ _ _ "InvalidNumber" _ _ _ ⟨fc, fb, rfl, up h1⟩ (foeE_m kc kb kp h2) (hE 5 _ (by decide) rfl (by decide +kernel))⟩
    refine fun M3 e3 => ?_
    cases e3.trans (delM_updM hg)
    have kb2 : isBoxD (boxD 0 21) = true := Box.ok ⟨by decide, by decide, by decide⟩
    have hx : ∀ {g : Addr} {κ : Clo} {s : List (Option D)}, M' g = none → MExt M' (updM M' g (.clo κ s)) := fun hg => MExt.upd hg
    refine ⟨hP, fun g κ hg => ⟨updM_same, rfl, rfl, .inr ⟨κ, _, updM_same⟩, updM_same, f, s, hS, rfl, hl.ext (hx hg), sl, hl.ext (hx hg), rfl, need _ _ _ _ "InvalidDay" _ _ _ ⟨fc, fit_box 0 21, rfl, rfl⟩ (foeE_w kc kb2 rfl rfl rfl) ⟨3, "InvalidDay", by decide, rfl, rfl, fun M3 e3 => ?_⟩⟩⟩
    cases e3.trans (delM_updM hg)
    exact ⟨⟨by decide +kernel, by decide +kernel⟩, onT_i (fun h => absurd h (by decide +kernel)) (fun _ => ⟨⟨_, _, rfl⟩, rfl⟩)⟩
  · subst e1; subst e2
    exact q

abbrev s_law : Stmt := topS 68
theorem sc_law : FnScope ["script", "k", "vat", "turn", "one", "landed", "two", "plan", "many", "some", "found", "told", "a", "b", "c", "hits"] ["script"] (defScope s_law) := ⟨rfl, rfl, rfl, by decide +kernel, rfl, by decide +kernel, by decide +kernel⟩
theorem cl1_cnt (late w s : Bool) : cl1.cnt late w s = true := by cases late <;> cases w <;> cases s <;> rfl
theorem cl1_days (S : List Int) (n : Nat) (lo : Int) : 0 ≤ (dayFold cl1 S (2, 0) lo (n + 2)).2 ∧ (dayFold cl1 S (2, 0) lo (n + 2)).2 ≤ n := by
  have e : dayFold cl1 S (2, 0) lo (n + 2) = dayFold cl1 S (0, 0) (lo + 1 + 1) n := by
    unfold dayFold
    rw [daysL_cons, daysL_cons]
    show (daysL (lo + 1 + 1) n).foldl (dayStep cl1 S) (dayStep cl1 S (dayStep cl1 S (2, 0) lo) (lo + 1)) = _
    have s1 : dayStep cl1 S (2, 0) lo = (1, 0) := by unfold dayStep; rw [cl1_cnt]; rfl
    have s2 : dayStep cl1 S (1, 0) (lo + 1) = (0, 0) := by unfold dayStep; rw [cl1_cnt]; rfl
    rw [s1, s2]
  rw [e, dayFold_late]
  have := cntLate_range cl1 S (lo + 1 + 1) n
  exact ⟨by show 0 ≤ 0 + _; omega, by show 0 + _ ≤ _; omega⟩
theorem cl1_sum : ∀ n : Nat, sumF cl1.steps n = n
  | 0 => rfl
  | n + 1 => by
    rw [sumF_succ, cl1_sum n]
    have : priceF cl1.steps (1 + (n : Nat)) = 1 := by
      show (if (1 : Int) ≤ 1 + (n : Nat) then (1 : Int) else 0) = 1
      rw [if_pos (by omega)]
    rw [this]
    omega
theorem w44 : (worstC cl1 0 0 40 6).1 = 44 := by
  have ok1 : Cl.Ok cl1 := by decide
  have h := worst_is ok1 (l := 0) (r := 0) (pl := 40) (many := 6) (by decide) (by decide) (by decide)
  have hF : Fin [40, 41, 42, 43, 44, 45] 40 46 := ⟨by decide, by decide, fun d h1 h2 => hit_iff.mpr (by
    have : d = 40 ∨ d = 41 ∨ d = 42 ∨ d = 43 ∨ d = 44 ∨ d = 45 := by omega
    simpa using this)⟩
  have a := h.over [40, 41, 42, 43, 44, 45] (by decide) (by decide) (by decide) 46 hF
  have a2 : lawCost cl1 0 0 46 [40, 41, 42, 43, 44, 45] = 44 := by decide +kernel
  rw [a2] at a
  obtain ⟨f, hf⟩ := fin_ex (worstC cl1 0 0 40 6).2 40
  have b := h.at_ f hf
  have f1 := hf.le
  have f2 := hf.ge
  have f3 := h.len
  have d := cl1_days (worstC cl1 0 0 40 6).2 (f - 2).toNat (0 + 1)
  have e : lawCost cl1 0 0 f (worstC cl1 0 0 40 6).2 = (dayFold cl1 (worstC cl1 0 0 40 6).2 (2, 0) (0 + 1) ((f - 2).toNat + 2)).2 := by
    show sumF cl1.steps (dayFold cl1 (worstC cl1 0 0 40 6).2 (2, 0) (0 + 1) (f - 0).toNat).2.toNat = _
    rw [cl1_sum, show (f - 0).toNat = (f - 2).toNat + 2 by omega]
    omega
  rw [e] at b
  omega
theorem wv1 : (worstC cl1 0 0 3 0).1 = 1 ∧ (worstC cl1 0 0 3 2).1 = 3 ∧ (worstC cl2 0 0 3 1).1 = 2 ∧ (worstC cl2 0 0 4 1).1 = 4 := by decide +kernel
theorem wv2 : (worstC cl3 0 0 1 1).1 = 6 ∧ (worstC cl3 0 0 1 3).1 = 6 := by decide +kernel
theorem wv3 : (worstC cl1 0 0 3 2).2 = [3, 4] ∧ (worstC cl1 0 0 3 0).2 = [] ∧ (worstC cl3 5 5 5 6).1 = 0 := by decide +kernel
theorem wv4 : (worstC cl3 0 20 20 1).1 = 21 := by decide +kernel
theorem VatAt.mx {M M' : Mem} {p : Addr} (h : VatAt M p) (e : MExt M M') : VatAt M' p := by
  obtain ⟨a, b, h⟩ := h
  exact ⟨a, b, e _ _ h⟩
theorem TM.mx {Ps : List Addr} {nm : Nat → Nat → Str} {M M' : Mem} (t : TM Ps nm M) (e : MExt M M') : TM Ps nm M' := fun P h => e _ _ (t P h)
def sp_law (Ps : List Addr) : DSpec := spLawT Ps nmL
theorem ok_law {f : Addr} {fd : FuncData} (F : Fun K "law" "law" s_law f fd) (hm : mg "law" = some (.ref f)) (b_len : mg "len" = none) (b_max : mg "max" = none) (b_min : mg "min" = none) (b_range : mg "range" = none) (c_worst : DFn P w K mg base 74 "worst" 4 (sp_worst ex)) (c_foe_days : DFn P w K mg base 74 "foe_days" 4 (sp_foe_days ex)) (c__law_vat : DFn P w K mg base 2 "_law_vat" 2 sp__law_vat) (c__law_under : DFn P w K mg base 2 "_law_under" 2 sp__law_under) (c__law_some : DFn P w K mg base 3 "_law_some" 2 sp__law_some) (c__law_clause : DFn P w K mg base 4 "_law_clause" 1 sp__law_clause) (c__law_known : DFn P w K mg base 2 "_law_known" 0 sp__law_known) (c__law_plan_cost : DFn P w K mg base 5 "_law_plan_cost" 4 sp__law_plan_cost) (c__law_all_hits : DFn P w K mg base 2 "_law_all_hits" 3 sp__law_all_hits) (c__law_are_hits : DFn P w K mg base 3 "_law_are_hits" 3 sp__law_are_hits) (c__law_refused : DFn P w K mg base 84 "_law_refused" 2 (sp__law_refused ex Ps)) : FnOk P w K mg base (L2N.CX P w) 85 f fd ["script"] (DSp K 1 (sp_law Ps)) := by
  refine fn_core (k := 84) F sc_law (fun cdv A outer s H E hX => (dss_cons (ds_for hX (di_rng1 b_range (da_cons (de_max2 hX b_max (da_cons dint (da_cons (de_min2 hX b_min (da_cons dint (da_cons (de_len b_len (da_cons (dv 0) da_nil)) da_nil))) da_nil))) da_nil)) (dg_nm hX 1) (dss_cons (ds_set hX 2 (de_call hX c__law_vat (da_cons (dv 0) (da_cons (dv 1) da_nil))))
      (dss_cons (ds_for hX (di_rng1 b_range (da_cons dint da_nil)) (dg_nm hX 3) (dss_cons (ds_asg (de_tup (da_cons (de_call hX c__law_clause (da_cons (dv 2) da_nil)) (da_cons (de_add dint (de_call hX c__law_under (da_cons (dv 2) (da_cons dint da_nil)))) da_nil))) (dg_tup hX (dgs_cons (dg_nm hX 4) (dgs_cons (dg_nm hX 5) dgs_nil))))
      (dss_cons (ds_set hX 6 (de_tup (da_cons (dv 5) (da_cons (de_add (dv 5) (de_call hX c__law_some (da_cons (dv 2) (da_cons (de_lst (da_cons dint (da_cons dint (da_cons dint (da_cons dint da_nil))))) da_nil)))) da_nil))))
      (dss_cons (ds_asg (de_tup (da_cons (de_add (de_ix (dv 6) dint) (de_call hX c__law_under (da_cons (dv 2) (da_cons dint da_nil)))) (da_cons (de_call hX c__law_under (da_cons (dv 2) (da_cons dint da_nil))) da_nil))) (dg_tup hX (dgs_cons (dg_nm hX 7) (dgs_cons (dg_nm hX 8) dgs_nil))))
      (dss_cons (ds_setLc hX 9 (own := [("hits", 15)]) (blkOk_by (N := ["script", "k", "vat", "turn", "one", "landed", "two", "plan", "many", "some", "found", "told", "a", "b", "c", "hits"]) (sc := defScope s_law) (by decide +kernel)) (di_seq (de_call hX c__law_all_hits (da_cons (de_add (dv 5) dint) (da_cons (de_add (dv 7) (dv 8)) (da_cons (dv 8) da_nil))))) (fun _ _ _ _ _ hX => ⟨(dg_nm hX 15), dts_nil, (de_call hX c__law_plan_cost (da_cons (dv 4) (da_cons (dv 6) (da_cons (dv 7) (da_cons (dv 15) da_nil)))))⟩) (sw_true rfl rfl rfl (by decide +kernel)))
      (dss_cons (ds_set hX 10 (de_call hX c_foe_days (da_cons (dv 4) (da_cons (dv 6) (da_cons (dv 7) (da_cons (dv 8) da_nil))))))
      (dss_cons (ds_if (DW.dt (dw_or (dt_ne hX (de_call hX c_worst (da_cons (dv 4) (da_cons (dv 6) (da_cons (dv 7) (da_cons (dv 8) da_nil))))) (de_max1 hX b_max (da_cons (dv 9) da_nil))) (dw_or1 (dt_not (dt_val (de_call hX c__law_are_hits (da_cons (dv 10) (da_cons (dv 6) (da_cons (dv 8) da_nil))))))))) (dss_one (ds_ret dbl)) dss_nil)
      (dss_cons (ds_if (dt_ne hX (de_call hX c__law_plan_cost (da_cons (dv 4) (da_cons (dv 6) (da_cons (dv 7) (da_cons (dv 10) da_nil))))) (de_max1 hX b_max (da_cons (dv 9) da_nil))) (dss_one (ds_ret dbl)) dss_nil)
      (dss_cons (ds_asg (de_tup (da_cons (de_add (de_ix (dv 6) dint) (de_call hX c__law_under (da_cons (dv 2) (da_cons dint da_nil)))) (da_cons dint da_nil))) (dg_tup hX (dgs_cons (dg_nm hX 7) (dgs_cons (dg_nm hX 8) dgs_nil))))
      (dss_cons (ds_par hX 10 11 (da_cons (de_call hX c_foe_days (da_cons (dv 4) (da_cons (dv 6) (da_cons (dv 7) (da_cons (dv 8) da_nil))))) (da_cons (de_call hX c_worst (da_cons (dv 4) (da_cons (dv 6) (da_cons (dv 7) (da_cons (dv 8) da_nil))))) da_nil)))
      (dss_cons (ds_if (DW.dt (dw_or (dt_not (dt_val (de_call hX c__law_are_hits (da_cons (dv 10) (da_cons (dv 6) (da_cons (dv 8) da_nil)))))) (dw_or1 (dt_ne hX (de_call hX c__law_plan_cost (da_cons (dv 4) (da_cons (dv 6) (da_cons (dv 7) (da_cons (dv 10) da_nil))))) (dv 11))))) (dss_one (ds_ret dbl)) dss_nil)
      (dss_one (ds_if (DW.dt (dw_or (dt_lt (dv 11) (de_call hX c_worst (da_cons (dv 4) (da_cons (dv 6) (da_cons (dv 7) (da_cons dint da_nil)))))) (dw_or1 (dt_lt (dv 11) (de_call hX c__law_plan_cost (da_cons (dv 4) (da_cons (dv 6) (da_cons (dv 7) (da_cons (de_tup da_nil) da_nil))))))))) (dss_one (ds_ret dbl)) dss_nil)))))))))))))
      (dss_one (ds_if (dt_not (dt_val (de_call hX c__law_refused (da_cons (dv 4) (da_cons (dv 6) da_nil))))) (dss_one (ds_ret dbl)) dss_nil)))))
      (dss_cons (ds_asg (de_call0 hX c__law_known) (dg_tup hX (dgs_cons (dg_nm hX 12) (dgs_cons (dg_nm hX 13) (dgs_cons (dg_nm hX 14) dgs_nil)))))
      (dss_cons (ds_set hX 9 (de_lst (da_cons (de_call hX c_worst (da_cons (dv 12) (da_cons (de_tup (da_cons dint (da_cons dint da_nil))) (da_cons dint (da_cons dint da_nil))))) (da_cons (de_call hX c_worst (da_cons (dv 12) (da_cons (de_tup (da_cons dint (da_cons dint da_nil))) (da_cons dint (da_cons dint da_nil))))) (da_cons (de_call hX c_worst (da_cons (dv 13) (da_cons (de_tup (da_cons dint (da_cons dint da_nil))) (da_cons dint (da_cons dint da_nil))))) (da_cons (de_call hX c_worst (da_cons (dv 13) (da_cons (de_tup (da_cons dint (da_cons dint da_nil))) (da_cons dint (da_cons dint da_nil))))) da_nil))))))
      (dss_cons (ds_if (DW.dt (dw_or (dt_ne hX (dv 9) (de_lst (da_cons dint (da_cons dint (da_cons dint (da_cons dint da_nil)))))) (dw_or1 (dt_ne hX (de_lst (da_cons (de_call hX c_worst (da_cons (dv 14) (da_cons (de_tup (da_cons dint (da_cons dint da_nil))) (da_cons dint (da_cons dint da_nil))))) (da_cons (de_call hX c_worst (da_cons (dv 14) (da_cons (de_tup (da_cons dint (da_cons dint da_nil))) (da_cons dint (da_cons dint da_nil))))) da_nil))) (de_lst (da_cons dint (da_cons dint da_nil))))))) (dss_one (ds_ret dbl)) dss_nil)
      (dss_cons (ds_if (DW.dt (dw_or (dt_ne hX (de_call hX c_foe_days (da_cons (dv 12) (da_cons (de_tup (da_cons dint (da_cons dint da_nil))) (da_cons dint (da_cons dint da_nil))))) (de_tup (da_cons dint (da_cons dint da_nil)))) (dw_or (dt_ne hX (de_call hX c_foe_days (da_cons (dv 12) (da_cons (de_tup (da_cons dint (da_cons dint da_nil))) (da_cons dint (da_cons dint da_nil))))) (de_tup da_nil)) (dw_or1 (dt_ne hX (de_call hX c_worst (da_cons (dv 14) (da_cons (de_tup (da_cons dint (da_cons dint da_nil))) (da_cons dint (da_cons dint da_nil))))) dint))))) (dss_one (ds_ret dbl)) dss_nil)
      (dss_one (ds_ret (de_and (de_eq hX (de_call hX c_worst (da_cons (dv 12) (da_cons (de_tup (da_cons dint (da_cons dint da_nil))) (da_cons dint (da_cons dint da_nil))))) dint) (de_one (de_eq hX (de_call hX c_worst (da_cons (dv 14) (da_cons (de_tup (da_cons dint (da_cons dint da_nil))) (da_cons dint (da_cons dint da_nil))))) dint))))))))))) (fun ds M Q Ed hl hs => ?_)
  have big : sizeLine = 16777216 := rfl
  have hF30 : (10 : Int) ^ 30 = 1000000000000000000000000000000 := by decide
  obtain ⟨ns, rfl, hn, tm, q⟩ := hs
  refine ⟨⟨by repeat' split <;> omega, by repeat' split <;> omega⟩, ?_⟩
  refine ⟨fun i δ' M' => (∃ x1 x2 x3 x4 x5 x6 x7 x8 x9 x10 x11 x12 x13 x14 x15, δ' = ⟨[some (.fro (ns.map D.int)), x1, x2, x3, x4, x5, x6, x7, x8, x9, x10, x11, x12, x13, x14, x15], Ed⟩) ∧ TM Ps nmL M', ⟨⟨_, _, _, _, _, _, _, _, _, _, _, _, _, _, _, rfl⟩, tm⟩, fun i d δ' M' hd ⟨⟨x1, x2, x3, x4, x5, x6, x7, x8, x9, x10, x11, x12, x13, x14, x15, e1⟩, tm⟩ => ?_, fun δ' M' ⟨⟨x1, x2, x3, x4, x5, x6, x7, x8, x9, x10, x11, x12, x13, x14, x15, e1⟩, tm⟩ => ?_⟩
  · subst e1
    obtain ⟨hi, rfl⟩ := rngD_get hd
    refine ⟨rfl, ns, _, rfl, by omega, fun p a b hp => ?_⟩
    have tm := tm.new (o := vatO a b) hp
    refine ⟨⟨by decide, by decide⟩, fun i δ' M' => (∃ x3 o x5 t x7 x8 x9 x10 x11 x12 x13 x14 x15, δ' = ⟨[some (.fro (ns.map D.int)), _, some (.ref p), x3, o, x5, t, x7, x8, x9, x10, x11, x12, x13, x14, x15], Ed⟩ ∧ (0 < i → ∃ (c : Cl) (l r : Int), o = some c.d ∧ t = some (boxD l r) ∧ c.Ok ∧ Box l r)) ∧ VatAt M' p ∧ TM Ps nmL M', ⟨⟨_, _, _, _, _, _, _, _, _, _, _, _, _, rfl, fun h => absurd h (Nat.lt_irrefl _)⟩, .upd, tm⟩, fun i d δ' M' hd ⟨⟨x3, o, x5, t, x7, x8, x9, x10, x11, x12, x13, x14, x15, e1, _⟩, hv, tm⟩ => ?_, fun δ' M' ⟨⟨x3, o, x5, t, x7, x8, x9, x10, x11, x12, x13, x14, x15, e1, hot⟩, hv, tm⟩ => ?_⟩
    · subst e1
      obtain ⟨hi, rfl⟩ := rngD_get hd
      refine ⟨rfl, p, rfl, hv, fun c M2 hc e2 => ⟨rfl, p, 9, rfl, ⟨by decide, by decide⟩, e2.1, fun l0 M3 l00 l01 e3 => ?_⟩⟩
      obtain ⟨l, el⟩ : ∃ l : Int, l = 1 + l0 := ⟨_, rfl⟩
      refine ⟨sl, sl, rfl, p, _, rfl, few, e3.1, fun y M4 hy e4 => ?_⟩
      obtain ⟨y, rfl, y0, y1⟩ : ∃ y' : Int, y = .int y' ∧ 0 ≤ y' ∧ y' ≤ 2 := by
        simp only [List.mem_cons, List.not_mem_nil, or_false] at hy
        rcases hy with rfl | rfl | rfl | rfl
        · exact ⟨0, rfl, by decide, by decide⟩
        · exact ⟨0, rfl, by decide, by decide⟩
        · exact ⟨1, rfl, by decide, by decide⟩
        · exact ⟨2, rfl, by decide, by decide⟩
      refine ⟨sl, ?_⟩
      refine ⟨rfl, p, 7, rfl, ⟨by decide, by decide⟩, e4.1, fun u M5 u0 u1 e5 => ⟨rfl, p, 4, rfl, ⟨by decide, by decide⟩, e5.1, fun m M6 m0 m1 e6 => ?_⟩⟩
      rw [← el]
      obtain ⟨r, er⟩ : ∃ r : Int, r = l + y := ⟨_, rfl⟩
      rw [← er]
      obtain ⟨pl, ep⟩ : ∃ pl : Int, pl = r + u := ⟨_, rfl⟩
      rw [← ep]
      have tm6 := ((((tm.ex hv e2).ex e2.1 e3).ex e3.1 e4).ex e4.1 e5).ex e5.1 e6
      have hb : Box l r := ⟨by omega, by omega, by omega⟩
      have hin : FoeIn c l r pl m := ⟨hc, hb, by omega, ⟨by omega, by omega⟩, ⟨by omega, by omega⟩⟩
      have hW := worst_is hc (l := l) (r := r) (pl := pl) (many := m) (by omega) (by omega) (by omega)
      obtain ⟨W, eW⟩ : ∃ W, W = (worstC c l r pl m).1 := ⟨_, rfl⟩
      obtain ⟨T, eT⟩ : ∃ T, T = (worstC c l r pl m).2 := ⟨_, rfl⟩
      rw [← eW, ← eT] at hW
      have hm6 : m ≤ 6 := by omega
      have hTl := hW.len
      obtain ⟨n, en⟩ : ∃ n : Nat, n = (pl + m + 1 - (l + 1)).toNat := ⟨_, rfl⟩
      have pw : (2 : Nat) ^ 13 = 8192 := by decide
      have n13 : n ≤ 13 := by omega
      have hl1 := hits_len (l + 1) m n
      have hl2 : 2 ^ n ≤ 2 ^ 13 := Nat.pow_le_pow_right (by decide) n13
      have hok := hits_ok (l + 1) m m0 n
      have ina : T ∈ hitsL (l + 1) m n := hits_all (l + 1) m n T hW.up (fun s hs => by have := hW.mem s hs; omega) (by omega)
      refine ⟨sl, rfl, l + 1, pl + m, m, rfl, ⟨by omega, by omega, by omega, by omega⟩, ⟨by omega, by omega⟩, ?_⟩
      show LcGoal ((hitsL (l + 1) m (pl + m + 1 - (l + 1)).toNat).map tupI) _ _ _ _ _ _ _
      rw [← en]
      refine lc_on (f := tupI) (fun S => D.int (lawCost c l r (finC S pl) S)) (by omega) (fun S hS Y hY => ?_) ?_
      · have h3 := (hok S hS).2.2
        refine ⟨rfl, c, l, r, pl, S, rfl, hc, ⟨by omega, by omega, by omega, by omega⟩, by omega, fun f hf => ?_⟩
        rw [Fin.uniq hf (finC_is S pl)]
        exact hY
      have em : (hitsL (l + 1) m n).map (fun S => D.int (lawCost c l r (finC S pl) S)) = ((hitsL (l + 1) m n).map fun S => lawCost c l r (finC S pl) S).map D.int := by rw [List.map_map]; rfl
      rw [em]
      have hmax : ∀ mx, mx ∈ ((hitsL (l + 1) m n).map fun S => lawCost c l r (finC S pl) S) → (∀ z, z ∈ ((hitsL (l + 1) m n).map fun S => lawCost c l r (finC S pl) S) → z ≤ mx) → mx = W := fun mx h1 h2 => by
        obtain ⟨S, hS, rfl⟩ := List.mem_map.mp h1
        obtain ⟨g1, g2, g3⟩ := hok S hS
        have a := hW.over S g1 (fun s hs => by have := g2 s hs; omega) g3 _ (finC_is S pl)
        have b := h2 _ (List.mem_map.mpr ⟨T, ina, rfl⟩)
        rw [hW.at_ _ (finC_is T pl)] at b
        omega
      have hpos : 0 < ((hitsL (l + 1) m n).map fun S => lawCost c l r (finC S pl) S).length := by
        rw [List.length_map]
        exact List.length_pos_of_mem ina
      generalize ((hitsL (l + 1) m n).map fun S => lawCost c l r (finC S pl) S) = costsL at hmax hpos
      refine ⟨rfl, .inl ⟨c, l, r, pl, m, rfl, hin, fun M7 x7 => ?_⟩⟩
      rw [← eT]
      refine ⟨rfl, .inl ⟨c, l, r, pl, m, rfl, hin, fun M8 x8 => ?_⟩⟩
      rw [← eW]
      refine onO_i (intsD_map costsL) ⟨hpos, fun mx h1 h2 => ?_⟩
      cases hmax mx h1 h2
      refine ⟨⟨fit_int _ _, fit_int _ _⟩, onT_i (fun h => absurd h ?_) (fun _ => ?_)⟩
      · rw [eqv_self 64 _ (fit_int _ _)]; decide
      refine ⟨rfl, T, l, r, m, rfl, hW.up, fun s hs => by have := hW.mem s hs; omega, by omega, by omega, ?_⟩
      refine ⟨rfl, c, l, r, pl, T, rfl, hc, ⟨by omega, by omega, by omega, by omega⟩, by omega, fun f hf => ?_⟩
      rw [hW.at_ f hf]
      refine onO_i (intsD_map costsL) ⟨hpos, fun mx h1 h2 => ?_⟩
      cases hmax mx h1 h2
      refine ⟨⟨fit_int _ _, fit_int _ _⟩, onT_i (fun h => absurd h ?_) (fun _ => ?_)⟩
      · rw [eqv_self 64 _ (fit_int _ _)]; decide
      have v8 := (e6.1.mx x7).mx x8
      have tm8 := (tm6.mx x7).mx x8
      refine ⟨rfl, p, 41, rfl, ⟨by decide, by decide⟩, v8, fun u2 M9 u20 u21 e9 => ?_⟩
      have tm9 := tm8.ex v8 e9
      refine ⟨sl, ?_⟩
      obtain ⟨pl2, ep2⟩ : ∃ pl2 : Int, pl2 = r + u2 := ⟨_, rfl⟩
      rw [← ep2]
      have hin6 : FoeIn c l r pl2 6 := ⟨hc, hb, by omega, ⟨by omega, by omega⟩, ⟨by decide, by decide⟩⟩
      have hin5 : FoeIn c l r pl2 5 := ⟨hc, hb, by omega, ⟨by omega, by omega⟩, ⟨by decide, by decide⟩⟩
      have hW6 := worst_is hc (l := l) (r := r) (pl := pl2) (many := 6) (by omega) (by omega) (by omega)
      have hW5 := worst_is hc (l := l) (r := r) (pl := pl2) (many := 5) (by omega) (by omega) (by omega)
      obtain ⟨W6, eW6⟩ : ∃ W, W = (worstC c l r pl2 6).1 := ⟨_, rfl⟩
      obtain ⟨T6, eT6⟩ : ∃ T, T = (worstC c l r pl2 6).2 := ⟨_, rfl⟩
      obtain ⟨W5, eW5⟩ : ∃ W, W = (worstC c l r pl2 5).1 := ⟨_, rfl⟩
      rw [← eW6, ← eT6] at hW6
      rw [← eW5] at hW5
      have t6 : T6.length ≤ 6 := hW6.len
      refine ⟨rfl, .inl ⟨c, l, r, pl2, 6, rfl, hin6, fun M10 x10 => ?_⟩⟩
      rw [← eT6]
      refine ⟨rfl, .inl ⟨c, l, r, pl2, 6, rfl, hin6, fun M11 x11 => ?_⟩⟩
      rw [← eW6]
      refine ⟨rfl, T6, l, r, 6, rfl, hW6.up, fun s hs => by have := hW6.mem s hs; omega, by omega, by omega, ?_⟩
      refine ⟨rfl, c, l, r, pl2, T6, rfl, hc, ⟨by omega, by omega, by omega, by omega⟩, by omega, fun f hf => ?_⟩
      rw [hW6.at_ f hf]
      refine ⟨⟨fit_int _ _, fit_int _ _⟩, onT_i (fun h => absurd h ?_) (fun _ => ?_)⟩
      · rw [eqv_self 64 _ (fit_int _ _)]; decide
      refine ⟨rfl, .inl ⟨c, l, r, pl2, 5, rfl, hin5, fun M12 x12 => ?_⟩⟩
      rw [← eW5]
      have le5 : W5 ≤ W6 := by
        have := hW6.over _ hW5.up (fun s hs => (hW5.mem s hs).1) (Nat.le_trans hW5.len (by decide)) _ (finC_is _ pl2)
        rwa [hW5.at_ _ (finC_is _ pl2)] at this
      refine onT_i (b := decide (W6 < W5)) (fun h => absurd (of_decide_eq_true h) (by omega)) (fun _ => ?_)
      refine ⟨sl, rfl, c, l, r, pl2, [], rfl, hc, ⟨by omega, by omega, by omega, by omega⟩, by decide, fun f hf => ?_⟩
      have le0 := hW6.over [] .nil (fun s h => by cases h) (by decide) f hf
      refine onT_i (b := decide (W6 < lawCost c l r f [])) (fun h => absurd (of_decide_eq_true h) (by omega)) (fun _ => ?_)
      have xx := (x10.trans x11).trans x12
      exact ⟨⟨_, _, _, _, _, _, _, _, _, _, _, _, _, rfl, fun _ => ⟨c, l, r, rfl, rfl, hc, hb⟩⟩, e9.1.mx xx, tm9.mx xx⟩
    · subst e1
      obtain ⟨c, l, r, rfl, rfl, hc, hb⟩ := hot (by rw [rngD_len]; decide)
      exact ⟨rfl, c, l, r, rfl, hc, hb, tm, ⟨_, _, _, _, _, _, _, _, _, _, _, _, _, _, _, rfl⟩, tm⟩
  · subst e1
    have ok1 : Cl.Ok cl1 := by decide
    have ok2 : Cl.Ok cl2 := by decide
    have ok3 : Cl.Ok cl3 := by decide
    have inn : ∀ (c : Cl) (l r pl many : Int), c.Ok → 0 ≤ l → l ≤ r → r ≤ l + 20 → r ≤ 1000 → r ≤ pl → pl ≤ r + 40 → 0 ≤ many → many ≤ 6 → FoeIn c l r pl many := fun c l r pl many hc h1 h2 h3 h4 h5 h6 h7 h8 => ⟨hc, ⟨h1, h2, by omega⟩, h3, ⟨h5, h6⟩, ⟨h7, h8⟩⟩
    refine ⟨rfl, ?_⟩
    refine ⟨sl, rfl, .inl ⟨cl1, 0, 0, 3, 0, rfl, inn _ _ _ _ _ ok1 (by decide) (by decide) (by decide) (by decide) (by decide) (by decide) (by decide) (by decide), fun M1 x1 => ?_⟩⟩
    refine ⟨sl, rfl, .inl ⟨cl1, 0, 0, 3, 2, rfl, inn _ _ _ _ _ ok1 (by decide) (by decide) (by decide) (by decide) (by decide) (by decide) (by decide) (by decide), fun M2 x2 => ?_⟩⟩
    refine ⟨sl, rfl, .inl ⟨cl2, 0, 0, 3, 1, rfl, inn _ _ _ _ _ ok2 (by decide) (by decide) (by decide) (by decide) (by decide) (by decide) (by decide) (by decide), fun M3 x3 => ?_⟩⟩
    refine ⟨sl, rfl, .inl ⟨cl2, 0, 0, 4, 1, rfl, inn _ _ _ _ _ ok2 (by decide) (by decide) (by decide) (by decide) (by decide) (by decide) (by decide) (by decide), fun M4 x4 => ?_⟩⟩
    rw [wv1.1, wv1.2.1, wv1.2.2.1, wv1.2.2.2]
    refine ⟨sl, sl, ⟨rfl, rfl⟩, onT_i (fun h => absurd h (by decide)) (fun _ => ?_)⟩
    refine ⟨sl, rfl, .inl ⟨cl3, 0, 0, 1, 1, rfl, inn _ _ _ _ _ ok3 (by decide) (by decide) (by decide) (by decide) (by decide) (by decide) (by decide) (by decide), fun M5 x5 => ?_⟩⟩
    refine ⟨sl, rfl, .inl ⟨cl3, 0, 0, 1, 3, rfl, inn _ _ _ _ _ ok3 (by decide) (by decide) (by decide) (by decide) (by decide) (by decide) (by decide) (by decide), fun M6 x6 => ?_⟩⟩
    rw [wv2.1, wv2.2]
    refine ⟨sl, sl, ⟨rfl, rfl⟩, onT_i (fun h => absurd h (by decide)) (fun _ => ?_)⟩
    refine ⟨sl, rfl, .inl ⟨cl1, 0, 0, 3, 2, rfl, inn _ _ _ _ _ ok1 (by decide) (by decide) (by decide) (by decide) (by decide) (by decide) (by decide) (by decide), fun M7 x7 => ?_⟩⟩
    rw [wv3.1]
    refine ⟨sl, ⟨rfl, rfl⟩, onT_i (fun h => absurd h (by decide)) (fun _ => ?_)⟩
    refine ⟨sl, rfl, .inl ⟨cl1, 0, 0, 3, 0, rfl, inn _ _ _ _ _ ok1 (by decide) (by decide) (by decide) (by decide) (by decide) (by decide) (by decide) (by decide), fun M8 x8 => ?_⟩⟩
    rw [wv3.2.1]
    refine ⟨sl, ⟨rfl, rfl⟩, onT_i (fun h => absurd h (by decide)) (fun _ => ?_)⟩
    refine ⟨sl, rfl, .inl ⟨cl3, 5, 5, 5, 6, rfl, inn _ _ _ _ _ ok3 (by decide) (by decide) (by decide) (by decide) (by decide) (by decide) (by decide) (by decide), fun M9 x9 => ?_⟩⟩
    rw [wv3.2.2]
    refine ⟨⟨rfl, rfl⟩, onT_i (fun h => absurd h (by decide)) (fun _ => ?_)⟩
    refine ⟨sl, rfl, .inl ⟨cl1, 0, 0, 40, 6, rfl, inn _ _ _ _ _ ok1 (by decide) (by decide) (by decide) (by decide) (by decide) (by decide) (by decide) (by decide), fun M10 x10 => ?_⟩⟩
    rw [w44]
    refine ⟨⟨rfl, rfl⟩, onD_i (fun _ => ?_) (fun h => absurd h (by decide))⟩
    refine ⟨sl, rfl, .inl ⟨cl3, 0, 20, 20, 1, rfl, inn _ _ _ _ _ ok3 (by decide) (by decide) (by decide) (by decide) (by decide) (by decide) (by decide) (by decide), fun M11 x11 => ?_⟩⟩
    rw [wv4]
    exact ⟨⟨rfl, rfl⟩, q _⟩


end
end Bx

set_option Elab.async false
set_option linter.all false
set_option maxRecDepth 100000
set_option maxHeartbeats 4000000
namespace Bx
open PySem PySem.Spec L2 L2H LamX NdefX
open PyProof.Rows hiding St
section
variable {P : Program} {w : World} {K : PySem.W.Frag} {mg : Str → Option Value} {base : Heap} {ex : Str → Value} {as Ps : List Addr} {B : Addr}
theorem all_end {fa : Addr} {h : Heap} (KX : K.In h) (G : h.Ns mainGlobals mg) (hfa : mg "law" = some (.ref fa)) {C_Foe : Addr} (h_Foe : ClsAt K mg "Foe" C_Foe) (n_by : NoAttr K C_Foe "by") (n_known : NoAttr K C_Foe "known") (n_plan : NoAttr K C_Foe "plan") (n_start : NoAttr K C_Foe "start") (t_is_whole : Here K mg "is_whole" ["value", "low", "high"] s_is_whole) (t_are_truths : Here K mg "are_truths" ["value"] s_are_truths) (t_rises : Here K mg "rises" ["numbers"] s_rises) (t_is_step : Here K mg "is_step" ["value"] s_is_step) (t_are_steps : Here K mg "are_steps" ["value"] s_are_steps) (t_is_good : Here K mg "is_good" ["value"] s_is_good) (t_is_good_box : Here K mg "is_good_box" ["value"] s_is_good_box) (t_need_clause : Here K mg "need_clause" ["clause"] s_need_clause) (t_need_box : Here K mg "need_box" ["box"] s_need_box) (t_need_day : Here K mg "need_day" ["day", "low", "high"] s_need_day) (t_need_number : Here K mg "need_number" ["number", "low", "high"] s_need_number) (t_price_of : Here K mg "price_of" ["clause", "number"] s_price_of) (t_amount : Here K mg "amount" ["clause", "days"] s_amount) (t_is_counted : Here K mg "is_counted" ["clause", "weekend", "strike", "late"] s_is_counted) (t_is_weekend : Here K mg "is_weekend" ["day"] s_is_weekend) (t_start_of : Here K mg "start_of" ["clause", "box"] s_start_of) (t_Foe____init__ : MHere K C_Foe "__init__" "Foe.__init__" ["self", "clause", "box", "plan"] s_Foe____init__) (t_Foe__behind : MHere K C_Foe "behind" "Foe.behind" ["self", "now", "day", "strike"] s_Foe__behind) (t_Foe__best : MHere K C_Foe "best" "Foe.best" ["self", "now", "day", "many"] s_Foe__best) (t_worst_of : Here K mg "worst_of" ["clause", "box", "plan", "many"] s_worst_of) (t_need_all : Here K mg "need_all" ["clause", "box", "plan", "many"] s_need_all) (t_worst : Here K mg "worst" ["clause", "box", "plan", "many"] s_worst) (t_foe_days : Here K mg "foe_days" ["clause", "box", "plan", "many"] s_foe_days) (t__law_vat : Here K mg "_law_vat" ["script", "k"] s__law_vat) (t__law_under : Here K mg "_law_under" ["vat", "many"] s__law_under) (t__law_some : Here K mg "_law_some" ["vat", "things"] s__law_some) (t__law_is_whole : Here K mg "_law_is_whole" ["value", "low", "high"] s__law_is_whole) (t__law_price : Here K mg "_law_price" ["clause", "number"] s__law_price) (t__law_sum : Here K mg "_law_sum" ["clause", "days"] s__law_sum) (t__law_days : Here K mg "_law_days" ["clause", "box", "fetched", "strikes"] s__law_days) (t__law_cost : Here K mg "_law_cost" ["clause", "box", "fetched", "strikes"] s__law_cost) (t__law_clause : Here K mg "_law_clause" ["vat"] s__law_clause) (t__law_names : Here K mg "_law_names" ["e"] s__law_names) (t__law_error : Here K mg "_law_error" ["call"] s__law_error) (t__law_all_refused : Here K mg "_law_all_refused" ["call", "odds", "name"] s__law_all_refused) (t__law_known : Here K mg "_law_known" [] s__law_known) (t__law_bad_clauses : Here K mg "_law_bad_clauses" [] s__law_bad_clauses) (t__law_bad_boxes : Here K mg "_law_bad_boxes" [] s__law_bad_boxes) (t__law_plan_cost : Here K mg "_law_plan_cost" ["clause", "box", "plan", "hits"] s__law_plan_cost) (t__law_all_hits : Here K mg "_law_all_hits" ["first", "last", "most"] s__law_all_hits) (t__law_are_hits : Here K mg "_law_are_hits" ["value", "box", "most"] s__law_are_hits) (t__law_refused : Here K mg "_law_refused" ["clause", "box"] s__law_refused) (t_law : Here K mg "law" ["script"] s_law) (b_ValueError : mg "ValueError" = none) (b_abs : mg "abs" = none) (b_all : mg "all" = none) (b_bool : mg "bool" = none) (b_int : mg "int" = none) (b_isinstance : mg "isinstance" = none) (b_len : mg "len" = none) (b_list : mg "list" = none) (b_max : mg "max" = none) (b_min : mg "min" = none) (b_range : mg "range" = none) (b_set : mg "set" = none) (b_sorted : mg "sorted" = none) (b_str : mg "str" = none) (b_sum : mg "sum" = none) (b_tuple : mg "tuple" = none) (b_zip : mg "zip" = none) (x_InvalidBox : ErrAt K mg ex "InvalidBox") (x_InvalidClause : ErrAt K mg ex "InvalidClause") (x_InvalidDay : ErrAt K mg ex "InvalidDay") (x_InvalidNumber : ErrAt K mg ex "InvalidNumber") (g_FAR : IntAt mg "FAR" 1000000000000000000000000000000) (g_LONGEST_PLAN : IntAt mg "LONGEST_PLAN" 40) (g_LONGEST_WAIT : IntAt mg "LONGEST_WAIT" 20) (g_MOST_FIRST : IntAt mg "MOST_FIRST" 6) (g_MOST_FOE : IntAt mg "MOST_FOE" 6) (g_MOST_FREE : IntAt mg "MOST_FREE" 6) (g_MOST_PRICE : IntAt mg "MOST_PRICE" 5) (g_MOST_STEPS : IntAt mg "MOST_STEPS" 3) (g_WEEK : IntAt mg "WEEK" 7) (er : Errs K mg ex as B) {cc__law_all_refused PP__law_all_refused : Addr} (o__law_all_refused : TabOf K mg h "_law_all_refused" cc__law_all_refused PP__law_all_refused) {cc__law_refused PP__law_refused : Addr} (o__law_refused : TabOf K mg h "_law_refused" cc__law_refused PP__law_refused) :
    ∃ (fd : FuncData) (cs : List (Addr × Addr)) (nm : Nat → Nat → Str), (∀ p ∈ cs, h.get? p.2 = some { cls := .none, data := .fields #[] } ∧ K.lookup p.2 = none ∧ PySem.W.CodeHd h p.1 p.2) ∧ (∀ (s : Shared) (u : Value), BindsTo s fd ⟨[u], []⟩ [("script", u)]) ∧
      ∀ base : Heap, Mod K mg base → (∀ p ∈ cs, LamX.TabB base mg p.1 p.2) → FnOk P w K mg base (L2N.CX P w) 85 fa fd ["script"] (DSp K 1 (spLawT (cs.map (·.2)) nm)) := by
  obtain ⟨f, fd, F, hm, _⟩ := t_law
  have e := hfa.symm.trans hm
  cases e
  refine ⟨fd, [(cc__law_all_refused, PP__law_all_refused), (cc__law_refused, PP__law_refused)], nmL, fun p hp => ?_, ?_, fun base mod TB => ?_⟩
  · simp only [List.mem_cons, List.not_mem_nil, or_false] at hp
    rcases hp with e | e
    · subst e; exact ⟨o__law_all_refused.get, o__law_all_refused.out, o__law_all_refused.hd⟩
    · subst e; exact ⟨o__law_refused.get, o__law_refused.out, o__law_refused.hd⟩
  · obtain ⟨oc, od, kV, doc, pm, an, cdv, ct, osl, rfl, _, _⟩ := F.ex
    exact fun s v => .of_eq rfl
  have tb__law_all_refused := TB (cc__law_all_refused, PP__law_all_refused) (by simp)
  have tb__law_refused := TB (cc__law_refused, PP__law_refused) (by simp)
  have ue := Up.refl mod
  have c_is_whole := ok_is_whole (P := P) (w := w) (base := base) (T := t_is_whole) (b_bool := b_bool) (b_int := b_int) (b_isinstance := b_isinstance)
  have c_are_truths := ok_are_truths (P := P) (w := w) (base := base) (T := t_are_truths) (b_all := b_all) (b_bool := b_bool) (b_isinstance := b_isinstance) (b_len := b_len) (b_tuple := b_tuple)
  have c_rises := ok_rises (P := P) (w := w) (base := base) (T := t_rises) (b_all := b_all) (b_zip := b_zip)
  have c_is_step := ok_is_step (P := P) (w := w) (base := base) (T := t_is_step) (b_isinstance := b_isinstance) (b_len := b_len) (b_tuple := b_tuple) (g_MOST_FIRST := g_MOST_FIRST) (g_MOST_PRICE := g_MOST_PRICE) (c_is_whole := c_is_whole)
  have c_are_steps := ok_are_steps (P := P) (w := w) (base := base) (T := t_are_steps) (b_all := b_all) (b_isinstance := b_isinstance) (b_len := b_len) (b_tuple := b_tuple) (g_MOST_STEPS := g_MOST_STEPS) (c_rises := c_rises) (c_is_step := c_is_step)
  have c_is_good := ok_is_good (P := P) (w := w) (base := base) (T := t_is_good) (b_bool := b_bool) (b_isinstance := b_isinstance) (b_len := b_len) (b_str := b_str) (b_tuple := b_tuple) (g_MOST_FREE := g_MOST_FREE) (c_is_whole := c_is_whole) (c_are_truths := c_are_truths) (c_are_steps := c_are_steps)
  have c_is_good_box := ok_is_good_box (P := P) (w := w) (base := base) (T := t_is_good_box) (b_all := b_all) (b_isinstance := b_isinstance) (b_len := b_len) (b_tuple := b_tuple) (g_FAR := g_FAR) (c_is_whole := c_is_whole)
  have c_need_clause := ok_need_clause (P := P) (w := w) (base := base) (T := t_need_clause) (x_InvalidClause := x_InvalidClause) (c_is_good := c_is_good)
  have c_need_box := ok_need_box (P := P) (w := w) (base := base) (T := t_need_box) (x_InvalidBox := x_InvalidBox) (c_is_good_box := c_is_good_box)
  have c_need_day := ok_need_day (P := P) (w := w) (base := base) (T := t_need_day) (x_InvalidDay := x_InvalidDay) (c_is_whole := c_is_whole)
  have c_need_number := ok_need_number (P := P) (w := w) (base := base) (T := t_need_number) (x_InvalidNumber := x_InvalidNumber) (c_is_whole := c_is_whole)
  have c_price_of := ok_price_of (P := P) (w := w) (base := base) (T := t_price_of)
  have c_amount := ok_amount (P := P) (w := w) (base := base) (T := t_amount) (b_max := b_max) (b_min := b_min) (b_zip := b_zip) (c_price_of := c_price_of)
  have c_is_counted := ok_is_counted (P := P) (w := w) (base := base) (T := t_is_counted)
  have c_is_weekend := ok_is_weekend (P := P) (w := w) (base := base) (T := t_is_weekend) (g_WEEK := g_WEEK)
  have c_start_of := ok_start_of (P := P) (w := w) (base := base) (T := t_start_of)
  have cm_Foe____init__ := ok_Foe____init__ (P := P) (w := w) (base := base) (T := t_Foe____init__) (c_start_of := c_start_of) (h_Foe := h_Foe) (n_by := n_by) (n_known := n_known) (n_plan := n_plan) (n_start := n_start)
  have cm_Foe__behind := ok_Foe__behind (P := P) (w := w) (base := base) (T := t_Foe__behind) (b_int := b_int) (c_is_counted := c_is_counted) (c_is_weekend := c_is_weekend) (h_Foe := h_Foe) (n_by := n_by) (n_start := n_start)
  have cm_Foe__best := ok_Foe__best (P := P) (w := w) (base := base) (T := t_Foe__best) (c_amount := c_amount) (h_Foe := h_Foe) (n_by := n_by) (n_known := n_known) (n_plan := n_plan) (cm_Foe__behind := cm_Foe__behind)
  have c_worst_of := ok_worst_of (P := P) (w := w) (base := base) (T := t_worst_of) (h_Foe := h_Foe) (cm_Foe____init__ := cm_Foe____init__) (cm_Foe__best := cm_Foe__best)
  have c_need_all := ok_need_all (P := P) (w := w) (base := base) (T := t_need_all) (g_LONGEST_PLAN := g_LONGEST_PLAN) (g_LONGEST_WAIT := g_LONGEST_WAIT) (g_MOST_FOE := g_MOST_FOE) (c_need_clause := c_need_clause) (c_need_box := c_need_box) (c_need_day := c_need_day) (c_need_number := c_need_number)
  have c_worst := ok_worst (P := P) (w := w) (base := base) (T := t_worst) (c_worst_of := c_worst_of) (c_need_all := c_need_all)
  have c_foe_days := ok_foe_days (P := P) (w := w) (base := base) (T := t_foe_days) (c_worst_of := c_worst_of) (c_need_all := c_need_all)
  have c__law_vat := ok__law_vat (P := P) (w := w) (base := base) (T := t__law_vat) (b_abs := b_abs) (b_int := b_int) (b_len := b_len)
  have c__law_under := ok__law_under (P := P) (w := w) (base := base) (T := t__law_under) (b_int := b_int)
  have c__law_some := ok__law_some (P := P) (w := w) (base := base) (T := t__law_some) (b_len := b_len) (c__law_under := c__law_under)
  have c__law_is_whole := ok__law_is_whole (P := P) (w := w) (base := base) (T := t__law_is_whole) (b_bool := b_bool) (b_int := b_int) (b_isinstance := b_isinstance)
  have c__law_price := ok__law_price (P := P) (w := w) (base := base) (T := t__law_price)
  have c__law_sum := ok__law_sum (P := P) (w := w) (base := base) (T := t__law_sum) (b_range := b_range) (b_sum := b_sum) (c__law_price := c__law_price)
  have c__law_days := ok__law_days (P := P) (w := w) (base := base) (T := t__law_days) (b_range := b_range)
  have c__law_cost := ok__law_cost (P := P) (w := w) (base := base) (T := t__law_cost) (c__law_sum := c__law_sum) (c__law_days := c__law_days)
  have c__law_clause := ok__law_clause (P := P) (w := w) (base := base) (T := t__law_clause) (b_len := b_len) (b_range := b_range) (b_tuple := b_tuple) (b_zip := b_zip) (c__law_under := c__law_under) (c__law_some := c__law_some)
  have n__law_names := fun (base' : Heap) => ok__law_names (P := P) (w := w) (base := base') (T := t__law_names) (er := er) (b_isinstance := b_isinstance) (b_zip := b_zip) (b_ValueError := b_ValueError)
  have c__law_error := fun (base' : Heap) (f : Addr) (sp : DSpec) (_ : Up K mg base base') (V : FnV P w K mg base' 81 0 f sp) => ok__law_error (P := P) (w := w) (base := base') (T := t__law_error) (er := er) (nm := n__law_names base') V
  have c__law_all_refused := fun (base' : Heap) (f : Addr) (sp : DSpec) (u : Up K mg base base') (V : FnV P w K mg base' 80 1 f sp) => ok__law_all_refused (P := P) (w := w) (base := base') (ex := ex) (T := t__law_all_refused) (cd := o__law_all_refused.code) (tb__law_all_refused := tabB_up tb__law_all_refused u) (c__law_error := fun base2 f2 sp2 u2 V2 => c__law_error base2 f2 sp2 (u.trans u2) V2) V
  have c__law_known := ok__law_known (P := P) (w := w) (base := base) (T := t__law_known)
  have c__law_bad_clauses := ok__law_bad_clauses (P := P) (w := w) (base := base) (T := t__law_bad_clauses) (b_list := b_list) (c__law_known := c__law_known)
  have c__law_bad_boxes := ok__law_bad_boxes (P := P) (w := w) (base := base) (T := t__law_bad_boxes)
  have c__law_plan_cost := ok__law_plan_cost (P := P) (w := w) (base := base) (T := t__law_plan_cost) (c__law_cost := c__law_cost)
  have c__law_all_hits := ok__law_all_hits (P := P) (w := w) (base := base) (T := t__law_all_hits) (b_len := b_len) (b_range := b_range)
  have c__law_are_hits := ok__law_are_hits (P := P) (w := w) (base := base) (T := t__law_are_hits) (b_isinstance := b_isinstance) (b_len := b_len) (b_list := b_list) (b_set := b_set) (b_sorted := b_sorted) (b_tuple := b_tuple) (c__law_is_whole := c__law_is_whole)
  have c__law_refused := ok__law_refused (P := P) (w := w) (base := base) (T := t__law_refused) (Ps := [PP__law_all_refused, PP__law_refused]) (c_worst := c_worst) (c_foe_days := c_foe_days) (c__law_bad_clauses := c__law_bad_clauses) (c__law_bad_boxes := c__law_bad_boxes) (c__law_error := c__law_error) (c__law_all_refused := c__law_all_refused) (pm_all := by simp) (cd := o__law_refused.code) (tb__law_refused := tb__law_refused) (pm := by simp)
  exact ok_law (P := P) (w := w) (base := base) (Ps := [PP__law_all_refused, PP__law_refused]) F hm (b_len := b_len) (b_max := b_max) (b_min := b_min) (b_range := b_range) (c_worst := c_worst) (c_foe_days := c_foe_days) (c__law_vat := c__law_vat) (c__law_under := c__law_under) (c__law_some := c__law_some) (c__law_clause := c__law_clause) (c__law_known := c__law_known) (c__law_plan_cost := c__law_plan_cost) (c__law_all_hits := c__law_all_hits) (c__law_are_hits := c__law_are_hits) (c__law_refused := c__law_refused)
end
end Bx
set_option maxHeartbeats 0 in
theorem PySem.Challenge.cw_boxdays_k07_whole_foes_holds : PySem.Challenge.rw_boxdays_k07_whole_foes.Holds := by
  w_on; o_law; k_head; (case hw => w_witness2)
  k_fill
  refine Bx.walk_ofTX (l := PySem.Challenge.rw_boxdays_k07_whole_foes) (k := 85) (x := "script") rfl rfl ⟨rfl, by decide, by decide⟩ (fun w h Y => PySem.W.km_in_of Y) ?F
  case F =>
    intro w mg fa h KX G XX TT hmg
    refine' Bx.all_end (P := PySem.Challenge.rw_boxdays_k07_whole_foes.prog) (w := w) (ex := Bx.exOf mg) (as := [_, _, _, _, _, _, _, _, _, _, _, _, _]) KX G hmg ?h_Foe ?n_by ?n_known ?n_plan ?n_start ?t_is_whole ?t_are_truths ?t_rises ?t_is_step ?t_are_steps ?t_is_good ?t_is_good_box ?t_need_clause ?t_need_box ?t_need_day ?t_need_number ?t_price_of ?t_amount ?t_is_counted ?t_is_weekend ?t_start_of ?t_Foe____init__ ?t_Foe__behind ?t_Foe__best ?t_worst_of ?t_need_all ?t_worst ?t_foe_days ?t__law_vat ?t__law_under ?t__law_some ?t__law_is_whole ?t__law_price ?t__law_sum ?t__law_days ?t__law_cost ?t__law_clause ?t__law_names ?t__law_error ?t__law_all_refused ?t__law_known ?t__law_bad_clauses ?t__law_bad_boxes ?t__law_plan_cost ?t__law_all_hits ?t__law_are_hits ?t__law_refused ?t_law ?b_ValueError ?b_abs ?b_all ?b_bool ?b_int ?b_isinstance ?b_len ?b_list ?b_max ?b_min ?b_range ?b_set ?b_sorted ?b_str ?b_sum ?b_tuple ?b_zip ?x_InvalidBox ?x_InvalidClause ?x_InvalidDay ?x_InvalidNumber (Bx.loose_int XX.2 (by first | exact .head _ | exact .tail _ (.head _))) ?g_LONGEST_PLAN ?g_LONGEST_WAIT ?g_MOST_FIRST ?g_MOST_FOE ?g_MOST_FREE ?g_MOST_PRICE ?g_MOST_STEPS ?g_WEEK ?er ?o__law_all_refused ?o__law_refused
    (case h_Foe => refine' Bx.cls_mk KX G ?ca ?cb ?cc ?cd ?ce ?cf ?cg; (case ca => k_is); (case cb => k_is); (case cc => k_is); (case cd => k_is); (case ce => k_is); (case cf => k_is); (case cg => k_is))
    (case n_by => refine' Bx.noattr_mk ?na; (case na => k_is))
    (case n_known => refine' Bx.noattr_mk ?na; (case na => k_is))
    (case n_plan => refine' Bx.noattr_mk ?na; (case na => k_is))
    (case n_start => refine' Bx.noattr_mk ?na; (case na => k_is))
    (case t_is_whole => refine' Bx.here_mk KX G ?a ?l ?c ?k ?b; (case a => k_is); (case l => k_is); (case c => k_is); (case k => k_is); (case b => exact fun _ _ _ _ _ _ us hl => match us, hl with | [_, _, _], _ => rfl))
    (case t_are_truths => refine' Bx.here_mk KX G ?a ?l ?c ?k ?b; (case a => k_is); (case l => k_is); (case c => k_is); (case k => k_is); (case b => exact fun _ _ _ _ _ _ us hl => match us, hl with | [_], _ => rfl))
    (case t_rises => refine' Bx.here_mk KX G ?a ?l ?c ?k ?b; (case a => k_is); (case l => k_is); (case c => k_is); (case k => k_is); (case b => exact fun _ _ _ _ _ _ us hl => match us, hl with | [_], _ => rfl))
    (case t_is_step => refine' Bx.here_mk KX G ?a ?l ?c ?k ?b; (case a => k_is); (case l => k_is); (case c => k_is); (case k => k_is); (case b => exact fun _ _ _ _ _ _ us hl => match us, hl with | [_], _ => rfl))
    (case t_are_steps => refine' Bx.here_mk KX G ?a ?l ?c ?k ?b; (case a => k_is); (case l => k_is); (case c => k_is); (case k => k_is); (case b => exact fun _ _ _ _ _ _ us hl => match us, hl with | [_], _ => rfl))
    (case t_is_good => refine' Bx.here_mk KX G ?a ?l ?c ?k ?b; (case a => k_is); (case l => k_is); (case c => k_is); (case k => k_is); (case b => exact fun _ _ _ _ _ _ us hl => match us, hl with | [_], _ => rfl))
    (case t_is_good_box => refine' Bx.here_mk KX G ?a ?l ?c ?k ?b; (case a => k_is); (case l => k_is); (case c => k_is); (case k => k_is); (case b => exact fun _ _ _ _ _ _ us hl => match us, hl with | [_], _ => rfl))
    (case t_need_clause => refine' Bx.here_mk KX G ?a ?l ?c ?k ?b; (case a => k_is); (case l => k_is); (case c => k_is); (case k => k_is); (case b => exact fun _ _ _ _ _ _ us hl => match us, hl with | [_], _ => rfl))
    (case t_need_box => refine' Bx.here_mk KX G ?a ?l ?c ?k ?b; (case a => k_is); (case l => k_is); (case c => k_is); (case k => k_is); (case b => exact fun _ _ _ _ _ _ us hl => match us, hl with | [_], _ => rfl))
    (case t_need_day => refine' Bx.here_mk KX G ?a ?l ?c ?k ?b; (case a => k_is); (case l => k_is); (case c => k_is); (case k => k_is); (case b => exact fun _ _ _ _ _ _ us hl => match us, hl with | [_, _, _], _ => rfl))
    (case t_need_number => refine' Bx.here_mk KX G ?a ?l ?c ?k ?b; (case a => k_is); (case l => k_is); (case c => k_is); (case k => k_is); (case b => exact fun _ _ _ _ _ _ us hl => match us, hl with | [_, _, _], _ => rfl))
    (case t_price_of => refine' Bx.here_mk KX G ?a ?l ?c ?k ?b; (case a => k_is); (case l => k_is); (case c => k_is); (case k => k_is); (case b => exact fun _ _ _ _ _ _ us hl => match us, hl with | [_, _], _ => rfl))
    (case t_amount => refine' Bx.here_mk KX G ?a ?l ?c ?k ?b; (case a => k_is); (case l => k_is); (case c => k_is); (case k => k_is); (case b => exact fun _ _ _ _ _ _ us hl => match us, hl with | [_, _], _ => rfl))
    (case t_is_counted => refine' Bx.here_mk KX G ?a ?l ?c ?k ?b; (case a => k_is); (case l => k_is); (case c => k_is); (case k => k_is); (case b => exact fun _ _ _ _ _ _ us hl => match us, hl with | [_, _, _, _], _ => rfl))
    (case t_is_weekend => refine' Bx.here_mk KX G ?a ?l ?c ?k ?b; (case a => k_is); (case l => k_is); (case c => k_is); (case k => k_is); (case b => exact fun _ _ _ _ _ _ us hl => match us, hl with | [_], _ => rfl))
    (case t_start_of => refine' Bx.here_mk KX G ?a ?l ?c ?k ?b; (case a => k_is); (case l => k_is); (case c => k_is); (case k => k_is); (case b => exact fun _ _ _ _ _ _ us hl => match us, hl with | [_, _], _ => rfl))
    (case t_Foe____init__ => refine' Bx.mhere_mk ?a ?i ?l ?c ?k ?b; (case a => k_is); (case i => k_is); (case l => k_is); (case c => k_is); (case k => k_is); (case b => exact fun _ _ _ _ _ _ us hl => match us, hl with | [_, _, _, _], _ => rfl))
    (case t_Foe__behind => refine' Bx.mhere_mk ?a ?i ?l ?c ?k ?b; (case a => k_is); (case i => k_is); (case l => k_is); (case c => k_is); (case k => k_is); (case b => exact fun _ _ _ _ _ _ us hl => match us, hl with | [_, _, _, _], _ => rfl))
    (case t_Foe__best => refine' Bx.mhere_mk ?a ?i ?l ?c ?k ?b; (case a => k_is); (case i => k_is); (case l => k_is); (case c => k_is); (case k => k_is); (case b => exact fun _ _ _ _ _ _ us hl => match us, hl with | [_, _, _, _], _ => rfl))
    (case t_worst_of => refine' Bx.here_mk KX G ?a ?l ?c ?k ?b; (case a => k_is); (case l => k_is); (case c => k_is); (case k => k_is); (case b => exact fun _ _ _ _ _ _ us hl => match us, hl with | [_, _, _, _], _ => rfl))
    (case t_need_all => refine' Bx.here_mk KX G ?a ?l ?c ?k ?b; (case a => k_is); (case l => k_is); (case c => k_is); (case k => k_is); (case b => exact fun _ _ _ _ _ _ us hl => match us, hl with | [_, _, _, _], _ => rfl))
    (case t_worst => refine' Bx.here_mk KX G ?a ?l ?c ?k ?b; (case a => k_is); (case l => k_is); (case c => k_is); (case k => k_is); (case b => exact fun _ _ _ _ _ _ us hl => match us, hl with | [_, _, _, _], _ => rfl))
    (case t_foe_days => refine' Bx.here_mk KX G ?a ?l ?c ?k ?b; (case a => k_is); (case l => k_is); (case c => k_is); (case k => k_is); (case b => exact fun _ _ _ _ _ _ us hl => match us, hl with | [_, _, _, _], _ => rfl))
    (case t__law_vat => refine' Bx.here_mk KX G ?a ?l ?c ?k ?b; (case a => k_is); (case l => k_is); (case c => k_is); (case k => k_is); (case b => exact fun _ _ _ _ _ _ us hl => match us, hl with | [_, _], _ => rfl))
    (case t__law_under => refine' Bx.here_mk KX G ?a ?l ?c ?k ?b; (case a => k_is); (case l => k_is); (case c => k_is); (case k => k_is); (case b => exact fun _ _ _ _ _ _ us hl => match us, hl with | [_, _], _ => rfl))
    (case t__law_some => refine' Bx.here_mk KX G ?a ?l ?c ?k ?b; (case a => k_is); (case l => k_is); (case c => k_is); (case k => k_is); (case b => exact fun _ _ _ _ _ _ us hl => match us, hl with | [_, _], _ => rfl))
    (case t__law_is_whole => refine' Bx.here_mk KX G ?a ?l ?c ?k ?b; (case a => k_is); (case l => k_is); (case c => k_is); (case k => k_is); (case b => exact fun _ _ _ _ _ _ us hl => match us, hl with | [_, _, _], _ => rfl))
    (case t__law_price => refine' Bx.here_mk KX G ?a ?l ?c ?k ?b; (case a => k_is); (case l => k_is); (case c => k_is); (case k => k_is); (case b => exact fun _ _ _ _ _ _ us hl => match us, hl with | [_, _], _ => rfl))
    (case t__law_sum => refine' Bx.here_mk KX G ?a ?l ?c ?k ?b; (case a => k_is); (case l => k_is); (case c => k_is); (case k => k_is); (case b => exact fun _ _ _ _ _ _ us hl => match us, hl with | [_, _], _ => rfl))
    (case t__law_days => refine' Bx.here_mk KX G ?a ?l ?c ?k ?b; (case a => k_is); (case l => k_is); (case c => k_is); (case k => k_is); (case b => exact fun _ _ _ _ _ _ us hl => match us, hl with | [_, _, _, _], _ => rfl))
    (case t__law_cost => refine' Bx.here_mk KX G ?a ?l ?c ?k ?b; (case a => k_is); (case l => k_is); (case c => k_is); (case k => k_is); (case b => exact fun _ _ _ _ _ _ us hl => match us, hl with | [_, _, _, _], _ => rfl))
    (case t__law_clause => refine' Bx.here_mk KX G ?a ?l ?c ?k ?b; (case a => k_is); (case l => k_is); (case c => k_is); (case k => k_is); (case b => exact fun _ _ _ _ _ _ us hl => match us, hl with | [_], _ => rfl))
    (case t__law_names => refine' Bx.here_mk KX G ?a ?l ?c ?k ?b; (case a => k_is); (case l => k_is); (case c => k_is); (case k => k_is); (case b => exact fun _ _ _ _ _ _ us hl => match us, hl with | [_], _ => rfl))
    (case t__law_error => refine' Bx.here_mk KX G ?a ?l ?c ?k ?b; (case a => k_is); (case l => k_is); (case c => k_is); (case k => k_is); (case b => exact fun _ _ _ _ _ _ us hl => match us, hl with | [_], _ => rfl))
    (case t__law_all_refused => refine' Bx.here_mk KX G ?a ?l ?c ?k ?b; (case a => k_is); (case l => k_is); (case c => k_is); (case k => k_is); (case b => exact fun _ _ _ _ _ _ us hl => match us, hl with | [_, _, _], _ => rfl))
    (case t__law_known => refine' Bx.here_mk KX G ?a ?l ?c ?k ?b; (case a => k_is); (case l => k_is); (case c => k_is); (case k => k_is); (case b => exact fun _ _ _ _ _ _ us hl => match us, hl with | [], _ => rfl))
    (case t__law_bad_clauses => refine' Bx.here_mk KX G ?a ?l ?c ?k ?b; (case a => k_is); (case l => k_is); (case c => k_is); (case k => k_is); (case b => exact fun _ _ _ _ _ _ us hl => match us, hl with | [], _ => rfl))
    (case t__law_bad_boxes => refine' Bx.here_mk KX G ?a ?l ?c ?k ?b; (case a => k_is); (case l => k_is); (case c => k_is); (case k => k_is); (case b => exact fun _ _ _ _ _ _ us hl => match us, hl with | [], _ => rfl))
    (case t__law_plan_cost => refine' Bx.here_mk KX G ?a ?l ?c ?k ?b; (case a => k_is); (case l => k_is); (case c => k_is); (case k => k_is); (case b => exact fun _ _ _ _ _ _ us hl => match us, hl with | [_, _, _, _], _ => rfl))
    (case t__law_all_hits => refine' Bx.here_mk KX G ?a ?l ?c ?k ?b; (case a => k_is); (case l => k_is); (case c => k_is); (case k => k_is); (case b => exact fun _ _ _ _ _ _ us hl => match us, hl with | [_, _, _], _ => rfl))
    (case t__law_are_hits => refine' Bx.here_mk KX G ?a ?l ?c ?k ?b; (case a => k_is); (case l => k_is); (case c => k_is); (case k => k_is); (case b => exact fun _ _ _ _ _ _ us hl => match us, hl with | [_, _, _], _ => rfl))
    (case t__law_refused => refine' Bx.here_mk KX G ?a ?l ?c ?k ?b; (case a => k_is); (case l => k_is); (case c => k_is); (case k => k_is); (case b => exact fun _ _ _ _ _ _ us hl => match us, hl with | [_, _], _ => rfl))
    (case t_law => refine' Bx.here_mk KX G ?a ?l ?c ?k ?b; (case a => k_is); (case l => k_is); (case c => k_is); (case k => k_is); (case b => exact fun _ _ _ _ _ _ us hl => match us, hl with | [_], _ => rfl))
    (case b_ValueError => exact PySem.W.mg_none_of KX G (by k_is))
    (case b_abs => exact PySem.W.mg_none_of KX G (by k_is))
    (case b_all => exact PySem.W.mg_none_of KX G (by k_is))
    (case b_bool => exact PySem.W.mg_none_of KX G (by k_is))
    (case b_int => exact PySem.W.mg_none_of KX G (by k_is))
    (case b_isinstance => exact PySem.W.mg_none_of KX G (by k_is))
    (case b_len => exact PySem.W.mg_none_of KX G (by k_is))
    (case b_list => exact PySem.W.mg_none_of KX G (by k_is))
    (case b_max => exact PySem.W.mg_none_of KX G (by k_is))
    (case b_min => exact PySem.W.mg_none_of KX G (by k_is))
    (case b_range => exact PySem.W.mg_none_of KX G (by k_is))
    (case b_set => exact PySem.W.mg_none_of KX G (by k_is))
    (case b_sorted => exact PySem.W.mg_none_of KX G (by k_is))
    (case b_str => exact PySem.W.mg_none_of KX G (by k_is))
    (case b_sum => exact PySem.W.mg_none_of KX G (by k_is))
    (case b_tuple => exact PySem.W.mg_none_of KX G (by k_is))
    (case b_zip => exact PySem.W.mg_none_of KX G (by k_is))
    (case x_InvalidBox => refine' Bx.err_mk KX G ?xa ?xq ?xk ?xs ?xt; (case xa => k_is); (case xq => k_exc); (case xk => k_is); (case xs => k_is); (case xt => k_is))
    (case x_InvalidClause => refine' Bx.err_mk KX G ?xa ?xq ?xk ?xs ?xt; (case xa => k_is); (case xq => k_exc); (case xk => k_is); (case xs => k_is); (case xt => k_is))
    (case x_InvalidDay => refine' Bx.err_mk KX G ?xa ?xq ?xk ?xs ?xt; (case xa => k_is); (case xq => k_exc); (case xk => k_is); (case xs => k_is); (case xt => k_is))
    (case x_InvalidNumber => refine' Bx.err_mk KX G ?xa ?xq ?xk ?xs ?xt; (case xa => k_is); (case xq => k_exc); (case xk => k_is); (case xs => k_is); (case xt => k_is))
    (case g_LONGEST_PLAN => exact ⟨_, PySem.W.mg_of KX G (by k_is)⟩)
    (case g_LONGEST_WAIT => exact ⟨_, PySem.W.mg_of KX G (by k_is)⟩)
    (case g_MOST_FIRST => exact ⟨_, PySem.W.mg_of KX G (by k_is)⟩)
    (case g_MOST_FOE => exact ⟨_, PySem.W.mg_of KX G (by k_is)⟩)
    (case g_MOST_FREE => exact ⟨_, PySem.W.mg_of KX G (by k_is)⟩)
    (case g_MOST_PRICE => exact ⟨_, PySem.W.mg_of KX G (by k_is)⟩)
    (case g_MOST_STEPS => exact ⟨_, PySem.W.mg_of KX G (by k_is)⟩)
    (case g_WEEK => exact ⟨_, PySem.W.mg_of KX G (by k_is)⟩)
    (case er => refine' Bx.errs_mk KX G (Bx.ns13 ?_ ?_ ?_ ?_ ?_ ?_ ?_ ?_ ?_ ?_ ?_ ?_ ?_) ?_ ⟨?_, ?_, ?_⟩ ?_ ?_ ?_ ⟨⟨⟨?_, ?_, ?_⟩, ⟨?_, ?_, ?_, ?_, ?_, ?_⟩, ?_, ⟨?_, ⟨?_, ⟨?_, ⟨?_, ⟨?_, ⟨?_, ⟨?_, ⟨?_, ⟨?_, ⟨?_, ⟨?_, ⟨?_, ⟨?_, trivial⟩⟩⟩⟩⟩⟩⟩⟩⟩⟩⟩⟩⟩⟩, ⟨⟨⟨?_, ?_, ?_⟩, ⟨?_, ?_, ?_, ?_, ?_, ?_⟩, ?_, ⟨?_, ⟨?_, ⟨?_, ⟨?_, ⟨?_, ⟨?_, ⟨?_, ⟨?_, ⟨?_, ⟨?_, ⟨?_, ⟨?_, ⟨?_, trivial⟩⟩⟩⟩⟩⟩⟩⟩⟩⟩⟩⟩⟩⟩, ⟨⟨⟨?_, ?_, ?_⟩, ⟨?_, ?_, ?_, ?_, ?_, ?_⟩, ?_, ⟨?_, ⟨?_, ⟨?_, ⟨?_, ⟨?_, ⟨?_, ⟨?_, ⟨?_, ⟨?_, ⟨?_, ⟨?_, ⟨?_, ⟨?_, trivial⟩⟩⟩⟩⟩⟩⟩⟩⟩⟩⟩⟩⟩⟩, ⟨⟨⟨?_, ?_, ?_⟩, ⟨?_, ?_, ?_, ?_, ?_, ?_⟩, ?_, ⟨?_, ⟨?_, ⟨?_, ⟨?_, ⟨?_, ⟨?_, ⟨?_, ⟨?_, ⟨?_, ⟨?_, ⟨?_, ⟨?_, ⟨?_, trivial⟩⟩⟩⟩⟩⟩⟩⟩⟩⟩⟩⟩⟩⟩, ⟨⟨⟨?_, ?_, ?_⟩, ⟨?_, ?_, ?_, ?_, ?_, ?_⟩, ?_, ⟨?_, ⟨?_, ⟨?_, ⟨?_, ⟨?_, ⟨?_, ⟨?_, ⟨?_, ⟨?_, ⟨?_, ⟨?_, ⟨?_, ⟨?_, trivial⟩⟩⟩⟩⟩⟩⟩⟩⟩⟩⟩⟩⟩⟩, ⟨⟨⟨?_, ?_, ?_⟩, ⟨?_, ?_, ?_, ?_, ?_, ?_⟩, ?_, ⟨?_, ⟨?_, ⟨?_, ⟨?_, ⟨?_, ⟨?_, ⟨?_, ⟨?_, ⟨?_, ⟨?_, ⟨?_, ⟨?_, ⟨?_, trivial⟩⟩⟩⟩⟩⟩⟩⟩⟩⟩⟩⟩⟩⟩, ⟨⟨⟨?_, ?_, ?_⟩, ⟨?_, ?_, ?_, ?_, ?_, ?_⟩, ?_, ⟨?_, ⟨?_, ⟨?_, ⟨?_, ⟨?_, ⟨?_, ⟨?_, ⟨?_, ⟨?_, ⟨?_, ⟨?_, ⟨?_, ⟨?_, trivial⟩⟩⟩⟩⟩⟩⟩⟩⟩⟩⟩⟩⟩⟩, ⟨⟨⟨?_, ?_, ?_⟩, ⟨?_, ?_, ?_, ?_, ?_, ?_⟩, ?_, ⟨?_, ⟨?_, ⟨?_, ⟨?_, ⟨?_, ⟨?_, ⟨?_, ⟨?_, ⟨?_, ⟨?_, ⟨?_, ⟨?_, ⟨?_, trivial⟩⟩⟩⟩⟩⟩⟩⟩⟩⟩⟩⟩⟩⟩, ⟨⟨⟨?_, ?_, ?_⟩, ⟨?_, ?_, ?_, ?_, ?_, ?_⟩, ?_, ⟨?_, ⟨?_, ⟨?_, ⟨?_, ⟨?_, ⟨?_, ⟨?_, ⟨?_, ⟨?_, ⟨?_, ⟨?_, ⟨?_, ⟨?_, trivial⟩⟩⟩⟩⟩⟩⟩⟩⟩⟩⟩⟩⟩⟩, ⟨⟨⟨?_, ?_, ?_⟩, ⟨?_, ?_, ?_, ?_, ?_, ?_⟩, ?_, ⟨?_, ⟨?_, ⟨?_, ⟨?_, ⟨?_, ⟨?_, ⟨?_, ⟨?_, ⟨?_, ⟨?_, ⟨?_, ⟨?_, ⟨?_, trivial⟩⟩⟩⟩⟩⟩⟩⟩⟩⟩⟩⟩⟩⟩, ⟨⟨⟨?_, ?_, ?_⟩, ⟨?_, ?_, ?_, ?_, ?_, ?_⟩, ?_, ⟨?_, ⟨?_, ⟨?_, ⟨?_, ⟨?_, ⟨?_, ⟨?_, ⟨?_, ⟨?_, ⟨?_, ⟨?_, ⟨?_, ⟨?_, trivial⟩⟩⟩⟩⟩⟩⟩⟩⟩⟩⟩⟩⟩⟩, ⟨⟨⟨?_, ?_, ?_⟩, ⟨?_, ?_, ?_, ?_, ?_, ?_⟩, ?_, ⟨?_, ⟨?_, ⟨?_, ⟨?_, ⟨?_, ⟨?_, ⟨?_, ⟨?_, ⟨?_, ⟨?_, ⟨?_, ⟨?_, ⟨?_, trivial⟩⟩⟩⟩⟩⟩⟩⟩⟩⟩⟩⟩⟩⟩, ⟨⟨⟨?_, ?_, ?_⟩, ⟨?_, ?_, ?_, ?_, ?_, ?_⟩, ?_, ⟨?_, ⟨?_, ⟨?_, ⟨?_, ⟨?_, ⟨?_, ⟨?_, ⟨?_, ⟨?_, ⟨?_, ⟨?_, ⟨?_, ⟨?_, trivial⟩⟩⟩⟩⟩⟩⟩⟩⟩⟩⟩⟩⟩⟩, trivial⟩⟩⟩⟩⟩⟩⟩⟩⟩⟩⟩⟩⟩ rfl ?_ <;> first | k_is | decide)
    (case o__law_all_refused => refine' Bx.tab_mk TT KX G ?ta ?tl ?tc ?td ?te ?tf ?tg; (case ta => k_is); (case tl => k_is); (case tc => rfl); (case td => k_is); (case te => rfl); (case tf => k_is); (case tg => decide +kernel))
    (case o__law_refused => refine' Bx.tab_mk TT KX G ?ta ?tl ?tc ?td ?te ?tf ?tg; (case ta => k_is); (case tl => k_is); (case tc => rfl); (case td => k_is); (case te => rfl); (case tf => k_is); (case tg => decide +kernel))



