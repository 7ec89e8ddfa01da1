import PyProof.Rows.All
import Wide.All
import OpenK.AllK
import Wide.FinOn
import PySem.Challenge.RW_craterounds_k22_whole_dues_whatever_come
import HandS.ForMost
import HandS.ForExc
import HandS.TupAny
import HandS.Zip
import HandS.IsInst
import HandS.Steps
import HandS.Deep
import HandS.HotCalls
import HandS.ExcInit
import HandS.Lambda
import HandS.ExcField
import HandS.ExcIs
import KE.KExcSuper
import KE.KTupSum
import HandS.SortInts
import HandS.Style
import HandS.WordsDict
import HandS.TupMul
import HandS.ExcSuper
import HandS.NestedK
import HandS.EndTab
import PyProof.ReprRoads
import PyProof.ReprLen
import PyProof.EnumMake
import PyProof.Draws
import KE.GoesMore
import HandS.Conv
import HandS.CallLocal
import HandS.Dict
import HandS.Iter
import KE.SortData
import HandS.SetBool
import HandS.Set
import HandS.SetTxt0
import HandS.Strs
import HandS.More
import PyProof.StrOps2
set_option Elab.async false
set_option linter.all false
set_option maxRecDepth 100000
set_option maxHeartbeats 8000000
namespace M
open PySem PySem.Spec L2
/-! what the kernel shall not decide by counting -/
noncomputable instance (priority := high) undSz (n : Nat) : Decidable (n ≤ sizeLine) := Classical.propDecidable _
noncomputable instance (priority := high) undSzLt (n : Nat) : Decidable (n < sizeLine) := Classical.propDecidable _
noncomputable instance (priority := high) undB1 (i : Int) : Decidable (i < 4611686018427387904) := Classical.propDecidable _
noncomputable instance (priority := high) undB2 (i : Int) : Decidable (-4611686018427387904 ≤ i) := Classical.propDecidable _
noncomputable instance (priority := high) undB3 (i : Int) : Decidable (-4611686018427387904 < i) := Classical.propDecidable _

/-! ### data, store, results -/
inductive D where
  | non | bl (b : Bool) | int (i : Int) | str (x : Str) | tup (xs : List D) | lst (xs : List D) | dic (kvs : List (D × D)) | diT (kvs : List (D × D))
  | ins (c : Str) (fs : List (Str × D)) | fn (x : Str) | scr (ns : List Int) | tupX (xs : List D)
inductive S where
  | p (d : D) | r (n : Nat) | x (c : Str) (fs : List (Str × D))
inductive O where
  | lst (ds : List D) | dic (kvs : List (D × D)) | diT (kvs : List (D × D)) | rows (ns : List Nat) | ins (c : Str) (fs : List (Str × S)) | frz (d : D) | dead
@[simp] def O.live : O → Bool
  | .lst _ => true | .dic _ => true | .diT _ => true | .rows _ => true | .ins _ _ => true | _ => false
abbrev Sto := List O
abbrev Env := List (Option S)
inductive Res (α : Type) where
  | ok (a : α) (st : Sto) | exc (c : Str) (fs : List (Str × D)) (st : Sto) | stuck
inductive SRes where
  | next (ρ : Env) (st : Sto) | ret (d : D) (st : Sto) | brk (ρ : Env) (st : Sto) | cont (ρ : Env) (st : Sto)
  | exc (c : Str) (fs : List (Str × D)) (ρ : Env) (st : Sto) | stuck
abbrev Den := Env → Sto → Res D
abbrev DenB := Env → Sto → Res Bool
abbrev DenL := Env → Sto → Res (List D)
abbrev SDen := Env → Sto → SRes
abbrev FDen := List D → Sto → Res D
@[simp] def Res.bind {α β : Type} (r : Res α) (k : α → Sto → Res β) : Res β := match r with
  | .ok a st => k a st
  | .exc c fs st => .exc c fs st
  | .stuck => .stuck

/-! ### what stands for what -/
structure Wd where
  K : PySem.W.Frag
  cls : Str → Option Addr
  fn : Str → Option Addr
  exc : Option (Addr × Addr × Option Addr) := none
  T : List (Addr × Str) := []

abbrev Zone := Addr → Prop
def KTup (K : PySem.W.Frag) (a : Addr) (xs : List V) : Prop :=
  ∃ (o : Obj) (its : Array Value) (n : Nat), K.lookup a = some o ∧ o.cls = .type "tuple" ∧ o.data = .seq its n ∧ its.size ≤ sizeLine ∧ Vals xs its.toList
def KLst (K : PySem.W.Frag) (a : Addr) (xs : List V) : Prop :=
  ∃ (o : Obj) (its : Array Value) (n : Nat), K.lookup a = some o ∧ o.cls = .type "list" ∧ o.dict = none ∧ o.data = .seq its n ∧ its.size ≤ sizeLine ∧ Vals xs its.toList
mutual
inductive Rep (G : Wd) (Z : Zone) (H : Hp) : D → V → Prop
  | non : Rep G Z H .non .non
  | bl (b : Bool) : Rep G Z H (.bl b) (.bl b)
  | int (i : Int) : Rep G Z H (.int i) (.int i)
  | str (x : Str) : Rep G Z H (.str x) (.str x)
  | tup {a : Addr} {vs : List V} {ds : List D} : Rd H a (.tup vs) → ¬ Z a → Reps G Z H ds vs → Rep G Z H (.tup ds) (.ref a)
  | tupK {a : Addr} {vs : List V} {ds : List D} : KTup G.K a vs → Reps G Z H ds vs → Rep G Z H (.tup ds) (.ref a)
  | lst {a : Addr} {vs : List V} {ds : List D} : Rd H a (.lst vs) → ¬ Z a → Reps G Z H ds vs → Rep G Z H (.lst ds) (.ref a)
  | dK {a : Addr} {kvs : List (Key × V)} {ds : List (D × D)} : Rd H a (.dK kvs) → ¬ Z a → RepK G Z H ds kvs → Rep G Z H (.dic ds) (.ref a)
  | dT {a : Addr} {kvs : List (List Key × V)} {ds : List (D × D)} : Rd H a (.dT kvs) → ¬ Z a → RepT G Z H ds kvs → Rep G Z H (.diT ds) (.ref a)
  | ins {a C dx : Addr} {c : Str} {vfs : List (Str × V)} {fs : List (Str × D)} : H a = some (.ins C dx vfs) → ¬ Z a → G.cls c = some C → RepF G Z H fs vfs → Rep G Z H (.ins c fs) (.ref a)
  | fn {a : Addr} {x : Str} : G.fn x = some a → Rep G Z H (.fn x) (.ref a)
  | scr {a : Addr} {ns : List Int} : Rd H a (.lst (ns.map V.int)) → ¬ Z a → Rep G Z H (.scr ns) (.ref a)
  | scrK {a : Addr} {ns : List Int} : KLst G.K a (ns.map V.int) → Rep G Z H (.scr ns) (.ref a)
  /-- a tuple of which it is known that it has no dict of attributes -/
  | tupX {a : Addr} {od : Obj} {vs : List V} {ds : List D} : H a = some (.frz od (.tup vs)) → od.cls = .type "tuple" → od.dict = none → ¬ Z a → Reps G Z H ds vs → Rep G Z H (.tupX ds) (.ref a)
inductive Reps (G : Wd) (Z : Zone) (H : Hp) : List D → List V → Prop
  | nil : Reps G Z H [] []
  | cons {d : D} {v : V} {ds : List D} {vs : List V} : Rep G Z H d v → Reps G Z H ds vs → Reps G Z H (d :: ds) (v :: vs)
inductive RepK (G : Wd) (Z : Zone) (H : Hp) : List (D × D) → List (Key × V) → Prop
  | nil : RepK G Z H [] []
  | int {i : Int} {d : D} {v : V} {ds : List (D × D)} {vs : List (Key × V)} : Rep G Z H d v → RepK G Z H ds vs → RepK G Z H ((.int i, d) :: ds) ((.inl i, v) :: vs)
  | str {x : Str} {d : D} {v : V} {ds : List (D × D)} {vs : List (Key × V)} : Rep G Z H d v → RepK G Z H ds vs → RepK G Z H ((.str x, d) :: ds) ((.inr x, v) :: vs)
inductive RepT (G : Wd) (Z : Zone) (H : Hp) : List (D × D) → List (List Key × V) → Prop
  | nil : RepT G Z H [] []
  | cons {ks : List Key} {es : List D} {d : D} {v : V} {ds : List (D × D)} {vs : List (List Key × V)} : Reps G Z H es (ks.map kV) → Rep G Z H d v → RepT G Z H ds vs → RepT G Z H ((.tup es, d) :: ds) ((ks, v) :: vs)
inductive RepF (G : Wd) (Z : Zone) (H : Hp) : List (Str × D) → List (Str × V) → Prop
  | nil : RepF G Z H [] []
  | cons {x : Str} {d : D} {v : V} {ds : List (Str × D)} {vs : List (Str × V)} : Rep G Z H d v → RepF G Z H ds vs → RepF G Z H ((x, d) :: ds) ((x, v) :: vs)
end

/-- what may become of an object that is not one's own: a dict may be locked by a loop that walks it, a table of codes may grow -/
def Kept (o o' : HO) : Prop := o' = o ∨ (∃ od k, o = .dK k ∧ o' = .frz od (.dK k)) ∨ (∃ od k, o = .dT k ∧ o' = .frz od (.dT k)) ∨ ∃ x y, o = .tbl x ∧ o' = .tbl y
theorem Kept.trans {o o1 o2 : HO} (h : Kept o o1) (g : Kept o1 o2) : Kept o o2 := by
  rcases h with rfl | ⟨od, k, rfl, rfl⟩ | ⟨od, k, rfl, rfl⟩ | ⟨x, y, rfl, rfl⟩
  · exact g
  · rcases g with rfl | ⟨_, _, e, _⟩ | ⟨_, _, e, _⟩ | ⟨_, _, e, _⟩
    · exact .inr (.inl ⟨od, k, rfl, rfl⟩)
    all_goals cases e
  · rcases g with rfl | ⟨_, _, e, _⟩ | ⟨_, _, e, _⟩ | ⟨_, _, e, _⟩
    · exact .inr (.inr (.inl ⟨od, k, rfl, rfl⟩))
    all_goals cases e
  · rcases g with rfl | ⟨_, _, e, _⟩ | ⟨_, _, e, _⟩ | ⟨_, z, e, rfl⟩
    · exact .inr (.inr (.inr ⟨x, y, rfl, rfl⟩))
    · cases e
    · cases e
    · exact .inr (.inr (.inr ⟨x, z, rfl, rfl⟩))
def KeepAt (H' : Hp) (a : Addr) (o : HO) : Prop := ∃ o', H' a = some o' ∧ Kept o o'
theorem KeepAt.of {H' : Hp} {a : Addr} {o : HO} (h : H' a = some o) : KeepAt H' a o := ⟨o, h, .inl rfl⟩
theorem KeepAt.ins {H' : Hp} {a C dx : Addr} {fs : List (Str × V)} (k : KeepAt H' a (.ins C dx fs)) : H' a = some (.ins C dx fs) := by
  obtain ⟨o', h, rfl | ⟨_, _, e, _⟩ | ⟨_, _, e, _⟩ | ⟨_, _, e, _⟩⟩ := k
  · exact h
  all_goals cases e
theorem KeepAt.frz {H' : Hp} {a : Addr} {od : Obj} {u : HO} (k : KeepAt H' a (.frz od u)) : H' a = some (.frz od u) := by
  obtain ⟨o', h, rfl | ⟨_, _, e, _⟩ | ⟨_, _, e, _⟩ | ⟨_, _, e, _⟩⟩ := k
  · exact h
  all_goals cases e
theorem KeepAt.tup {H' : Hp} {a : Addr} {xs : List V} (k : KeepAt H' a (.tup xs)) : H' a = some (.tup xs) := by
  obtain ⟨o', h, rfl | ⟨_, _, e, _⟩ | ⟨_, _, e, _⟩ | ⟨_, _, e, _⟩⟩ := k
  · exact h
  all_goals cases e
theorem KeepAt.rd {H H' : Hp} {a : Addr} {u : HO} (r : Rd H a u) (k : ∀ o, H a = some o → KeepAt H' a o) : (∃ xs, u = .lst xs) ∨ (∃ xs, u = .tup xs) ∨ (∃ xs, u = .dK xs) ∨ (∃ xs, u = .dT xs) → Rd H' a u := by
  intro hu
  rcases r with r | ⟨ob, r⟩
  · obtain ⟨o', h', rfl | ⟨od, _, rfl, rfl⟩ | ⟨od, _, rfl, rfl⟩ | ⟨_, _, rfl, _⟩⟩ := k u r
    · exact .inl h'
    · exact .inr ⟨od, h'⟩
    · exact .inr ⟨od, h'⟩
    · rcases hu with ⟨_, e⟩ | ⟨_, e⟩ | ⟨_, e⟩ | ⟨_, e⟩ <;> cases e
  · exact .inr ⟨ob, (k _ r).frz⟩
/-- what is read as u at an address that may be leant on is so in the other heap and zone -/
def Keeps (Z Z' : Zone) (H H' : Hp) : Prop := ∀ a o, H a = some o → ¬ Z a → KeepAt H' a o ∧ ¬ Z' a
theorem Keeps.rd {Z Z' : Zone} {H H' : Hp} (k : Keeps Z Z' H H') {a : Addr} {u : HO} (r : Rd H a u) (z : ¬ Z a) (hu : (∃ xs, u = .lst xs) ∨ (∃ xs, u = .tup xs) ∨ (∃ xs, u = .dK xs) ∨ (∃ xs, u = .dT xs)) : Rd H' a u ∧ ¬ Z' a := by
  refine ⟨KeepAt.rd r (fun o h => (k a o h z).1) hu, ?_⟩
  rcases r with r | ⟨o, r⟩
  · exact (k _ _ r z).2
  · exact (k _ _ r z).2
section
variable {G : Wd} {Z Z' : Zone} {H H' : Hp}
mutual
theorem Rep.mono (k : Keeps Z Z' H H') : ∀ {d : D} {v : V}, Rep G Z H d v → Rep G Z' H' d v
  | _, _, .non => .non
  | _, _, .bl b => .bl b
  | _, _, .int i => .int i
  | _, _, .str x => .str x
  | _, _, .tup r z h => .tup (k.rd r z (.inr (.inl ⟨_, rfl⟩))).1 (k.rd r z (.inr (.inl ⟨_, rfl⟩))).2 (Reps.mono k h)
  | _, _, .tupK r h => .tupK r (Reps.mono k h)
  | _, _, .lst r z h => .lst (k.rd r z (.inl ⟨_, rfl⟩)).1 (k.rd r z (.inl ⟨_, rfl⟩)).2 (Reps.mono k h)
  | _, _, .dK r z h => .dK (k.rd r z (.inr (.inr (.inl ⟨_, rfl⟩)))).1 (k.rd r z (.inr (.inr (.inl ⟨_, rfl⟩)))).2 (RepK.mono k h)
  | _, _, .dT r z h => .dT (k.rd r z (.inr (.inr (.inr ⟨_, rfl⟩)))).1 (k.rd r z (.inr (.inr (.inr ⟨_, rfl⟩)))).2 (RepT.mono k h)
  | _, _, .ins e z c h => .ins (k _ _ e z).1.ins (k _ _ e z).2 c (RepF.mono k h)
  | _, _, .fn e => .fn e
  | _, _, .scr r z => .scr (k.rd r z (.inl ⟨_, rfl⟩)).1 (k.rd r z (.inl ⟨_, rfl⟩)).2
  | _, _, .scrK h => .scrK h
  | _, _, .tupX e c n z h => .tupX (k _ _ e z).1.frz c n (k _ _ e z).2 (Reps.mono k h)
theorem Reps.mono (k : Keeps Z Z' H H') : ∀ {d : List D} {v : List V}, Reps G Z H d v → Reps G Z' H' d v
  | _, _, .nil => .nil
  | _, _, .cons h t => .cons (Rep.mono k h) (Reps.mono k t)
theorem RepK.mono (k : Keeps Z Z' H H') : ∀ {d : List (D × D)} {v : List (Key × V)}, RepK G Z H d v → RepK G Z' H' d v
  | _, _, .nil => .nil
  | _, _, .int h t => .int (Rep.mono k h) (RepK.mono k t)
  | _, _, .str h t => .str (Rep.mono k h) (RepK.mono k t)
theorem RepT.mono (k : Keeps Z Z' H H') : ∀ {d : List (D × D)} {v : List (List Key × V)}, RepT G Z H d v → RepT G Z' H' d v
  | _, _, .nil => .nil
  | _, _, .cons e h t => .cons (Reps.mono k e) (Rep.mono k h) (RepT.mono k t)
theorem RepF.mono (k : Keeps Z Z' H H') : ∀ {d : List (Str × D)} {v : List (Str × V)}, RepF G Z H d v → RepF G Z' H' d v
  | _, _, .nil => .nil
  | _, _, .cons h t => .cons (Rep.mono k h) (RepF.mono k t)
end
theorem Reps.length : ∀ {ds : List D} {vs : List V}, Reps G Z H ds vs → ds.length = vs.length
  | _, _, .nil => rfl
  | _, _, .cons _ t => congrArg (· + 1) t.length
theorem Reps.get : ∀ {ds : List D} {vs : List V} {i : Nat} {d : D}, Reps G Z H ds vs → ds[i]? = some d → ∃ v, vs[i]? = some v ∧ Rep G Z H d v
  | _, _, _, _, .nil, e => by simp at e
  | _, _, 0, _, .cons r _, e => by simp at e; subst e; exact ⟨_, rfl, r⟩
  | _, _, i + 1, d, .cons _ t, e => by
    obtain ⟨v, h1, h2⟩ := Reps.get (i := i) (d := d) t (by simpa using e)
    exact ⟨v, by simpa using h1, h2⟩
theorem Reps.getV : ∀ {ds : List D} {vs : List V} {i : Nat} {v : V}, Reps G Z H ds vs → vs[i]? = some v → ∃ d, ds[i]? = some d ∧ Rep G Z H d v
  | _, _, _, _, .nil, e => by simp at e
  | _, _, 0, _, .cons r _, e => by simp at e; subst e; exact ⟨_, rfl, r⟩
  | _, _, i + 1, d, .cons _ t, e => by
    obtain ⟨v, h1, h2⟩ := Reps.getV (i := i) (v := d) t (by simpa using e)
    exact ⟨v, by simpa using h1, h2⟩
theorem Reps.append : ∀ {ds es : List D} {vs ws : List V}, Reps G Z H ds vs → Reps G Z H es ws → Reps G Z H (ds ++ es) (vs ++ ws)
  | _, _, _, _, .nil, s => s
  | _, _, _, _, .cons r t, s => .cons r (Reps.append t s)
theorem Reps.take : ∀ {ds : List D} {vs : List V} (n : Nat), Reps G Z H ds vs → Reps G Z H (ds.take n) (vs.take n)
  | _, _, 0, _ => .nil
  | _, _, _ + 1, .nil => .nil
  | _, _, n + 1, .cons r t => .cons r (Reps.take n t)
theorem Reps.drop : ∀ {ds : List D} {vs : List V} (n : Nat), Reps G Z H ds vs → Reps G Z H (ds.drop n) (vs.drop n)
  | _, _, 0, r => r
  | _, _, _ + 1, .nil => .nil
  | _, _, n + 1, .cons _ t => Reps.drop n t
theorem Reps.set {d : D} {v : V} (r : Rep G Z H d v) : ∀ {ds : List D} {vs : List V} (i : Nat), Reps G Z H ds vs → Reps G Z H (ds.set i d) (vs.set i v)
  | _, _, _, .nil => .nil
  | _, _, 0, .cons _ t => .cons r t
  | _, _, i + 1, .cons q t => .cons q (Reps.set r i t)
theorem Reps.one {d : D} {v : V} (r : Rep G Z H d v) : Reps G Z H [d] [v] := .cons r .nil
theorem Reps.none_of {ds : List D} {vs : List V} {i : Nat} (r : Reps G Z H ds vs) (e : ds[i]? = none) : vs[i]? = none := by
  rw [List.getElem?_eq_none_iff] at *
  have := r.length; omega
end

/-! ### the store -/
/-- the dict of an exception, if it has one -/
def XdAt (Z : Zone) (H : Hp) (dd : Option Addr) (vfs : List (Str × V)) : Prop := match dd with
  | some d => H d = some (.xd vfs) ∧ ¬ Z d
  | none => vfs = []
theorem XdAt.mono {Z Z' : Zone} {H H' : Hp} (k : Keeps Z Z' H H') {dd : Option Addr} {vfs : List (Str × V)} (h : XdAt Z H dd vfs) : XdAt Z' H' dd vfs := by
  cases dd with
  | none => exact h
  | some d =>
    obtain ⟨h1, h2⟩ := h
    obtain ⟨⟨o', e1, rfl | ⟨_, _, e, _⟩ | ⟨_, _, e, _⟩ | ⟨_, _, e, _⟩⟩, z⟩ := k d _ h1 h2
    · exact ⟨e1, z⟩
    all_goals cases e
theorem XdAt.zone {Z Z' : Zone} {H : Hp} (h : ∀ a, Z' a → Z a) {dd : Option Addr} {vfs : List (Str × V)} (x : XdAt Z H dd vfs) : XdAt Z' H dd vfs := x.mono fun a o e z => ⟨.of e, fun q => z (h a q)⟩
def Live (L : List Addr) (st : Sto) (a : Addr) : Prop := ∃ (n : Nat) (o : O), L[n]? = some a ∧ st[n]? = some o ∧ o.live = true
def Zof (Z : Zone) (L : List Addr) (st : Sto) : Zone := fun a => Z a ∨ Live L st a
inductive SRep (G : Wd) (Z : Zone) (H : Hp) (L : List Addr) : S → V → Prop
  | p {d : D} {v : V} : Rep G Z H d v → SRep G Z H L (.p d) v
  | r {n : Nat} {a : Addr} : L[n]? = some a → SRep G Z H L (.r n) (.ref a)
  | x {a C : Addr} {dd : Option Addr} {c : Str} {fs : List (Str × D)} {vfs : List (Str × V)} : G.exc = some (a, C, dd) → G.cls c = some C → XdAt Z H dd vfs → RepF G Z H fs vfs → SRep G Z H L (.x c fs) (.ref a)
inductive SRepF (G : Wd) (Z : Zone) (H : Hp) (L : List Addr) : List (Str × S) → List (Str × V) → Prop
  | nil : SRepF G Z H L [] []
  | cons {x : Str} {d : S} {v : V} {ds : List (Str × S)} {vs : List (Str × V)} : SRep G Z H L d v → SRepF G Z H L ds vs → SRepF G Z H L ((x, d) :: ds) ((x, v) :: vs)
/-- the places of things of one's own -/
def RowsAt (L : List Addr) (ns : List Nat) (as : List Addr) : Prop := as.map some = ns.map fun n => L[n]?
theorem RowsAt.mono {L L' : List Addr} (h : ∀ (n : Nat) (a : Addr), L[n]? = some a → L'[n]? = some a) : ∀ {ns : List Nat} {as : List Addr}, RowsAt L ns as → RowsAt L' ns as
  | [], [], _ => rfl
  | [], _ :: _, r => nomatch r
  | _ :: _, [], r => nomatch r
  | n :: ns, a :: as, r => by
    have r : some a :: as.map some = L[n]? :: ns.map fun n => L[n]? := r
    obtain ⟨r1, r2⟩ := List.cons.inj r
    show some a :: as.map some = L'[n]? :: ns.map fun n => L'[n]?
    rw [h n a r1.symm, show as.map some = ns.map (fun n => L'[n]?) from RowsAt.mono h r2]
def OOk (G : Wd) (Z : Zone) (H : Hp) (L : List Addr) (a : Addr) : O → Prop
  | .lst ds => ∃ vs, H a = some (.lst vs) ∧ Reps G Z H ds vs
  | .dic ds => ∃ kvs, H a = some (.dK kvs) ∧ RepK G Z H ds kvs
  | .diT ds => ∃ kvs, H a = some (.dT kvs) ∧ RepT G Z H ds kvs
  | .rows ns => ∃ as : List Addr, H a = some (.lst (as.map V.ref)) ∧ RowsAt L ns as
  | .ins c fs => ∃ C dx vfs, G.cls c = some C ∧ H a = some (.ins C dx vfs) ∧ SRepF G Z H L fs vfs
  | .frz d => Rep G Z H d (.ref a)
  | .dead => True
/-- the tables of code objects, out of the zone -/
def TabZ (T : List (Addr × Str)) (Z : Zone) (H : Hp) : Prop := ∀ p ∈ T, ¬ Z p.1 ∧ ∃ ps : Array Value, H p.1 = some (.tbl ps) ∧ TriplesOk ps.toList ∧
  ∀ (pos : Pos) (cv : Value), codeAmong pos ps.toList = some cv → ∃ c, cv = .ref c ∧ H c = some (LamX.CodeO c p.2) ∧ ¬ Z c
theorem TabZ.mono {T : List (Addr × Str)} {Z Z' : Zone} {H H' : Hp} (k : ∀ a o, H a = some o → ¬ Z a → H' a = some o ∧ ¬ Z' a) (t : TabZ T Z H) : TabZ T Z' H' := fun p hp => by
  obtain ⟨h0, ps, h1, h2, h3⟩ := t p hp
  obtain ⟨e1, e2⟩ := k _ _ h1 h0
  refine ⟨e2, ps, e1, h2, fun pos cv hc => ?_⟩
  obtain ⟨c, g1, g2, g3⟩ := h3 pos cv hc
  obtain ⟨e3, e4⟩ := k _ _ g2 g3
  exact ⟨c, g1, e3, e4⟩
theorem TabZ.zone {T : List (Addr × Str)} {Z Z' : Zone} {H : Hp} (h : ∀ a, Z' a → Z a) (t : TabZ T Z H) : TabZ T Z' H := t.mono fun a o e z => ⟨e, fun q => z (h a q)⟩
structure StOk (G : Wd) (Z : Zone) (L : List Addr) (st : Sto) (H : Hp) : Prop where
  len : L.length = st.length
  nd : L.Nodup
  obj : ∀ (n : Nat) (a : Addr) (o : O), L[n]? = some a → st[n]? = some o → OOk G (Zof Z L st) H L a o
  z0 : ∀ a, Z a → H a ≠ none
  zl : ∀ a ∈ L, ¬ Z a
  lh : ∀ a ∈ L, H a ≠ none
  tb : TabZ G.T (Zof Z L st) H
  nt : ∀ a, Z a → ∀ xs, H a ≠ some (.tup xs)
theorem nt_zk {Z : Zone} {H H' : Hp} (z0 : ∀ a, Z a → H a ≠ none) (nt : ∀ a, Z a → ∀ xs, H a ≠ some (.tup xs)) (k : ∀ a o, Z a → H a = some o → H' a = some o) : ∀ a, Z a → ∀ xs, H' a ≠ some (.tup xs) := fun a z xs e => by
  obtain ⟨o, ho⟩ := Option.ne_none_iff_exists'.mp (z0 a z)
  rw [k a o z ho] at e
  cases e
  exact nt a z xs ho
/-- from one state to a later one -/
structure Fw (Z : Zone) (L : List Addr) (st : Sto) (H : Hp) (L' : List Addr) (st' : Sto) (H' : Hp) : Prop where
  pre : ∃ M, L' = L ++ M ∧ ∀ a ∈ M, H a = none
  keep : ∀ a o, H a = some o → ¬ Live L st a → KeepAt H' a o
  there : ∀ a, H a ≠ none → H' a ≠ none
  zk : ∀ a o, Z a → H a = some o → H' a = some o
  live : ∀ (n : Nat) (o' : O), n < L.length → st'[n]? = some o' → o'.live = true → ∃ o, st[n]? = some o ∧ o.live = true
def EnvOk (G : Wd) (Z : Zone) (H : Hp) (L : List Addr) (ρ : Env) (σ : St) : Prop :=
  ρ.length = σ.length ∧ ∀ (i : Nat) (s : S), ρ[i]? = some (some s) → ∃ v, σ[i]? = some (some v) ∧ SRep G Z H L s v
section
variable {G : Wd} {Z : Zone} {L L' L2 : List Addr} {st st' st2 : Sto} {H H' H2 : Hp}
theorem Fw.refl : Fw Z L st H L st H := ⟨⟨[], by simp, by simp⟩, fun _ _ e _ => .of e, fun _ h => h, fun _ _ _ e => e, fun n o' _ e l => ⟨o', e, l⟩⟩
theorem Fw.live_of (f : Fw Z L st H L' st' H') {a : Addr} (h : Live L' st' a) : Live L st a ∨ H a = none := by
  obtain ⟨n, o', e1, e2, l⟩ := h
  obtain ⟨M, rfl, hM⟩ := f.pre
  by_cases hn : n < L.length
  · obtain ⟨o, e3, l3⟩ := f.live n o' hn e2 l
    rw [List.getElem?_append_left hn] at e1
    exact .inl ⟨n, o, e1, e3, l3⟩
  · rw [List.getElem?_append_right (by omega)] at e1
    exact .inr (hM a (List.mem_of_getElem? e1))
theorem Fw.keeps (f : Fw Z L st H L' st' H') : Keeps (Zof Z L st) (Zof Z L' st') H H' := fun a o e z => by
  have nl : ¬ Live L st a := fun q => z (.inr q)
  refine ⟨f.keep a o e nl, fun q => ?_⟩
  rcases q with q | q
  · exact z (.inl q)
  · rcases f.live_of q with q | q
    · exact nl q
    · rw [e] at q; cases q
theorem Fw.trans (f : Fw Z L st H L' st' H') (g : Fw Z L' st' H' L2 st2 H2) : Fw Z L st H L2 st2 H2 := by
  refine ⟨?_, fun a o e nl => ?_, fun a h => g.there a (f.there a h), fun a o z e => g.zk a o z (f.zk a o z e), fun n o2 hn e l => ?_⟩
  · obtain ⟨M, rfl, hM⟩ := f.pre
    obtain ⟨M2, rfl, hM2⟩ := g.pre
    refine ⟨M ++ M2, by simp, fun a ha => ?_⟩
    rcases List.mem_append.mp ha with ha | ha
    · exact hM a ha
    · cases q : H a with
      | none => rfl
      | some o => exact absurd (hM2 a ha) (f.there a (by rw [q]; simp))
  · obtain ⟨o1, e1, c1⟩ := f.keep a o e nl
    have nl1 : ¬ Live L' st' a := fun q => by
      rcases f.live_of q with q | q
      · exact nl q
      · rw [e] at q; cases q
    obtain ⟨o2, e2, c2⟩ := g.keep a o1 e1 nl1
    exact ⟨o2, e2, c1.trans c2⟩
  · obtain ⟨M, rfl, hM⟩ := f.pre
    obtain ⟨o1, e1, l1⟩ := g.live n o2 (by simp; omega) e l
    exact f.live n o1 hn e1 l1
theorem Fw.get (f : Fw Z L st H L' st' H') {n : Nat} {a : Addr} (e : L[n]? = some a) : L'[n]? = some a := by
  obtain ⟨M, rfl, _⟩ := f.pre
  rw [List.getElem?_append_left (List.getElem?_eq_some_iff.mp e).1]
  exact e
theorem SRep.mono (f : Fw Z L st H L' st' H') {s : S} {v : V} (h : SRep G (Zof Z L st) H L s v) : SRep G (Zof Z L' st') H' L' s v := by
  cases h with
  | p r => exact .p (r.mono f.keeps)
  | r e => exact .r (f.get e)
  | x e1 e2 e3 e4 => exact .x e1 e2 (e3.mono f.keeps) (e4.mono f.keeps)
theorem EnvOk.mono (f : Fw Z L st H L' st' H') {ρ : Env} {σ : St} (h : EnvOk G (Zof Z L st) H L ρ σ) : EnvOk G (Zof Z L' st') H' L' ρ σ :=
  ⟨h.1, fun i s e => let ⟨v, e2, r⟩ := h.2 i s e; ⟨v, e2, r.mono f⟩⟩
/-- only new objects -/
theorem Fw.same (e : Same H H') : Fw Z L st H L st H' := ⟨⟨[], by simp, by simp⟩, fun a o h _ => .of (e a o h), fun a h q => h (by
  cases r : H a with
  | none => rfl
  | some o => rw [e a o r] at q; cases q), fun a o _ h => e a o h, fun n o' _ e l => ⟨o', e, l⟩⟩
theorem SRepF.mono (f : Fw Z L st H L' st' H') : ∀ {ds : List (Str × S)} {vs : List (Str × V)}, SRepF G (Zof Z L st) H L ds vs → SRepF G (Zof Z L' st') H' L' ds vs
  | _, _, .nil => .nil
  | _, _, .cons h t => .cons (h.mono f) (SRepF.mono f t)
theorem OOk.same (e : Same H H') {a : Addr} : ∀ {o : O}, OOk G (Zof Z L st) H L a o → OOk G (Zof Z L st) H' L a o
  | .lst ds, ⟨vs, h, r⟩ => ⟨vs, e _ _ h, r.mono (Fw.same e).keeps⟩
  | .dic ds, ⟨vs, h, r⟩ => ⟨vs, e _ _ h, r.mono (Fw.same e).keeps⟩
  | .diT ds, ⟨vs, h, r⟩ => ⟨vs, e _ _ h, r.mono (Fw.same e).keeps⟩
  | .rows ns, ⟨as, h, r⟩ => ⟨as, e _ _ h, r⟩
  | .ins c fs, ⟨C, dx, vfs, hc, h, r⟩ => ⟨C, dx, vfs, hc, e _ _ h, r.mono (Fw.same e)⟩
  | .frz d, h => Rep.mono (Fw.same e).keeps h
  | .dead, _ => trivial
theorem some_of_same (e : Same H H') {a : Addr} (h : H a ≠ none) : H' a ≠ none := (Fw.same (Z := fun _ => False) (L := []) (st := []) e).there a h
theorem StOk.same (e : Same H H') (h : StOk G Z L st H) : StOk G Z L st H' :=
  ⟨h.len, h.nd, fun n a o e1 e2 => (h.obj n a o e1 e2).same e, fun a z => some_of_same e (h.z0 a z), h.zl, fun a m => some_of_same e (h.lh a m), h.tb.mono fun a o q z => ⟨e a o q, z⟩, nt_zk h.z0 h.nt fun a o _ q => e a o q⟩
theorem same_new {H : Hp} {p : Addr} {o : HO} (h : H p = none) : Same H (upd H p o) := fun b x e => by
  rw [upd_ne (ne_of_none e h)]
  exact e
end

/-! ### the judgements -/
structure Stt (G : Wd) (Z : Zone) (ρ : Env) (st : Sto) (L : List Addr) (σ : St) (H : Hp) : Prop where
  ok : StOk G Z L st H
  env : EnvOk G (Zof Z L st) H L ρ σ
section
variable {G : Wd} {Z : Zone} {ρ : Env} {st st' : Sto} {L L' : List Addr} {σ : St} {H H' : Hp}
theorem Stt.to (S : Stt G Z ρ st L σ H) (f : Fw Z L st H L' st' H') (o : StOk G Z L' st' H') : Stt G Z ρ st' L' σ H' := ⟨o, S.env.mono f⟩
end
/-- an exception that leaves -/
def ExP (G : Wd) (Z : Zone) (L : List Addr) (st : Sto) (H : Hp) (c : Str) (fs : List (Str × D)) (st' : Sto) (P : Value → Option Addr → Hp → Prop) : Prop :=
  ∀ H' L' C dd vfs, Fw Z L st H L' st' H' → StOk G Z L' st' H' → G.cls c = some C → XdAt (Zof Z L' st') H' dd vfs → RepF G (Zof Z L' st') H' fs vfs → P (.ref C) dd H'
def PostR {α β : Type} (G : Wd) (Z : Zone) (W : WX) (R : Zone → Hp → α → β → Prop) (σ : St) (L : List Addr) (st : Sto) (H : Hp) (r : Res α) (Q : β → Hp → Prop) : Prop := match r with
  | .ok d st' => ∀ v H' L', Fw Z L st H L' st' H' → StOk G Z L' st' H' → R (Zof Z L' st') H' d v → Q v H'
  | .exc c fs st' => ExP G Z L st H c fs st' fun cv dd H' => W cv dd σ H'
  | .stuck => False
abbrev RB : Zone → Hp → Bool → Bool → Prop := fun _ _ a b => a = b
def tM (G : Wd) (W : WX) (f : Den) : TE := fun σ H Q => ∃ Z ρ st L, Stt G Z ρ st L σ H ∧ PostR G Z W (fun Z H => Rep G Z H) σ L st H (f ρ st) Q
def tMB (G : Wd) (W : WX) (f : DenB) : TT := fun σ H Q => ∃ Z ρ st L, Stt G Z ρ st L σ H ∧ PostR G Z W RB σ L st H (f ρ st) Q
def tMA (G : Wd) (W : WX) (f : DenL) : TA := fun σ H Q => ∃ Z ρ st L, Stt G Z ρ st L σ H ∧ PostR G Z W (fun Z H => Reps G Z H) σ L st H (f ρ st) Q
/-- an expression that hands back a new list | dict | .. of its own (C: how its content lies) -/
structure FwN (G : Wd) (Z : Zone) (L : List Addr) (st : Sto) (H : Hp) (L' : List Addr) (st' : Sto) (H' : Hp) (p : Addr) : Prop where
  fr : Fw Z L st H L' st' H'
  ok : StOk G (fun a => Z a ∨ a = p) L' st' H'
  new : H p = none
def tMN (G : Wd) (W : WX) (f : Env → Sto → Res O) : TE := fun σ H Q => ∃ Z ρ st L, Stt G Z ρ st L σ H ∧ (match f ρ st with
  | .ok o st' => ∀ p H' L', FwN G Z L st H L' st' H' p → OOk G (Zof (fun a => Z a ∨ a = p) L' st') H' L' p o → Q (.ref p) H'
  | .exc c fs st' => ExP G Z L st H c fs st' fun cv dd H' => W cv dd σ H'
  | .stuck => False)
def PostS (G : Wd) (Z : Zone) (W : WX) (L : List Addr) (st : Sto) (H : Hp) (r : SRes) (E : Ends) : Prop := match r with
  | .next ρ' st' => ∀ σ' H' L', Fw Z L st H L' st' H' → Stt G Z ρ' st' L' σ' H' → E.nx σ' H'
  | .ret d st' => ∀ v H' L', Fw Z L st H L' st' H' → StOk G Z L' st' H' → Rep G (Zof Z L' st') H' d v → E.rt v H'
  | .brk ρ' st' => ∀ σ' H' L', Fw Z L st H L' st' H' → Stt G Z ρ' st' L' σ' H' → E.bk σ' H'
  | .cont ρ' st' => ∀ σ' H' L', Fw Z L st H L' st' H' → Stt G Z ρ' st' L' σ' H' → E.ct σ' H'
  | .exc c fs ρ' st' => ∀ σ' H' L' C dd vfs, Fw Z L st H L' st' H' → Stt G Z ρ' st' L' σ' H' → G.cls c = some C → XdAt (Zof Z L' st') H' dd vfs → RepF G (Zof Z L' st') H' fs vfs → W (.ref C) dd σ' H'
  | .stuck => False
def tMS (G : Wd) (W : WX) (f : SDen) : TS := fun E σ H => ∃ Z ρ st L, Stt G Z ρ st L σ H ∧ PostS G Z W L st H (f ρ st) E
abbrev ME (G : Wd) (W : WX) (X : Cx) (e : Expr) (f : Den) : Prop := PE X e (tM G W f)
abbrev MT (G : Wd) (W : WX) (X : Cx) (e : Expr) (f : DenB) : Prop := PT X e (tMB G W f)
abbrev MW (G : Wd) (W : WX) (X : Cx) (e : Expr) (f : DenB) : Prop := PW X e (tMB G W f)
abbrev MA (G : Wd) (W : WX) (X : Cx) (es : List Expr) (f : DenL) : Prop := PA X es (tMA G W f)
abbrev MN (G : Wd) (W : WX) (X : Cx) (e : Expr) (f : Env → Sto → Res O) : Prop := PE X e (tMN G W f)
abbrev MS (G : Wd) (W : WX) (X : Cx) (s : Stmt) (f : SDen) : Prop := PS X s (tMS G W f)
abbrev MSs (G : Wd) (W : WX) (X : Cx) (s : List Stmt) (f : SDen) : Prop := PSs X s (tMS G W f)
section
variable {X : Cx} {e : Expr} {es : List Expr}
theorem PE.imp {t t' : TE} (h : PE X e t) (i : ∀ σ H Q, t' σ H Q → t σ H Q) : PE X e t' := ⟨fun pins s σ H Q I q => h.run pins s σ H Q I (i σ H Q q)⟩
theorem PT.imp {t t' : TT} (h : PT X e t) (i : ∀ σ H Q, t' σ H Q → t σ H Q) : PT X e t' := ⟨fun pins s σ H Q I q => h.run pins s σ H Q I (i σ H Q q)⟩
theorem PW.imp {t t' : TT} (h : PW X e t) (i : ∀ σ H Q, t' σ H Q → t σ H Q) : PW X e t' := ⟨fun wh pins s σ H Q I q => h.run wh pins s σ H Q I (i σ H Q q)⟩
theorem PA.imp {t t' : TA} (h : PA X es t) (i : ∀ σ H Q, t' σ H Q → t σ H Q) : PA X es t' := ⟨fun pos pins s σ H Q I q => h.run pos pins s σ H Q I (i σ H Q q)⟩
theorem PS.imp {s : Stmt} {t t' : TS} (h : PS X s t) (i : ∀ D σ H, t' D σ H → t D σ H) : PS X s t' := ⟨fun pins sh σ H D I q => h.run pins sh σ H D I (i D σ H q)⟩
theorem PSs.imp {s : List Stmt} {t t' : TS} (h : PSs X s t) (i : ∀ D σ H, t' D σ H → t D σ H) : PSs X s t' := ⟨fun pins sh σ H D I q => h.run pins sh σ H D I (i D σ H q)⟩
end
/-- an exception further on -/
theorem ExP.on {G : Wd} {Z : Zone} {L L' : List Addr} {st st' st2 : Sto} {H H' : Hp} {c : Str} {fs : List (Str × D)} {P : Value → Option Addr → Hp → Prop} (f : Fw Z L st H L' st' H') (h : ExP G Z L st H c fs st2 P) : ExP G Z L' st' H' c fs st2 P :=
  fun H2 L2 C dd vfs g => h H2 L2 C dd vfs (f.trans g)
/-- the step of a sequence: from the first part's end to the whole -/
theorem PostR.bind {α β α' β' : Type} {G : Wd} {Z : Zone} {W : WX} {R : Zone → Hp → α → β → Prop} {R' : Zone → Hp → α' → β' → Prop} {σ : St} {L : List Addr} {st : Sto} {H : Hp} {r : Res α} {k : α → Sto → Res α'} {Q' : β' → Hp → Prop} {Q : β → Hp → Prop}
    (h : PostR G Z W R' σ L st H (r.bind k) Q')
    (hk : ∀ d st1 v H1 L1, r = .ok d st1 → Fw Z L st H L1 st1 H1 → StOk G Z L1 st1 H1 → R (Zof Z L1 st1) H1 d v → PostR G Z W R' σ L1 st1 H1 (k d st1) Q' → Q v H1) : PostR G Z W R σ L st H r Q := by
  cases r with
  | ok d st1 =>
    intro v H1 L1 f o rv
    refine hk d st1 v H1 L1 rfl f o rv ?_
    have h' : PostR G Z W R' σ L st H (k d st1) Q' := h
    revert h'
    cases k d st1 with
    | ok d2 st2 => exact fun h' v2 H2 L2 f2 o2 r2 => h' v2 H2 L2 (f.trans f2) o2 r2
    | exc c fs st2 => exact fun h' => ExP.on (P := fun cv dd H' => W cv dd σ H') f h'
    | stuck => exact fun h' => h'
  | exc c fs st1 => exact h
  | stuck => exact h
end M
namespace M
open PySem PySem.Spec L2

/-! ### views: what may be read, though its container be live -/
inductive View (G : Wd) (Z : Zone) (H : Hp) : D → V → Prop
  | rep {d : D} {v : V} : Rep G Z H d v → View G Z H d v
  | lst {a : Addr} {vs : List V} {ds : List D} : Rd H a (.lst vs) → Reps G Z H ds vs → View G Z H (.lst ds) (.ref a)
  | dK {a : Addr} {kvs : List (Key × V)} {ds : List (D × D)} : Rd H a (.dK kvs) → RepK G Z H ds kvs → View G Z H (.dic ds) (.ref a)
  | dT {a : Addr} {kvs : List (List Key × V)} {ds : List (D × D)} : Rd H a (.dT kvs) → RepT G Z H ds kvs → View G Z H (.diT ds) (.ref a)
def tMV (G : Wd) (W : WX) (f : Den) : TE := fun σ H Q => ∃ Z ρ st L, Stt G Z ρ st L σ H ∧ PostR G Z W (fun Z H => View G Z H) σ L st H (f ρ st) Q
abbrev MV (G : Wd) (W : WX) (X : Cx) (e : Expr) (f : Den) : Prop := PE X e (tMV G W f)
section
variable {G : Wd} {W : WX} {X : Cx} {Z Z' : Zone} {H H' : Hp}
theorem View.tup {ds : List D} {v : V} (h : View G Z H (.tup ds) v) : ∃ a vs, v = .ref a ∧ SqT G.K H a vs ∧ Reps G Z H ds vs := by
  cases h with
  | rep h => cases h with
    | tup r z h => exact ⟨_, _, rfl, .inl r, h⟩
    | tupK r h => exact ⟨_, _, rfl, .inr r, h⟩
theorem View.list {ds : List D} {v : V} (h : View G Z H (.lst ds) v) : ∃ a vs, v = .ref a ∧ Rd H a (.lst vs) ∧ Reps G Z H ds vs := by
  cases h with
  | rep h => cases h with
    | lst r z h => exact ⟨_, _, rfl, r, h⟩
  | lst r h => exact ⟨_, _, rfl, r, h⟩
theorem Rep.tup' {ds : List D} {v : V} (h : Rep G Z H (.tup ds) v) : ∃ a vs, v = .ref a ∧ SqT G.K H a vs ∧ Reps G Z H ds vs := View.tup (.rep h)
theorem Rep.list' {ds : List D} {v : V} (h : Rep G Z H (.lst ds) v) : ∃ a vs, v = .ref a ∧ Rd H a (.lst vs) ∧ Reps G Z H ds vs := View.list (.rep h)
theorem Rep.int' {i : Int} {v : V} (h : Rep G Z H (.int i) v) : v = .int i := by cases h; rfl
theorem Rep.bl' {i : Bool} {v : V} (h : Rep G Z H (.bl i) v) : v = .bl i := by cases h; rfl
theorem Rep.str' {i : Str} {v : V} (h : Rep G Z H (.str i) v) : v = .str i := by cases h; rfl
theorem Rep.non' {v : V} (h : Rep G Z H .non v) : v = .non := by cases h; rfl
theorem View.int' {i : Int} {v : V} (h : View G Z H (.int i) v) : v = .int i := by cases h with | rep h => exact h.int'
theorem View.bl' {i : Bool} {v : V} (h : View G Z H (.bl i) v) : v = .bl i := by cases h with | rep h => exact h.bl'
theorem View.str' {i : Str} {v : V} (h : View G Z H (.str i) v) : v = .str i := by cases h with | rep h => exact h.str'
theorem View.mono (k : Keeps Z Z' H H') (kl : ∀ a u, Rd H a u → Rd H' a u) {d : D} {v : V} (h : View G Z H d v) : View G Z' H' d v := by
  cases h with
  | rep h => exact .rep (h.mono k)
  | lst r h => exact .lst (kl _ _ r) (h.mono k)
  | dK r h => exact .dK (kl _ _ r) (h.mono k)
  | dT r h => exact .dT (kl _ _ r) (h.mono k)
theorem Same.rd (e : Same H H') (a : Addr) (u : HO) (h : Rd H a u) : Rd H' a u := by
  rcases h with h | ⟨o, h⟩
  · exact .inl (e _ _ h)
  · exact .inr ⟨o, e _ _ h⟩
/-- the zone lies within what is tracked -/
def In (Z : Zone) (H : Hp) : Prop := ∀ a, Z a → H a ≠ none
theorem Same.keeps (e : Same H H') : Keeps Z Z H H' := fun a o h z => ⟨.of (e a o h), z⟩
theorem In.same (i : In Z H) (e : Same H H') : In Z H' := fun a z => some_of_same e (i a z)
theorem In.not (i : In Z H) {p : Addr} (h : H p = none) : ¬ Z p := fun z => i p z h
theorem Reps.new {ds : List D} {vs : List V} {p : Addr} {o : HO} (r : Reps G Z H ds vs) (h : H p = none) : Reps G Z (upd H p o) ds vs := r.mono (Same.keeps (same_new h))
theorem new_tup {ds : List D} {vs : List V} {p : Addr} (i : In Z H) (r : Reps G Z H ds vs) (h : H p = none) : Rep G Z (upd H p (.tup vs)) (.tup ds) (.ref p) :=
  .tup (.inl upd_same) (i.not h) (r.new h)
theorem new_lst {ds : List D} {vs : List V} {p : Addr} (i : In Z H) (r : Reps G Z H ds vs) (h : H p = none) : Rep G Z (upd H p (.lst vs)) (.lst ds) (.ref p) :=
  .lst (.inl upd_same) (i.not h) (r.new h)
theorem StOk.inn {L : List Addr} {st : Sto} (S : StOk G Z L st H) : In (Zof Z L st) H := fun a z => by
  rcases z with z | ⟨n, o, e, _, _⟩
  · exact S.z0 a z
  · exact S.lh a (List.mem_of_getElem? e)
end

/-! ### names, constants -/
@[simp] def eC (d : D) : Den := fun _ st => .ok d st
@[simp] def thaw : O → Option D
  | .frz d => some d | .lst ds => some (.lst ds) | .dic kvs => some (.dic kvs) | .diT kvs => some (.diT kvs) | _ => none
@[simp] def eVar (i : Nat) : Den := fun ρ st => match ρ[i]? with
  | some (some (.p d)) => .ok d st
  | some (some (.r n)) => match (st[n]?).bind thaw with
    | some d => .ok d (st.set n (.frz d))
    | none => .stuck
  | _ => .stuck
/-- a name read within an operation that lets nothing of it go -/
@[simp] def eVarB (i : Nat) : Den := fun ρ st => match ρ[i]? with
  | some (some (.p d)) => .ok d st
  | some (some (.r n)) => match (st[n]?).bind thaw with
    | some d => .ok d st
    | none => .stuck
  | _ => .stuck
section
variable {G : Wd} {W : WX} {X : Cx} {Z Z' : Zone} {H H' : Hp} {L : List Addr} {st : Sto}
theorem PostR.pure {α β : Type} {R : Zone → Hp → α → β → Prop} {σ : St} {d : α} {v : β} {Q : β → Hp → Prop} (S : StOk G Z L st H) (h : PostR G Z W R σ L st H (.ok d st) Q) (r : R (Zof Z L st) H d v) : Q v H :=
  h v H L Fw.refl S r
theorem me_c {e : Expr} {d : D} {v : V} (h : PE X e (tC v)) (r : ∀ Z H, Rep G Z H d v) : ME G W X e (eC d) :=
  PE.imp h fun σ H Q q => by
    obtain ⟨Z, ρ, st, L, S, h⟩ := q
    exact PostR.pure (W := W) (R := fun Z H => Rep G Z H) S.ok h (r _ _)
theorem me_int {i : Int} {j pos} : ME G W X (.Constant (.int i) j pos) (eC (.int i)) := me_c pe_int fun _ _ => .int i
theorem me_bl {b : Bool} {j pos} : ME G W X (.Constant (.bool b) j pos) (eC (.bl b)) := me_c pe_bl fun _ _ => .bl b
theorem me_non {j pos} : ME G W X (.Constant .none j pos) (eC .non) := me_c pe_non fun _ _ => .non
theorem me_str {x : Str} {j pos} : ME G W X (.Constant (.str x) j pos) (eC (.str x)) := me_c pe_str fun _ _ => .str x
theorem OOk.thaw {a : Addr} {o : O} {d : D} (zl : ¬ Z a) (h : OOk G (Zof Z L st) H L a o) (e : M.thaw o = some d) : View G (Zof Z L st) H d (.ref a) := by
  cases o with
  | lst ds =>
    obtain ⟨vs, h1, h2⟩ := h
    cases e
    exact .lst (.inl h1) h2
  | dic ds =>
    cases e
    obtain ⟨kvs, h1, h2⟩ := h
    exact .dK (.inl h1) h2
  | diT ds =>
    cases e
    obtain ⟨kvs, h1, h2⟩ := h
    exact .dT (.inl h1) h2
  | frz d =>
    cases e
    exact .rep h
  | rows ns => cases e
  | ins c fs => cases e
  | dead => cases e
theorem getElem?_set_cases {α : Type} {l : List α} {n m : Nat} {x y : α} (h : (l.set n x)[m]? = some y) : (m = n ∧ y = x ∧ n < l.length) ∨ (m ≠ n ∧ l[m]? = some y) := by
  by_cases e : m = n
  · subst e
    by_cases hl : m < l.length
    · rw [List.getElem?_set_self hl] at h
      exact .inl ⟨rfl, (Option.some.inj h).symm, hl⟩
    · rw [List.getElem?_eq_none (by simpa using hl)] at h
      cases h
  · rw [List.getElem?_set_ne (Ne.symm e)] at h
    exact .inr ⟨e, h⟩
theorem nodup_at {l : List Addr} (nd : l.Nodup) {i j : Nat} {a : Addr} (h : l[i]? = some a) (h' : l[j]? = some a) : i = j := by
  obtain ⟨hi, ei⟩ := List.getElem?_eq_some_iff.mp h
  obtain ⟨hj, ej⟩ := List.getElem?_eq_some_iff.mp h'
  exact (List.getElem_inj (h₀ := hi) (h₁ := hj) nd).mp (by rw [ei, ej])
/-- a store object written at n: the state behind -/
theorem Fw.setN (S : StOk G Z L st H) {n : Nat} {o o' : O} (e : st[n]? = some o) (lv : o'.live = true → o.live = true) : Fw Z L st H L (st.set n o') H :=
  ⟨⟨[], by simp, by simp⟩, fun _ _ h _ => .of h, fun _ h => h, fun _ _ _ h => h, fun m o2 hm e2 l2 => by
    rcases getElem?_set_cases e2 with ⟨rfl, rfl, _⟩ | ⟨_, h⟩
    · exact ⟨o, e, lv l2⟩
    · exact ⟨o2, h, l2⟩⟩
theorem OOk.mono {L' : List Addr} {st' : Sto} (f : Fw Z L st H L' st' H') {a : Addr} (k : H' a = H a) : ∀ {o : O}, OOk G (Zof Z L st) H L a o → OOk G (Zof Z L' st') H' L' a o
  | .lst ds, ⟨vs, h, r⟩ => ⟨vs, k.trans h, r.mono f.keeps⟩
  | .dic ds, ⟨vs, h, r⟩ => ⟨vs, k.trans h, r.mono f.keeps⟩
  | .diT ds, ⟨vs, h, r⟩ => ⟨vs, k.trans h, r.mono f.keeps⟩
  | .rows ns, ⟨as, h, r⟩ => ⟨as, k.trans h, r.mono fun _ _ e => f.get e⟩
  | .ins c fs, ⟨C, dx, vfs, hc, h, r⟩ => ⟨C, dx, vfs, hc, k.trans h, r.mono f⟩
  | .frz d, h => Rep.mono f.keeps h
  | .dead, _ => trivial
theorem StOk.freeze (S : StOk G Z L st H) {n : Nat} {o : O} {d : D} (e : st[n]? = some o) (t : M.thaw o = some d) : StOk G Z L (st.set n (.frz d)) H := by
  have f : Fw Z L st H L (st.set n (.frz d)) H := Fw.setN S e fun z => nomatch z
  refine ⟨by simpa using S.len, S.nd, fun m a o' e1 e2 => ?_, S.z0, S.zl, S.lh, S.tb.mono fun a o q z => ⟨q, (f.keeps a o q z).2⟩, S.nt⟩
  rcases getElem?_set_cases e2 with ⟨rfl, rfl, hl⟩ | ⟨_, h⟩
  · have ok := S.obj m a o e1 e
    have za : ¬ Zof Z L (st.set m (.frz d)) a := fun z => by
      rcases z with z | ⟨j, u, j1, j2, j3⟩
      · exact S.zl a (List.mem_of_getElem? e1) z
      · have := nodup_at S.nd j1 e1
        subst this
        rw [List.getElem?_set_self hl] at j2
        cases j2
        cases j3
    cases o with
    | lst ds =>
      obtain ⟨vs, h1, h2⟩ := ok
      cases t
      exact .lst (.inl h1) za (h2.mono f.keeps)
    | dic ds =>
      cases t
      obtain ⟨kvs, h1, h2⟩ := ok
      exact .dK (.inl h1) za (h2.mono f.keeps)
    | diT ds =>
      cases t
      obtain ⟨kvs, h1, h2⟩ := ok
      exact .dT (.inl h1) za (h2.mono f.keeps)
    | frz d' =>
      cases t
      exact Rep.mono f.keeps ok
    | ins c fs => cases t
    | rows ns => cases t
    | dead => cases t
  · exact (S.obj m a o' e1 h).mono f rfl
theorem me_var (i : Nat) {x : Str} {pos : Pos} (h : PE X (.Name x pos) (tVar i)) : ME G W X (.Name x pos) (eVar i) :=
  PE.imp h fun σ H Q q => by
    obtain ⟨Z, ρ, st, L, S, h⟩ := q
    unfold eVar at h
    split at h
    · rename_i d e
      obtain ⟨v, ev, r⟩ := S.env.2 i _ e
      cases r with
      | p r => exact ⟨v, ev, PostR.pure (W := W) (R := fun Z H => Rep G Z H) S.ok h r⟩
    · rename_i n e
      obtain ⟨v, ev, r⟩ := S.env.2 i _ e
      cases r with
      | r r =>
        rename_i a
        split at h
        · rename_i d ed
          obtain ⟨o, eo, et⟩ := Option.bind_eq_some_iff.mp ed
          have f : Fw Z L st H L (st.set n (.frz d)) H := Fw.setN S.ok eo fun z => nomatch z
          have S2 := S.ok.freeze eo et
          refine ⟨_, ev, h _ H L f S2 ?_⟩
          exact S2.obj n a (.frz d) r (List.getElem?_set_self (List.getElem?_eq_some_iff.mp eo).1)
        · exact h.elim
    · exact h.elim
theorem mv_var (i : Nat) {x : Str} {pos : Pos} (h : PE X (.Name x pos) (tVar i)) : MV G W X (.Name x pos) (eVarB i) :=
  PE.imp h fun σ H Q q => by
    obtain ⟨Z, ρ, st, L, S, h⟩ := q
    unfold eVarB at h
    split at h
    · rename_i d e
      obtain ⟨v, ev, r⟩ := S.env.2 i _ e
      cases r with
      | p r => exact ⟨v, ev, PostR.pure (W := W) (R := fun Z H => View G Z H) S.ok h (.rep r)⟩
    · rename_i n e
      obtain ⟨v, ev, r⟩ := S.env.2 i _ e
      cases r with
      | r r =>
        rename_i a
        split at h
        · rename_i d ed
          obtain ⟨o, eo, et⟩ := Option.bind_eq_some_iff.mp ed
          exact ⟨_, ev, PostR.pure (W := W) (R := fun Z H => View G Z H) S.ok h ((S.ok.obj n a o r eo).thaw (S.ok.zl a (List.mem_of_getElem? r)) et)⟩
        · exact h.elim
    · exact h.elim
theorem mv_of {e : Expr} {f : Den} (h : ME G W X e f) : MV G W X e f :=
  PE.imp h fun σ H Q q => by
    obtain ⟨Z, ρ, st, L, S, h⟩ := q
    refine ⟨Z, ρ, st, L, S, ?_⟩
    cases e : f ρ st with
    | ok d st' =>
      rw [e] at h
      exact fun v H' L' f o r => h v H' L' f o (.rep r)
    | exc c fs st' => rw [e] at h; exact h
    | stuck => rw [e] at h; exact h
end

/-! ### operations by values -/
@[simp] def eOp1 (g : D → Option D) (f : Den) : Den := fun ρ st => (f ρ st).bind fun d st => match g d with | some z => .ok z st | none => .stuck
@[simp] def eOp2 (g : D → D → Option D) (f h : Den) : Den := fun ρ st => (f ρ st).bind fun d st => (h ρ st).bind fun e st => match g d e with | some z => .ok z st | none => .stuck
/-- what an operation's reading r asks is had from g -/
def Sim1 (G : Wd) (g : D → Option D) (r : V → Hp → VK → Prop) : Prop := ∀ Z H d x z Q, In Z H → View G Z H d x → g d = some z → (∀ v H', Same H H' → Rep G Z H' z v → Q v H') → r x H Q
def Sim2 (G : Wd) (g : D → D → Option D) (r : R2) : Prop := ∀ Z H d e x y z Q, In Z H → View G Z H d x → View G Z H e y → g d e = some z → (∀ v H', Same H H' → Rep G Z H' z v → Q v H') → r x y H Q
section
variable {G : Wd} {W : WX} {X : Cx}
theorem me_un {op : UnaryOp} {r : V → Hp → VK → Prop} {a : Expr} {f : Den} {pos : Pos} {g : D → Option D} (ho : UnR X (unaryOp op) r) (s : Sim1 G g r) (ha : MV G W X a f) : ME G W X (.UnaryOp op a pos) (eOp1 g f) :=
  PE.imp (pe_un ho ha) fun σ H Q q => by
    obtain ⟨Z, ρ, st, L, S, h⟩ := q
    refine ⟨Z, ρ, st, L, S, PostR.bind h fun d st1 v H1 L1 e f1 o1 r1 h1 => ?_⟩
    split at h1
    · rename_i z ez
      exact s _ _ _ _ z _ o1.inn r1 ez fun v' H' e' r' => h1 v' H' L1 (Fw.same e') (o1.same e') r'
    · exact h1.elim
/-- two parts, then what they give -/
theorem two {f h : Den} {g : D → D → Option D} {r : R2} (s : Sim2 G g r) {σ : St} {H : Hp} {Q : VK} (q : tM G W (eOp2 g f h) σ H Q) : tM G W f σ H fun x H1 => tMV G W h σ H1 fun y H2 => r x y H2 Q := by
  obtain ⟨Z, ρ, st, L, S, q⟩ := q
  refine ⟨Z, ρ, st, L, S, PostR.bind q fun d st1 x H1 L1 e f1 o1 r1 q1 => ?_⟩
  refine ⟨Z, ρ, st1, L1, S.to f1 o1, PostR.bind q1 fun d2 st2 y H2 L2 e2 f2 o2 r2 q2 => ?_⟩
  split at q2
  · rename_i z ez
    exact s _ _ _ _ _ _ z _ o2.inn (.rep (r1.mono f2.keeps)) r2 ez fun v' H' e' r' => q2 v' H' L2 (Fw.same e') (o2.same e') r'
  · exact q2.elim
/-- .. the first a name whose content is looked at last -/
@[simp] def eOp2P (g : D → D → Option D) (i : Nat) (h : Den) : Den := fun ρ st => (eVarB i ρ st).bind fun _ st => (h ρ st).bind fun e st => (eVarB i ρ st).bind fun d st => match g d e with | some z => .ok z st | none => .stuck
theorem varB {Z : Zone} {ρ : Env} {st : Sto} {L : List Addr} {σ : St} {H : Hp} (S : Stt G Z ρ st L σ H) {i : Nat} {d : D} {st' : Sto} (e : eVarB i ρ st = .ok d st') : st' = st ∧ ∃ v, σ[i]? = some (some v) ∧ View G (Zof Z L st) H d v := by
  unfold eVarB at e
  split at e
  · rename_i d' ed
    obtain ⟨v, ev, r⟩ := S.env.2 i _ ed
    cases e
    cases r with
    | p r => exact ⟨rfl, v, ev, .rep r⟩
  · rename_i n ed
    obtain ⟨v, ev, r⟩ := S.env.2 i _ ed
    cases r with
    | r r =>
      rename_i a
      split at e
      · rename_i d' et
        cases e
        obtain ⟨o, eo, et⟩ := Option.bind_eq_some_iff.mp et
        exact ⟨rfl, _, ev, (S.ok.obj n a o r eo).thaw (S.ok.zl a (List.mem_of_getElem? r)) et⟩
      · cases e
  · cases e
theorem varB_exc {ρ : Env} {st : Sto} {i : Nat} {c : Str} {fs : List (Str × D)} {st' : Sto} (e : eVarB i ρ st = .exc c fs st') : False := by
  unfold eVarB at e
  split at e
  · cases e
  · split at e <;> cases e
  · cases e
theorem two_p {h : Den} {i : Nat} {g : D → D → Option D} {r : R2} (s : Sim2 G g r) {σ : St} {H : Hp} {Q : VK} (q : tM G W (eOp2P g i h) σ H Q) : tVar i σ H fun x H1 => tMV G W h σ H1 fun y H2 => r x y H2 Q := by
  obtain ⟨Z, ρ, st, L, S, q⟩ := q
  unfold eOp2P at q
  cases e0 : eVarB i ρ st with
  | stuck => rw [e0] at q; exact q.elim
  | exc c fs st3 => exact (varB_exc e0).elim
  | ok d0 st0 =>
    rw [e0] at q
    obtain ⟨rfl, v, ev, w⟩ := varB S e0
    refine ⟨v, ev, Z, ρ, _, L, S, PostR.bind q fun d2 st2 y H2 L2 e2 f2 o2 r2 q2 => ?_⟩
    cases e1 : eVarB i ρ st2 with
    | stuck => rw [e1] at q2; exact q2.elim
    | exc c fs st3 => exact (varB_exc e1).elim
    | ok d st3 =>
      rw [e1] at q2
      obtain ⟨rfl, v', ev', w⟩ := varB (S.to f2 o2) e1
      rw [ev] at ev'
      cases ev'
      have q2 : PostR G Z W (fun Z H => Rep G Z H) σ L2 _ H2 (match g d d2 with | some z => Res.ok z _ | none => .stuck) Q := q2
      split at q2
      · rename_i z ez
        exact s _ _ _ _ _ _ z _ o2.inn w r2 ez fun v' H' e' r' => q2 v' H' L2 (Fw.same e') (o2.same e') r'
      · exact q2.elim
theorem me_bin {op : Operator} {r : R2} {a b : Expr} {f h : Den} {pos : Pos} {g : D → D → Option D} (ho : OpR X (binaryOp op) r) (s : Sim2 G g r) (ha : ME G W X a f) (hb : MV G W X b h) : ME G W X (.BinOp a op b pos) (eOp2 g f h) :=
  PE.imp (pe_op ho ha hb) fun σ H Q q => two s q
theorem me_cmp {op : CmpOp} {r : R2} {a b : Expr} {f h : Den} {pos : Pos} {g : D → D → Option D} (ho : OpR X (compareOp op) r) (s : Sim2 G g r) (ha : ME G W X a f) (hb : MV G W X b h) (hm : behindInMarks op b = false) : ME G W X (.Compare a [op] [b] pos) (eOp2 g f h) :=
  PE.imp (pe_cmpR ho ha hb hm) fun σ H Q q => two s q
theorem me_cmpP {op : CmpOp} {r : R2} {x : Str} {i : Nat} {b : Expr} {h : Den} {pos p : Pos} {g : D → D → Option D} (ho : OpR X (compareOp op) r) (s : Sim2 G g r) (ha : PE X (.Name x p) (tVar i)) (hb : MV G W X b h) (hm : behindInMarks op b = false) : ME G W X (.Compare (.Name x p) [op] [b] pos) (eOp2P g i h) :=
  PE.imp (pe_cmpR ho ha hb hm) fun σ H Q q => two_p s q
theorem me_ix {r : R2} {a b : Expr} {f h : Den} {pos : Pos} {g : D → D → Option D} (ho : IxR X r) (s : Sim2 G g r) (ha : ME G W X a f) (hb : MV G W X b h) (hs : PlainIx b) : ME G W X (.Subscript a b pos) (eOp2 g f h) :=
  PE.imp (pe_ix ho ha hb hs) fun σ H Q q => two s q
theorem me_ixP {r : R2} {x : Str} {i : Nat} {b : Expr} {h : Den} {pos p : Pos} {g : D → D → Option D} (ho : IxR X r) (s : Sim2 G g r) (ha : PE X (.Name x p) (tVar i)) (hb : MV G W X b h) (hs : PlainIx b) : ME G W X (.Subscript (.Name x p) b pos) (eOp2P g i h) :=
  PE.imp (pe_ix ho ha hb hs) fun σ H Q q => two_p s q
end

/-! ### tests -/
@[simp] def eB (f : Den) : DenB := fun ρ st => (f ρ st).bind fun d st => match d with | .bl b => .ok b st | _ => .stuck
@[simp] def eAnd (f h : DenB) : DenB := fun ρ st => (f ρ st).bind fun b st => if b = true then h ρ st else .ok false st
@[simp] def eOr (f h : DenB) : DenB := fun ρ st => (f ρ st).bind fun b st => if b = true then .ok true st else h ρ st
@[simp] def eNot (f : DenB) : DenB := fun ρ st => (f ρ st).bind fun b st => .ok (!b) st
@[simp] def eBV (f : DenB) : Den := fun ρ st => (f ρ st).bind fun b st => .ok (.bl b) st
@[simp] def eIf {α : Type} (c : DenB) (f h : Env → Sto → Res α) : Env → Sto → Res α := fun ρ st => (c ρ st).bind fun b st => if b = true then f ρ st else h ρ st
section
variable {G : Wd} {W : WX} {X : Cx}
theorem toB {f : Den} {σ : St} {H : Hp} {Q : Bool → Hp → Prop} (q : tMB G W (eB f) σ H Q) : tM G W f σ H fun x H' => ∃ k, x = .bl k ∧ Q k H' := by
  obtain ⟨Z, ρ, st, L, S, q⟩ := q
  refine ⟨Z, ρ, st, L, S, PostR.bind q fun d st1 x H1 L1 e f1 o1 r1 q1 => ?_⟩
  split at q1
  · rename_i b
    exact ⟨b, r1.bl', PostR.pure (W := W) (R := RB) o1 q1 rfl⟩
  · exact q1.elim
theorem mt_val {e : Expr} {f : Den} (h : ME G W X e f) (he : ∀ whole, isTrue e X.env whole = (do let v ← whole; standAt e.pos; holding [v] (truthy v)) := by intro _; rfl) : MT G W X e (eB f) :=
  PT.imp (pt_val h he) fun σ H Q q => by
    obtain ⟨Z, ρ, st, L, S, r⟩ := toB q
    exact ⟨Z, ρ, st, L, S, r⟩
theorem mt_cmp {op : CmpOp} {r : R2} {a b : Expr} {f h : Den} {pos : Pos} {g : D → D → Option D} (ho : OpR X (compareOp op) r) (s : Sim2 G g r) (ha : ME G W X a f) (hb : MV G W X b h) (hm : behindInMarks op b = false) : MT G W X (.Compare a [op] [b] pos) (eB (eOp2 g f h)) :=
  PT.imp (pt_cmpR ho ha hb hm) fun σ H Q q => two s (toB q)
theorem mt_cmpP {op : CmpOp} {r : R2} {x : Str} {i : Nat} {b : Expr} {h : Den} {pos p : Pos} {g : D → D → Option D} (ho : OpR X (compareOp op) r) (s : Sim2 G g r) (ha : PE X (.Name x p) (tVar i)) (hb : MV G W X b h) (hm : behindInMarks op b = false) : MT G W X (.Compare (.Name x p) [op] [b] pos) (eB (eOp2P g i h)) :=
  PT.imp (pt_cmpR ho ha hb hm) fun σ H Q q => two_p s (toB q)
theorem mt_not {a : Expr} {pos : Pos} {f : DenB} (h : MT G W X a f) : MT G W X (.UnaryOp .Not a pos) (eNot f) :=
  PT.imp (pt_not h) fun σ H Q q => by
    obtain ⟨Z, ρ, st, L, S, q⟩ := q
    refine ⟨Z, ρ, st, L, S, PostR.bind q fun d st1 x H1 L1 e f1 o1 r1 q1 => ?_⟩
    subst r1
    exact PostR.pure (W := W) (R := RB) o1 q1 rfl
theorem mw_and1 {a : Expr} {pos : Pos} {f : DenB} (h : MT G W X a f) : MW G W X (.BoolOp .And [a] pos) f := pw_and1 h
theorem mw_or1 {a : Expr} {pos : Pos} {f : DenB} (h : MT G W X a f) : MW G W X (.BoolOp .Or [a] pos) f := pw_or1 h
theorem mw_and {a b : Expr} {rest : List Expr} {pos : Pos} {f h : DenB} (ha : MT G W X a f) (hb : MW G W X (.BoolOp .And (b :: rest) pos) h) : MW G W X (.BoolOp .And (a :: b :: rest) pos) (eAnd f h) :=
  PW.imp (pw_and ha hb) fun σ H Q q => by
    obtain ⟨Z, ρ, st, L, S, q⟩ := q
    refine ⟨Z, ρ, st, L, S, PostR.bind q fun d st1 x H1 L1 e f1 o1 r1 q1 => ?_⟩
    subst r1
    cases d with
    | true => exact ⟨Z, ρ, st1, L1, S.to f1 o1, q1⟩
    | false => exact PostR.pure (W := W) (R := RB) o1 q1 rfl
theorem mw_or {a b : Expr} {rest : List Expr} {pos : Pos} {f h : DenB} (ha : MT G W X a f) (hb : MW G W X (.BoolOp .Or (b :: rest) pos) h) : MW G W X (.BoolOp .Or (a :: b :: rest) pos) (eOr f h) :=
  PW.imp (pw_or ha hb) fun σ H Q q => by
    obtain ⟨Z, ρ, st, L, S, q⟩ := q
    refine ⟨Z, ρ, st, L, S, PostR.bind q fun d st1 x H1 L1 e f1 o1 r1 q1 => ?_⟩
    subst r1
    cases d with
    | true => exact PostR.pure (W := W) (R := RB) o1 q1 rfl
    | false => exact ⟨Z, ρ, st1, L1, S.to f1 o1, q1⟩
theorem mt_w {e : Expr} {f : DenB} (h : MW G W X e f) : MT G W X e f := h.pt
/-- .. as values -/
theorem fromB {f : DenB} {σ : St} {H : Hp} {Q : VK} (q : tM G W (eBV f) σ H Q) : tMB G W f σ H fun b H' => Q (.bl b) H' := by
  obtain ⟨Z, ρ, st, L, S, q⟩ := q
  refine ⟨Z, ρ, st, L, S, PostR.bind q fun d st1 x H1 L1 e f1 o1 r1 q1 => ?_⟩
  subst r1
  exact PostR.pure (W := W) (R := fun Z H => Rep G Z H) o1 q1 (.bl _)
/-- a and b, a or b, not a as values: the parts bools -/
@[simp] def eAndV (f h : Den) : Den := fun ρ st => (f ρ st).bind fun d st => match d with | .bl b => (if b = true then h ρ st else .ok (.bl false) st) | _ => .stuck
@[simp] def eOrV (f h : Den) : Den := fun ρ st => (f ρ st).bind fun d st => match d with | .bl b => (if b = true then .ok (.bl true) st else h ρ st) | _ => .stuck
@[simp] def eNotV (f : Den) : Den := fun ρ st => (f ρ st).bind fun d st => match d with | .bl b => .ok (.bl (!b)) st | _ => .stuck
abbrev RD (G : Wd) : Zone → Hp → D → V → Prop := fun Z H => Rep G Z H
theorem me_one {a : Expr} {op} {pos : Pos} {f : Den} (h : ME G W X a f) : ME G W X (.BoolOp op [a] pos) f := pe_one h
theorem me_and {a b : Expr} {rest : List Expr} {pos : Pos} {f h : Den} (ha : ME G W X a f) (hb : ME G W X (.BoolOp .And (b :: rest) pos) h) : ME G W X (.BoolOp .And (a :: b :: rest) pos) (eAndV f h) :=
  PE.imp (pe_and ha hb) fun σ H Q q => by
    obtain ⟨Z, ρ, st, L, S, q⟩ := q
    refine ⟨Z, ρ, st, L, S, PostR.bind q fun d st1 x H1 L1 e f1 o1 r1 q1 => ?_⟩
    cases d with
    | bl b =>
      refine ⟨b, r1.bl', ?_⟩
      cases b with
      | true => exact ⟨Z, ρ, st1, L1, S.to f1 o1, q1⟩
      | false => exact PostR.pure (W := W) (R := RD G) o1 q1 (.bl _)
    | _ => exact q1.elim
theorem me_or {a b : Expr} {rest : List Expr} {pos : Pos} {f h : Den} (ha : ME G W X a f) (hb : ME G W X (.BoolOp .Or (b :: rest) pos) h) : ME G W X (.BoolOp .Or (a :: b :: rest) pos) (eOrV f h) :=
  PE.imp (pe_or ha hb) fun σ H Q q => by
    obtain ⟨Z, ρ, st, L, S, q⟩ := q
    refine ⟨Z, ρ, st, L, S, PostR.bind q fun d st1 x H1 L1 e f1 o1 r1 q1 => ?_⟩
    cases d with
    | bl b =>
      refine ⟨b, r1.bl', ?_⟩
      cases b with
      | true => exact PostR.pure (W := W) (R := RD G) o1 q1 (.bl _)
      | false => exact ⟨Z, ρ, st1, L1, S.to f1 o1, q1⟩
    | _ => exact q1.elim
theorem me_not {a : Expr} {pos : Pos} {f : Den} (ha : ME G W X a f) : ME G W X (.UnaryOp .Not a pos) (eNotV f) :=
  PE.imp (pe_not ha) fun σ H Q q => by
    obtain ⟨Z, ρ, st, L, S, q⟩ := q
    refine ⟨Z, ρ, st, L, S, PostR.bind q fun d st1 x H1 L1 e f1 o1 r1 q1 => ?_⟩
    cases d with
    | bl b => exact ⟨b, r1.bl', PostR.pure (W := W) (R := RD G) o1 q1 (.bl _)⟩
    | _ => exact q1.elim
theorem me_if {c a b : Expr} {pos : Pos} {fc : DenB} {f h : Den} (hc : MT G W X c fc) (ha : ME G W X a f) (hb : ME G W X b h) : ME G W X (.IfExp c a b pos) (eIf fc f h) :=
  PE.imp (pe_ifExp hc ha hb) fun σ H Q q => by
    obtain ⟨Z, ρ, st, L, S, q⟩ := q
    refine ⟨Z, ρ, st, L, S, PostR.bind q fun d st1 x H1 L1 e f1 o1 r1 q1 => ?_⟩
    subst r1
    cases d with
    | true => exact ⟨Z, ρ, st1, L1, S.to f1 o1, q1⟩
    | false => exact ⟨Z, ρ, st1, L1, S.to f1 o1, q1⟩
/-- a < b < c -/
@[simp] def eChain (g1 g2 : D → D → Option D) (f h k : Den) : Den := fun ρ st => (f ρ st).bind fun d st => (h ρ st).bind fun e st => match g1 d e with
  | some (.bl b) => if b = true then (k ρ st).bind fun c st => (match g2 e c with | some z => .ok z st | none => .stuck) else .ok (.bl false) st
  | _ => .stuck
theorem chain {g1 g2 : D → D → Option D} {f h k : Den} {r r' : R2} (s1 : Sim2 G g1 r) (s2 : Sim2 G g2 r') {σ : St} {H : Hp} {Q : VK} (q : tM G W (eChain g1 g2 f h k) σ H Q) : tChain r r' (tM G W f) (tM G W h) (tM G W k) σ H Q := by
  obtain ⟨Z, ρ, st, L, S, q⟩ := q
  refine ⟨Z, ρ, st, L, S, PostR.bind q fun d st1 x H1 L1 e f1 o1 r1 q1 => ?_⟩
  refine ⟨Z, ρ, st1, L1, S.to f1 o1, PostR.bind q1 fun d2 st2 y H2 L2 e2 f2 o2 r2 q2 => ?_⟩
  split at q2
  · rename_i b eb
    refine s1 _ _ _ _ _ _ _ _ o2.inn (.rep (r1.mono f2.keeps)) (.rep r2) eb fun v H3 e3 r3 => ⟨b, r3.bl', ?_⟩
    have f3 : Fw Z L2 st2 H2 L2 st2 H3 := Fw.same e3
    have o3 := o2.same e3
    cases b with
    | false => exact q2 _ _ L2 f3 o3 (.bl _)
    | true =>
      refine ⟨Z, ρ, st2, L2, (S.to (f1.trans (f2.trans f3)) o3), PostR.bind (Q' := Q) (Z := Z) (W := W) (R' := RD G) (k := fun c st => (match g2 d2 c with | some z => .ok z st | none => .stuck)) ?_ fun d4 st4 w' H4 L4 e4 f4 o4 r4 q4 => ?_⟩
      · have q2' : PostR G Z W (RD G) σ L2 st2 H2 ((k ρ st2).bind fun c st => (match g2 d2 c with | some z => .ok z st | none => .stuck)) Q := q2
        revert q2'
        cases ((k ρ st2).bind fun c st => (match g2 d2 c with | some z => .ok z st | none => .stuck) : Res D) with
        | ok d st5 => exact fun q v' H' L' f' => q v' H' L' (f3.trans f')
        | exc c fs st5 => exact fun q => ExP.on (P := fun cv dd H' => W cv dd σ H') f3 q
        | stuck => exact fun q => q
      · split at q4
        · rename_i z ez
          exact s2 _ _ _ _ _ _ z _ o4.inn (.rep (r2.mono (f3.trans f4).keeps)) (.rep r4) ez fun v' H' e' r' => q4 v' H' L4 (Fw.same e') (o4.same e') r'
        · exact q4.elim
  · exact q2.elim
theorem me_chain {op op' : CmpOp} {r r' : R2} {a b c : Expr} {f h k : Den} {pos : Pos} {g1 g2 : D → D → Option D} (ho : OpR X (compareOp op) r) (ho' : OpR X (compareOp op') r') (s1 : Sim2 G g1 r) (s2 : Sim2 G g2 r') (ha : ME G W X a f) (hb : ME G W X b h) (hc : ME G W X c k)
    (hm : lastMarks [op, op'] [b, c] = false := by with_unfolding_all rfl) : ME G W X (.Compare a [op, op'] [b, c] pos) (eChain g1 g2 f h k) :=
  PE.imp (pe_chain ho ho' ha hb hc hm) fun σ H Q q => chain s1 s2 q
theorem mt_chain {op op' : CmpOp} {r r' : R2} {a b c : Expr} {f h k : Den} {pos : Pos} {g1 g2 : D → D → Option D} (ho : OpR X (compareOp op) r) (ho' : OpR X (compareOp op') r') (s1 : Sim2 G g1 r) (s2 : Sim2 G g2 r') (ha : ME G W X a f) (hb : ME G W X b h) (hc : ME G W X c k)
    (hm : lastMarks [op, op'] [b, c] = false := by with_unfolding_all rfl) : MT G W X (.Compare a [op, op'] [b, c] pos) (eB (eChain g1 g2 f h k)) :=
  PT.imp (pt_chain ho ho' ha hb hc hm) fun σ H Q q => chain s1 s2 (toB q)
end

/-! ### argument lists, displays, calls of built-ins -/
@[simp] def eNil : DenL := fun _ st => .ok [] st
@[simp] def eCons (f : Den) (h : DenL) : DenL := fun ρ st => (f ρ st).bind fun d st => (h ρ st).bind fun ds st => .ok (d :: ds) st
@[simp] noncomputable def eTup (f : DenL) : Den := fun ρ st => (f ρ st).bind fun ds st => if ds.length ≤ sizeLine then .ok (.tup ds) st else .stuck
@[simp] noncomputable def eLst (f : DenL) : Den := fun ρ st => (f ρ st).bind fun ds st => if ds.length ≤ sizeLine then .ok (.lst ds) st else .stuck
@[simp] def eOpN (g : List D → Option D) (f : DenL) : Den := fun ρ st => (f ρ st).bind fun ds st => match g ds with | some z => .ok z st | none => .stuck
def SimN (G : Wd) (g : List D → Option D) (r : List V → Hp → VK → Prop) : Prop := ∀ Z H ds xs z Q, In Z H → Reps G Z H ds xs → g ds = some z → (∀ v H', Same H H' → Rep G Z H' z v → Q v H') → r xs H Q
/-- one argument, its container perhaps live -/
def SimC (G : Wd) (g : D → Option D) (r : List V → Hp → VK → Prop) : Prop := ∀ Z H d x z Q, In Z H → View G Z H d x → g d = some z → (∀ v H', Same H H' → Rep G Z H' z v → Q v H') → r [x] H Q
section
variable {G : Wd} {W : WX} {X : Cx} {e : Expr} {es : List Expr} {pos p : Pos}
abbrev RDs (G : Wd) : Zone → Hp → List D → List V → Prop := fun Z H => Reps G Z H
theorem ma_nil : MA G W X [] eNil := PA.imp pa_nil fun σ H Q q => by
  obtain ⟨Z, ρ, st, L, S, q⟩ := q
  exact PostR.pure (W := W) (R := RDs G) S.ok q .nil
theorem ma_cons {f : Den} {h : DenL} (ha : ME G W X e f) (hr : MA G W X es h) (hs : starEach (e :: es) X.env = (false, eval e X.env) :: starEach es X.env := by rfl) : MA G W X (e :: es) (eCons f h) := PA.imp (pa_cons ha hr hs) fun σ H Q q => by
  obtain ⟨Z, ρ, st, L, S, q⟩ := q
  refine ⟨Z, ρ, st, L, S, PostR.bind q fun d st1 x H1 L1 e f1 o1 r1 q1 => ?_⟩
  refine ⟨Z, ρ, st1, L1, S.to f1 o1, PostR.bind q1 fun d2 st2 y H2 L2 e2 f2 o2 r2 q2 => ?_⟩
  exact PostR.pure (W := W) (R := RDs G) o2 q2 (.cons (r1.mono f2.keeps) r2)
theorem me_tup {f : DenL} {k : Nat} (h : MA G W X es f) : ME G W X (.Tuple es k pos) (eTup f) := PE.imp (pe_tup h) fun σ H Q q => by
  obtain ⟨Z, ρ, st, L, S, q⟩ := q
  refine ⟨Z, ρ, st, L, S, PostR.bind q fun d st1 x H1 L1 e f1 o1 r1 q1 => ?_⟩
  split at q1
  · rename_i hz
    exact ⟨by rw [← r1.length]; exact hz, fun p hp => q1 _ _ L1 (Fw.same (same_new hp)) (o1.same (same_new hp)) (new_tup o1.inn r1 hp)⟩
  · exact q1.elim
theorem me_lst {f : DenL} (h : MA G W X es f) : ME G W X (.List es pos) (eLst f) := PE.imp (pe_lst h) fun σ H Q q => by
  obtain ⟨Z, ρ, st, L, S, q⟩ := q
  refine ⟨Z, ρ, st, L, S, PostR.bind q fun d st1 x H1 L1 e f1 o1 r1 q1 => ?_⟩
  split at q1
  · rename_i hz
    exact ⟨by rw [← r1.length]; exact hz, fun p hp => q1 _ _ L1 (Fw.same (same_new hp)) (o1.same (same_new hp)) (new_lst o1.inn r1 hp)⟩
  · exact q1.elim
theorem argsN {g : List D → Option D} {r : List V → Hp → VK → Prop} {f : DenL} (s : SimN G g r) {σ : St} {H : Hp} {Q : VK} (q : tM G W (eOpN g f) σ H Q) : tMA G W f σ H fun xs H1 => r xs H1 Q := by
  obtain ⟨Z, ρ, st, L, S, q⟩ := q
  refine ⟨Z, ρ, st, L, S, PostR.bind q fun d st1 x H1 L1 e f1 o1 r1 q1 => ?_⟩
  split at q1
  · rename_i z ez
    exact s _ _ _ _ z _ o1.inn r1 ez fun v' H' e' r' => q1 v' H' L1 (Fw.same e') (o1.same e') r'
  · exact q1.elim
theorem argC {g : D → Option D} {r : List V → Hp → VK → Prop} {f : Den} (s : SimC G g r) {σ : St} {H : Hp} {Q : VK} (q : tM G W (eOp1 g f) σ H Q) : tCons (tMV G W f) tNil σ H fun xs H1 => r xs H1 Q := by
  obtain ⟨Z, ρ, st, L, S, q⟩ := q
  refine ⟨Z, ρ, st, L, S, PostR.bind q fun d st1 x H1 L1 e f1 o1 r1 q1 => ?_⟩
  split at q1
  · rename_i z ez
    exact s _ _ _ _ z _ o1.inn r1 ez fun v' H' e' r' => q1 v' H' L1 (Fw.same e') (o1.same e') r'
  · exact q1.elim
end
end M
namespace M
open PySem PySem.Spec L2

/-! ### data as PyData, for == -/
mutual
def D.py : D → PyData
  | .non => .none | .bl b => .bool b | .int i => .int i | .str x => .str x
  | .tup xs => .tuple (D.pys xs) | .lst xs => .list (D.pys xs) | _ => .none
def D.pys : List D → List PyData
  | [] => [] | x :: xs => D.py x :: D.pys xs
end
mutual
/-- nothing but None, dBools, dInts, texts, tuples, lists, nested at most so deep -/
def D.flat : Nat → D → Bool
  | _, .non => true | _, .bl _ => true | _, .int _ => true | _, .str x => PyData.strOk x
  | n + 1, .tup xs => D.flats n xs | n + 1, .lst xs => D.flats n xs
  | _, _ => false
def D.flats : Nat → List D → Bool
  | _, [] => true | n, x :: xs => D.flat n x && D.flats n xs
end
def D.eqv (d e : D) : Bool := PyData.eqv d.py e.py
section
variable {G : Wd} {Z : Zone} {H : Hp}
mutual
theorem Rep.dp {H : Hp} : ∀ {n : Nat} {d : D} {v : V}, Rep G Z H d v → D.flat n d = true → Dp G.K H v d.py
  | _, _, _, .non, _ => by unfold D.py; exact .non
  | _, _, _, .bl b, _ => by unfold D.py; exact .bl b
  | _, _, _, .int i, _ => by unfold D.py; exact .int i
  | _, _, _, .str x, _ => by unfold D.py; exact .str x
  | n + 1, _, _, .tup r z h, f => by unfold D.py; exact .tup (.inl r) (Reps.dp h (by unfold D.flat at f; exact f))
  | n + 1, _, _, .tupK r h, f => by unfold D.py; exact .tup (.inr r) (Reps.dp h (by unfold D.flat at f; exact f))
  | n + 1, _, _, .lst r z h, f => by unfold D.py; exact .lst (.inl r) (Reps.dp h (by unfold D.flat at f; exact f))
  | 0, _, _, .tup r z h, f => by simp [D.flat] at f
  | 0, _, _, .tupK r h, f => by simp [D.flat] at f
  | 0, _, _, .lst r z h, f => by simp [D.flat] at f
  | 0, _, _, .dK r z h, f => by simp [D.flat] at f
  | n + 1, _, _, .dK r z h, f => by simp [D.flat] at f
  | 0, _, _, .dT r z h, f => by simp [D.flat] at f
  | n + 1, _, _, .dT r z h, f => by simp [D.flat] at f
  | 0, _, _, .ins e z c h, f => by simp [D.flat] at f
  | n + 1, _, _, .ins e z c h, f => by simp [D.flat] at f
  | 0, _, _, .fn e, f => by simp [D.flat] at f
  | n + 1, _, _, .fn e, f => by simp [D.flat] at f
  | 0, _, _, .scr _ _, f => by simp [D.flat] at f
  | n + 1, _, _, .scr _ _, f => by simp [D.flat] at f
  | 0, _, _, .scrK _, f => by simp [D.flat] at f
  | n + 1, _, _, .scrK _, f => by simp [D.flat] at f
  | 0, _, _, .tupX _ _ _ _ _, f => by simp [D.flat] at f
  | n + 1, _, _, .tupX _ _ _ _ _, f => by simp [D.flat] at f
theorem Reps.dp {H : Hp} : ∀ {n : Nat} {d : List D} {v : List V}, Reps G Z H d v → D.flats n d = true → DpAll G.K H v (D.pys d)
  | _, _, _, .nil, _ => by unfold D.pys; exact .nil
  | n, _, _, .cons h t, f => by
    unfold D.flats at f
    rw [Bool.and_eq_true] at f
    unfold D.pys
    exact .cons (Rep.dp h f.1) (Reps.dp t f.2)
end
mutual
theorem py_lay : ∀ (n : Nat) (d : D), D.flat n d = true → PyData.canLay0 d.py = true
  | _, .non, _ => by unfold D.py; rfl
  | _, .bl b, _ => by unfold D.py; rfl
  | _, .int i, _ => by unfold D.py; rfl
  | _, .str x, f => by unfold D.flat at f; unfold D.py; simp only [PyData.canLay0]; exact f
  | 0, .tup xs, f => by simp [D.flat] at f
  | n + 1, .tup xs, f => by unfold D.py; simp only [PyData.canLay0]; unfold D.flat at f; exact pys_lay n xs f
  | 0, .lst xs, f => by simp [D.flat] at f
  | n + 1, .lst xs, f => by unfold D.py; simp only [PyData.canLay0]; unfold D.flat at f; exact pys_lay n xs f
  | _, .dic _, _ => by simp only [D.py]; rfl
  | _, .diT _, _ => by simp only [D.py]; rfl
  | _, .ins _ _, _ => by simp only [D.py]; rfl
  | _, .fn _, _ => by simp only [D.py]; rfl
  | _, .scr _, _ => by simp only [D.py]; rfl
  | _, .tupX _, _ => by simp only [D.py]; rfl
theorem pys_lay : ∀ (n : Nat) (d : List D), D.flats n d = true → PyData.canLayAll0 (D.pys d) = true
  | _, [], _ => by unfold D.pys; simp [PyData.canLayAll0]
  | n, x :: xs, f => by
    unfold D.flats at f
    rw [Bool.and_eq_true] at f
    unfold D.pys
    simp only [PyData.canLayAll0]
    rw [py_lay n x f.1, pys_lay n xs f.2]
    rfl
end
mutual
theorem py_depth : ∀ (n : Nat) (d : D), D.flat n d = true → d.py.depth ≤ n
  | _, .non, _ => by unfold D.py; simp [PyData.depth]
  | _, .bl b, _ => by unfold D.py; simp [PyData.depth]
  | _, .int i, _ => by unfold D.py; simp [PyData.depth]
  | _, .str x, _ => by unfold D.py; simp [PyData.depth]
  | 0, .tup xs, f => by simp [D.flat] at f
  | n + 1, .tup xs, f => by
    unfold D.flat at f
    have := pys_depth n xs f
    unfold D.py
    simp only [PyData.depth]
    omega
  | 0, .lst xs, f => by simp [D.flat] at f
  | n + 1, .lst xs, f => by
    unfold D.flat at f
    have := pys_depth n xs f
    unfold D.py
    simp only [PyData.depth]
    omega
  | 0, .dic _, f => by simp [D.flat] at f
  | 0, .diT _, f => by simp [D.flat] at f
  | 0, .ins _ _, f => by simp [D.flat] at f
  | 0, .fn _, f => by simp [D.flat] at f
  | 0, .scr _, f => by simp [D.flat] at f
  | n + 1, .scr _, f => by simp [D.flat] at f
  | 0, .tupX _, f => by simp [D.flat] at f
  | n + 1, .tupX _, f => by simp [D.flat] at f
  | n + 1, .dic _, f => by simp [D.flat] at f
  | n + 1, .diT _, f => by simp [D.flat] at f
  | n + 1, .ins _ _, f => by simp [D.flat] at f
  | n + 1, .fn _, f => by simp [D.flat] at f
theorem pys_depth : ∀ (n : Nat) (d : List D), D.flats n d = true → PyData.depthAll (D.pys d) ≤ n
  | _, [], _ => by unfold D.pys; simp [PyData.depthAll]
  | n, x :: xs, f => by
    unfold D.flats at f
    rw [Bool.and_eq_true] at f
    have h1 := py_depth n x f.1
    have h2 := pys_depth n xs f.2
    unfold D.pys
    simp only [PyData.depthAll]
    omega
end
theorem py_shaped {d : D} (f : D.flat 60 d = true) : SeqAt.shaped d.py = true := by
  unfold SeqAt.shaped
  rw [py_lay 60 d f, decide_eq_true (Nat.le_trans (py_depth 60 d f) (by decide))]
  rfl
theorem View.dp {d : D} {v : V} {n : Nat} (h : View G Z H d v) (f : D.flat n d = true) : Dp G.K H v d.py := by
  cases h with
  | rep h => exact h.dp f
  | lst r h =>
    cases n with
    | zero => simp [D.flat] at f
    | succ n =>
      unfold D.py
      exact .lst (.inl r) (Reps.dp h (by unfold D.flat at f; exact f))
  | dK r h => cases n <;> simp [D.flat] at f
  | dT r h => cases n <;> simp [D.flat] at f
end

/-! ### operations on data -/
def dEq (d e : D) : Option D := if (D.flat 60 d && D.flat 60 e) = true then some (.bl (D.eqv d e)) else none
def dNe (d e : D) : Option D := if (D.flat 60 d && D.flat 60 e) = true then some (.bl (!D.eqv d e)) else none
noncomputable def dAdd : D → D → Option D
  | .int i, .int j => some (.int (i + j))
  | .str x, .str y => if x.length + y.length ≤ sizeLine then some (.str (x ++ y)) else none
  | .tup xs, .tup ys => if xs.length + ys.length ≤ sizeLine then some (.tup (xs ++ ys)) else none
  | .lst xs, .lst ys => if xs.length + ys.length ≤ sizeLine then some (.lst (xs ++ ys)) else none
  | _, _ => none
def dSub : D → D → Option D
  | .int i, .int j => some (.int (i - j)) | _, _ => none
/-- undecided for the kernel, so that it never counts up to the bound -/
noncomputable def small (i : Int) : Bool := @decide (-18446744073709551616 < i ∧ i < 18446744073709551616) (Classical.propDecidable _)
theorem small_iff {i : Int} : small i = true ↔ -18446744073709551616 < i ∧ i < 18446744073709551616 := by unfold small; exact @decide_eq_true_iff _ (Classical.propDecidable _)
noncomputable def dMul : D → D → Option D
  | .int i, .int j => if (small i || small j) = true then some (.int (i * j)) else none
  | .lst xs, .int k => if k < 4611686018427387904 ∧ -4611686018427387904 < k ∧ xs.length * k.toNat ≤ sizeLine then some (.lst (List.replicate k.toNat xs).flatten) else none
  | .tup xs, .int k => if xs.isEmpty = false ∧ 0 ≤ k ∧ k ≤ 1000 ∧ xs.length ≤ 1000 then some (.tup (List.replicate k.toNat xs).flatten) else none
  | _, _ => none
def dMod : D → D → Option D
  | .int i, .int j => if 0 < j then some (.int (i % j)) else none | _, _ => none
noncomputable def dFdiv : D → D → Option D
  | .int i, .int j => if 0 < j ∧ j < 1073741824 then some (.int (i / j)) else none | _, _ => none
noncomputable def dPow : D → D → Option D
  | .int i, .int j => if 0 ≤ j ∧ j ≤ 1000000 ∧ i.natAbs < 18446744073709551616 then some (.int (i ^ j.toNat)) else none | _, _ => none
def dNeg : D → Option D
  | .int i => some (.int (-i)) | _ => none
def dLt : D → D → Option D
  | .int i, .int j => some (.bl (decide (i < j))) | .str x, .str y => some (.bl (decide (x.cps.toList < y.cps.toList))) | _, _ => none
def dLe : D → D → Option D
  | .int i, .int j => some (.bl (decide (i ≤ j))) | _, _ => none
def dGt : D → D → Option D
  | .int i, .int j => some (.bl (decide (j < i))) | _, _ => none
def dGe : D → D → Option D
  | .int i, .int j => some (.bl (decide (j ≤ i))) | _, _ => none
def D.isNon : D → Bool
  | .non => true | _ => false
def dIs (d e : D) : Option D := match e with
  | .non => some (.bl d.isNon)
  | .bl c => (match d with | .bl b => some (.bl (decide (b = c))) | _ => none)
  | _ => none
def dIsNot (d e : D) : Option D := match e with
  | .non => some (.bl (!d.isNon))
  | .bl c => (match d with | .bl b => some (.bl (!decide (b = c))) | _ => none)
  | _ => none
def pysIn (x : D) (ds : List D) : Bool := ds.any fun z => D.eqv z x
def dIn (x c : D) : Option D := match c with
  | .lst ds => if (D.flat 60 x && D.flats 59 ds) = true then some (.bl (pysIn x ds)) else none
  | .tup ds => if (D.flat 60 x && D.flats 59 ds) = true then some (.bl (pysIn x ds)) else none
  | .str z => (match x with | .str y => some (.bl (!(Builtin.Str.occurrences z y 0 z.length 1).isEmpty)) | _ => none)
  | _ => none
def dNotIn (x c : D) : Option D := match dIn x c with
  | some (.bl b) => some (.bl (!b)) | _ => none
noncomputable def dIx (c i : D) : Option D := match c, i with
  | .lst ds, .int i => atI ds i
  | .tup ds, .int i => atI ds i
  | .scr ns, .int i => (atI ns i).map .int
  | .str z, .int i => if z.length ≤ sizeLine then (atI z.cps.toList i).map fun c => .str ⟨#[c]⟩ else none
  | _, _ => none
noncomputable def dLen : D → Option D
  | .lst ds => some (.int ds.length) | .tup ds => some (.int ds.length) | .str z => if z.length ≤ sizeLine then some (.int z.length) else none | .scr ns => some (.int ns.length) | _ => none
def dTuple : D → Option D
  | .lst ds => some (.tup ds) | .tup ds => some (.tup ds) | _ => none
def dList : D → Option D
  | .lst ds => some (.lst ds) | .tup ds => some (.lst ds) | _ => none
def dInts : List D → Option (List Int)
  | [] => some []
  | .int i :: r => (dInts r).map (i :: ·)
  | _ => none
def dBools : List D → Option (List Bool)
  | [] => some []
  | .bl i :: r => (dBools r).map (i :: ·)
  | _ => none
def dStrs : List D → Option (List Str)
  | [] => some []
  | .str i :: r => (dStrs r).map (i :: ·)
  | _ => none
def dSum : D → Option D
  | .lst ds => (dInts ds).map fun ns => .int ns.sum | .tup ds => (dInts ds).map fun ns => .int ns.sum | _ => none
def dAll : D → Option D
  | .lst ds => (dBools ds).map fun bs => .bl (bs.all id) | _ => none
def dAny : D → Option D
  | .lst ds => (dBools ds).map fun bs => .bl (bs.any id) | _ => none
def maxI (a : Int) (l : List Int) : Int := l.foldl max a
def minI (a : Int) (l : List Int) : Int := l.foldl min a
def dMax : D → Option D
  | .lst ds => (match dInts ds with | some (a :: l) => some (.int (maxI a l)) | _ => none) | _ => none
def dMin : D → Option D
  | .lst ds => (match dInts ds with | some (a :: l) => some (.int (minI a l)) | _ => none) | _ => none
def dMax2 : List D → Option D
  | [.int i, .int j] => some (.int (if j > i then j else i)) | _ => none
def dMin2 : List D → Option D
  | [.int i, .int j] => some (.int (if j < i then j else i)) | _ => none
def insI (x : Int) : List Int → List Int
  | [] => [x] | y :: r => if x ≤ y then x :: y :: r else y :: insI x r
def sortI : List Int → List Int
  | [] => [] | x :: r => insI x (sortI r)
def dSorted : D → Option D
  | .lst ds => (dInts ds).map fun ns => .lst ((sortI ns).map .int) | _ => none
def dAbs : D → Option D
  | .int i => some (.int (if i < 0 then -i else i)) | _ => none
def dInt : D → Option D
  | .int i => some (.int i) | .bl b => some (.int (if b then 1 else 0)) | _ => none
def tyName : D → Option String
  | .non => some "NoneType" | .bl _ => some "bool" | .int _ => some "int" | .str _ => some "str" | .tup _ => some "tuple" | .lst _ => some "list" | .dic _ => some "dict" | _ => none
/-- isinstance(x, T), T one of int, bool, str, tuple, list, dict -/
def dIsi (T : String) (d : D) : Option D := (tyName d).bind fun n => (kitB n T).map .bl

section
variable {G : Wd} {W : WX} {X : Cx}
theorem sim_eq (hK : G.K = X.K) : Sim2 G dEq (rEqD X.K) := fun Z H d e x y z Q i rx ry h q => by
  unfold dEq at h
  split at h
  · rename_i hf
    rw [Bool.and_eq_true] at hf
    cases h
    exact ⟨_, _, hK ▸ rx.dp hf.1, hK ▸ ry.dp hf.2, py_shaped hf.1, py_shaped hf.2, q _ H (Same.refl H) (.bl _)⟩
  · cases h
theorem sim_ne (hK : G.K = X.K) : Sim2 G dNe (rNeD X.K) := fun Z H d e x y z Q i rx ry h q => by
  unfold dNe at h
  split at h
  · rename_i hf
    rw [Bool.and_eq_true] at hf
    cases h
    exact ⟨_, _, hK ▸ rx.dp hf.1, hK ▸ ry.dp hf.2, py_shaped hf.1, py_shaped hf.2, q _ H (Same.refl H) (.bl _)⟩
  · cases h
/-- list + list, any two that are read -/
def rCatR : R2 := fun x y H Q => ∃ l b xs zs, x = .ref l ∧ y = .ref b ∧ Rd H l (.lst xs) ∧ Rd H b (.lst zs) ∧ xs.length + zs.length ≤ sizeLine ∧ ∀ p, H p = none → Q (.ref p) (upd H p (.lst (xs ++ zs)))
theorem op_catR : OpR X (binaryOp .Add) rCatR := by
  intro pins s σ H x y v u Q I rx ry h
  obtain ⟨l, b, xs, zs, rfl, rfl, hH, hB, hz, q⟩ := h
  cases rx
  cases ry
  obtain ⟨z, its, n, r, e⟩ := hH.ok I.hok
  obtain ⟨z2, its2, n2, r2, e2⟩ := hB.ok I.hok
  have hl := r.length
  have hl2 := r2.length
  refine PySem.P.add_list e e2 ?_ (by rw [List.size_toArray, List.size_toArray]; omega)
  have ea : its.toArray ++ its2.toArray = (its ++ its2).toArray := by simp
  rw [ea]
  exact ⟨.ref _, _, I.lnew (t' := s.toks) (r.append r2) (by rw [List.length_append]; omega), rfl, q _ I.fresh⟩
def rRepR : R2 := fun x y H Q => ∃ l k xs, x = .ref l ∧ y = .int k ∧ Rd H l (.lst xs) ∧ -(2 ^ 63) ≤ k ∧ k < 2 ^ 63 ∧ xs.length * k.toNat ≤ sizeLine ∧
  ∀ p, H p = none → Q (.ref p) (upd H p (.lst (List.replicate k.toNat xs).flatten))
theorem op_repR : OpR X (binaryOp .Mult) rRepR := by
  intro pins s σ H x y v u Q I rx ry h
  obtain ⟨l, k, xs, rfl, rfl, hH, h1, h2, hz, q⟩ := h
  cases rx
  obtain ⟨t, rfl⟩ := ry
  obtain ⟨z, its, n, r, e⟩ := hH.ok I.hok
  have hl := r.length
  have hlen : its.toArray.size * k.toNat ≤ sizeLine := by rw [List.size_toArray, ← hl]; exact hz
  have hcap : ¬ its.toArray.size * k.toNat > (2 ^ 63 - 1) / 8 := by
    have : (sizeLine : Nat) ≤ (2 ^ 63 - 1) / 8 := by decide
    omega
  have hfit : ¬ (!Builtin.List.listFitsIndex k) = true := by
    rw [fitsIndex_both h1 h2]
    exact Bool.false_ne_true
  have hlong : ¬ Builtin.List.listTooLong (its.toArray.size * k.toNat) = true := by
    rw [notLongL hlen]
    exact Bool.false_ne_true
  have hnew : List.foldl (fun x1 x2 => x1 ++ x2) #[] (List.replicate (if its.toArray.isEmpty = true then 0 else k.toNat) its.toArray) = (List.replicate k.toNat its).flatten.toArray := by
    have f0 : ∀ m : Nat, List.foldl (fun x1 x2 => x1 ++ x2) #[] (List.replicate m its.toArray) = (List.replicate m its).flatten.toArray := fun m => by
      have := foldl_rep its m []
      rw [List.nil_append] at this
      exact this
    rw [f0]
    cases its with
    | nil => simp
    | cons a r' => rw [if_neg (by simp)]
  refine wpAny_binaryOp_repeat_ref (T := "list") (U := "int") (by decide) ⟨_, e, rfl⟩ (fun s' => typeIs_int s' k t) noFill_list_mul F.fills_int_mul F.slot_int_rmul repeat_list F.slot_int_index.lookup
    (call_meets F.slot_int_rmul (typeIs_int s k t) F.entry_int_rmul (F.args_int_rmul_2 _ _) (int___rmul___int_list k t l its.toArray n)
      ⟨e, rfl, ⟨_, e, rfl⟩, call_meets F.slot_list_mul ⟨_, e, rfl⟩ F.entry_list_mul (F.args_list_mul_2 _ _) (AutoListH.list___mul___list_int_3 l its.toArray n k t hfit hcap hlong) ⟨e, ?_⟩⟩)
  rw [hnew]
  exact ⟨.ref _, _, I.lnew (t' := s.toks) (r.rep k.toNat) (by rw [PyProof.Rows.lm_len_rep_flat, Nat.mul_comm]; exact hz), rfl, q _ I.fresh⟩

theorem Sim2.imp {g : D → D → Option D} {r r' : R2} (s : Sim2 G g r) (h : ∀ x y H Q, r x y H Q → r' x y H Q) : Sim2 G g r' := fun Z H d e x y z Q i rx ry hg q => h _ _ _ _ (s Z H d e x y z Q i rx ry hg q)
theorem op_addM : OpR X (binaryOp .Add) (fun x y H Q => rI0 (fun i j => .int (i + j)) x y H Q ∨ (fun x y H Q => ∃ i j, x = .str i ∧ y = .str j ∧ i.length + j.length ≤ sizeLine ∧ Q (.str (i ++ j)) H) x y H Q ∨ rCatA X.K x y H Q ∨ rCatR x y H Q) := by
  intro pins s σ H x y v u Q I rx ry h
  rcases h with h | h | h | h
  · exact op_add pins s σ H x y v u Q I rx ry h
  · exact op_add_str pins s σ H x y v u Q I rx ry h
  · exact op_catA pins s σ H x y v u Q I rx ry h
  · exact op_catR pins s σ H x y v u Q I rx ry h
theorem View.tupR {Z : Zone} {H : Hp} {ds : List D} {v : V} (h : View G Z H (.tup ds) v) : Rep G Z H (.tup ds) v := by
  cases h with
  | rep h => exact h
theorem sim_add (hK : G.K = X.K) : Sim2 G dAdd (fun x y H Q => rI0 (fun i j => .int (i + j)) x y H Q ∨ (fun x y H Q => ∃ i j, x = .str i ∧ y = .str j ∧ i.length + j.length ≤ sizeLine ∧ Q (.str (i ++ j)) H) x y H Q ∨ rCatA X.K x y H Q ∨ rCatR x y H Q) := fun Z H d e x y z Q i rx ry h q => by
  unfold dAdd at h
  split at h
  · cases h
    exact .inl ⟨_, _, rx.int', ry.int', q _ H (Same.refl H) (.int _)⟩
  · split at h
    · cases h
      exact .inr (.inl ⟨_, _, rx.str', ry.str', by assumption, q _ H (Same.refl H) (.str _)⟩)
    · cases h
  · split at h
    · cases h
      rename_i xs ys hz
      have tx := rx.tupR
      have ty := ry.tupR
      obtain ⟨a, vs, rfl, ha, ra⟩ := rx.tup
      obtain ⟨b, ws, rfl, hb, rb⟩ := ry.tup
      have l1 := ra.length
      have l2 := rb.length
      refine .inr (.inr (.inl ⟨a, b, vs, ws, rfl, rfl, hK ▸ ha, hK ▸ hb, by omega, fun e1 => ?_, fun e1 e2 => ?_, fun e1 e2 p hp => ?_⟩))
      · subst e1
        cases ra
        exact q _ H (Same.refl H) ty
      · subst e2
        cases rb
        rw [List.append_nil] at q
        exact q _ H (Same.refl H) tx
      · exact q _ _ (same_new hp) (new_tup i (ra.append rb) hp)
    · cases h
  · split at h
    · cases h
      obtain ⟨a, vs, rfl, ha, ra⟩ := rx.list
      obtain ⟨b, ws, rfl, hb, rb⟩ := ry.list
      have l1 := ra.length
      have l2 := rb.length
      exact .inr (.inr (.inr ⟨a, b, vs, ws, rfl, rfl, ha, hb, by omega, fun p hp => q _ _ (same_new hp) (new_lst i (ra.append rb) hp)⟩))
    · cases h
  · cases h
theorem sim_sub : Sim2 G dSub (rI0 fun i j => .int (i - j)) := fun Z H d e x y z Q i rx ry h q => by
  unfold dSub at h
  split at h
  · cases h
    exact ⟨_, _, rx.int', ry.int', q _ H (Same.refl H) (.int _)⟩
  · cases h
theorem tuple_mul1 (l : Addr) (items : Array Value) (n : Nat) (dd : Option Addr) (sl : Array (Option Value)) (u : Tok) :
    Meets (Builtin.«tuple.__mul__» ⟨[.ref l, .int 1 u], []⟩) (fun _ R s => s.heap.get? l = some { cls := .type "tuple", dict := dd, data := .seq items n, slots := sl } ∧ R (.ok (.ret (Value.ref l))) s) :=
  .of_wp fun prog w A R s h => by
    obtain ⟨hp, g, d, tk, os⟩ := s
    obtain ⟨hl, h⟩ := h
    have f1 := AutoSeq1.idx_int
    wp_walk using wpAny_loadPart' hl
    exact ⟨_, rfl, h⟩
theorem tuple_mul0 (l : Addr) (items : Array Value) (n : Nat) (dd : Option Addr) (sl : Array (Option Value)) (u : Tok) (hi : items.isEmpty = false) :
    Meets (Builtin.«tuple.__mul__» ⟨[.ref l, .int 0 u], []⟩) (fun _ R s => s.heap.get? l = some { cls := .type "tuple", dict := dd, data := .seq items n, slots := sl } ∧ R (.ok (.ret (Value.ref s.heap.objs.size))) { s with heap := s.heap.push { cls := Value.type "tuple", data := Data.seq #[] }, toks := s.toks }) :=
  .of_wp fun prog w A R s h => by
    obtain ⟨hp, g, d, tk, os⟩ := s
    obtain ⟨hl, h⟩ := h
    have f1 := AutoSeq1.idx_int
    wp_walk using wpAny_loadPart' hl
    exact ⟨_, rfl, h⟩
/-- tuple * 0, tuple * 1 -/
def rRepS (K : PySem.W.Frag) : R2 := fun x y H Q => ∃ l xs, x = .ref l ∧ SqT K H l xs ∧ ((y = .int 1 ∧ Q (.ref l) H) ∨ (y = .int 0 ∧ xs ≠ [] ∧ ∀ p, H p = none → Q (.ref p) (upd H p (.tup []))))
theorem op_repS : OpR X (binaryOp .Mult) (rRepS X.K) := by
  intro pins s σ H x y v u Q I rx ry h
  obtain ⟨l, xs, rfl, hT, h⟩ := h
  cases rx
  obtain ⟨its, r, ⟨⟨cls, dd, data, sl⟩, ho, hc, n, hd⟩, hs⟩ := I.tuple hT
  simp only at hc hd
  subst hc hd
  rcases h with ⟨rfl, q⟩ | ⟨rfl, hne, q⟩
  · obtain ⟨t, rfl⟩ := ry
    exact wpAny_binaryOp_repeat_ref (T := "tuple") (U := "int") (by decide) ⟨_, ho, rfl⟩ (fun s' => typeIs_int s' 1 t) noFill_tuple_mul PySem.F.fills_int_mul PySem.F.slot_int_rmul repeat_tuple PySem.F.slot_int_index.lookup
      (call_meets PySem.F.slot_int_rmul (typeIs_int s 1 t) PySem.F.entry_int_rmul (PySem.F.args_int_rmul_2 _ _) (int_rmul_tuple 1 t l its.toArray n dd sl)
        ⟨ho, rfl, ⟨_, ho, rfl⟩, call_meets PySem.F.slot_tuple_mul ⟨_, ho, rfl⟩ PySem.F.entry_tuple_mul (PySem.F.args_tuple_mul_2 _ _) (tuple_mul1 l its.toArray n dd sl t) ⟨ho, ⟨.ref l, H, I, rfl, q⟩⟩⟩)
  · obtain ⟨t, rfl⟩ := ry
    have hi : its.toArray.isEmpty = false := by
      cases its with
      | nil => exact absurd (List.eq_nil_of_length_eq_zero r.length) hne
      | cons a b => rfl
    exact wpAny_binaryOp_repeat_ref (T := "tuple") (U := "int") (by decide) ⟨_, ho, rfl⟩ (fun s' => typeIs_int s' 0 t) noFill_tuple_mul PySem.F.fills_int_mul PySem.F.slot_int_rmul repeat_tuple PySem.F.slot_int_index.lookup
      (call_meets PySem.F.slot_int_rmul (typeIs_int s 0 t) PySem.F.entry_int_rmul (PySem.F.args_int_rmul_2 _ _) (int_rmul_tuple 0 t l its.toArray n dd sl)
        ⟨ho, rfl, ⟨_, ho, rfl⟩, call_meets PySem.F.slot_tuple_mul ⟨_, ho, rfl⟩ PySem.F.entry_tuple_mul (PySem.F.args_tuple_mul_2 _ _) (tuple_mul0 l its.toArray n dd sl t hi) ⟨ho,
          ⟨.ref s.heap.objs.size, _, I.laid (t' := s.toks) (o := .tup []) (fun b ob q => Heap.get?_push_of_some _ q) (Nat.le_refl _) ⟨Nat.zero_le _, _, .nil, PyProof.Rows.IsTup.new _ _⟩, rfl, q _ (I.hok.fresh (Nat.le_refl _))⟩⟩⟩)
abbrev rMulM (K : PySem.W.Frag) : R2 := fun x y H Q => (rI CMul (fun i j => .int (i * j)) x y H Q ∨ rRepR x y H Q) ∨ (rRepS K x y H Q ∨ rRepT K x y H Q)
theorem op_mulM : OpR X (binaryOp .Mult) (rMulM X.K) := by
  intro pins s σ H x y v u Q I rx ry h
  rcases h with (h | h) | (h | h)
  · exact op_mul pins s σ H x y v u Q I rx ry h
  · exact op_repR pins s σ H x y v u Q I rx ry h
  · exact op_repS pins s σ H x y v u Q I rx ry h
  · exact op_repT pins s σ H x y v u Q I rx ry h
theorem Reps.rep {Z : Zone} {H : Hp} {ds : List D} {vs : List V} (h : Reps G Z H ds vs) : ∀ k : Nat, Reps G Z H (List.replicate k ds).flatten (List.replicate k vs).flatten
  | 0 => by simp; exact .nil
  | k + 1 => by simp only [List.replicate_succ, List.flatten_cons]; exact h.append (Reps.rep h k)
theorem sim_mul (hK : G.K = X.K) : Sim2 G dMul (rMulM X.K) := fun Z H d e x y z Q i rx ry h q => by
  unfold dMul at h
  split at h
  · split at h
    · rename_i hs
      cases h
      refine .inl (.inl ⟨_, _, rx.int', ry.int', ?_, q _ H (Same.refl H) (.int _)⟩)
      simp only [Bool.or_eq_true, small_iff] at hs
      unfold CMul
      omega
    · cases h
  · split at h
    · rename_i hs
      cases h
      obtain ⟨a, vs, rfl, ha, ra⟩ := rx.list
      have l1 := ra.length
      obtain ⟨h1, h2, h3⟩ := hs
      exact .inl (.inr ⟨a, _, vs, rfl, ry.int', ha, by omega, by omega, by rw [← l1]; exact h3, fun p hp => q _ _ (same_new hp) (new_lst i (ra.rep _) hp)⟩)
    · cases h
  · split at h
    · rename_i xs k hs
      cases h
      obtain ⟨h1, h2, h3, h4⟩ := hs
      obtain ⟨a, vs, rfl, ha, ra⟩ := rx.tup
      have l1 := ra.length
      have hy := ry.int'
      have ne : vs ≠ [] := fun z => by
        rw [z] at l1
        cases xs with
        | nil => cases h1
        | cons _ _ => cases l1
      by_cases k1 : k = 1
      · subst k1
        refine .inr (.inl ⟨a, vs, rfl, hK ▸ ha, .inl ⟨hy, ?_⟩⟩)
        cases rx with
        | rep rx => exact q _ H (Same.refl H) (by simpa using rx)
      · by_cases k0 : k = 0
        · subst k0
          exact .inr (.inl ⟨a, vs, rfl, hK ▸ ha, .inr ⟨hy, ne, fun p hp => q _ _ (same_new hp) (by simpa using new_tup i (.nil) hp)⟩⟩)
        · exact .inr (.inr ⟨a, k, vs, rfl, hy, hK ▸ ha, ne, by omega, h3, by rw [← l1]; exact h4, fun p hp => q _ _ (same_new hp) (new_tup i (ra.rep _) hp)⟩)
    · cases h
  · cases h
theorem sim_mod : Sim2 G dMod (rI (fun _ j => 0 < j) fun i j => .int (i % j)) := fun Z H d e x y z Q i rx ry h q => by
  unfold dMod at h
  split at h
  · split at h
    · cases h
      exact ⟨_, _, rx.int', ry.int', by assumption, q _ H (Same.refl H) (.int _)⟩
    · cases h
  · cases h
theorem sim_fdiv : Sim2 G dFdiv (rI CDiv fun i j => .int (i / j)) := fun Z H d e x y z Q i rx ry h q => by
  unfold dFdiv at h
  split at h
  · split at h
    · cases h
      exact ⟨_, _, rx.int', ry.int', by assumption, q _ H (Same.refl H) (.int _)⟩
    · cases h
  · cases h
theorem sim_pow : Sim2 G dPow (rI CPow fun i j => .int (i ^ j.toNat)) := fun Z H d e x y z Q i rx ry h q => by
  unfold dPow at h
  split at h
  · split at h
    · cases h
      exact ⟨_, _, rx.int', ry.int', by assumption, q _ H (Same.refl H) (.int _)⟩
    · cases h
  · cases h
theorem sim_neg : Sim1 G dNeg (rU fun i => .int (-i)) := fun Z H d x z Q i rx h q => by
  unfold dNeg at h
  split at h
  · cases h
    exact ⟨_, rx.int', q _ H (Same.refl H) (.int _)⟩
  · cases h
theorem op_ltM : OpR X (compareOp .Lt) (fun x y H Q => rI0 (fun i j => .bl (decide (i < j))) x y H Q ∨ (∃ i j, x = .str i ∧ y = .str j ∧ Q (.bl (decide (i.cps.toList < j.cps.toList))) H)) := op_lt.or op_lt_str
theorem sim_lt : Sim2 G dLt (fun x y H Q => rI0 (fun i j => .bl (decide (i < j))) x y H Q ∨ (∃ i j, x = .str i ∧ y = .str j ∧ Q (.bl (decide (i.cps.toList < j.cps.toList))) H)) := fun Z H d e x y z Q i rx ry h q => by
  unfold dLt at h
  split at h
  · cases h
    exact .inl ⟨_, _, rx.int', ry.int', q _ H (Same.refl H) (.bl _)⟩
  · cases h
    exact .inr ⟨_, _, rx.str', ry.str', q _ H (Same.refl H) (.bl _)⟩
  · cases h
theorem sim_le : Sim2 G dLe (rI0 fun i j => .bl (decide (i ≤ j))) := fun Z H d e x y z Q i rx ry h q => by
  unfold dLe at h
  split at h
  · cases h
    exact ⟨_, _, rx.int', ry.int', q _ H (Same.refl H) (.bl _)⟩
  · cases h
theorem sim_gt : Sim2 G dGt (rI0 fun i j => .bl (decide (j < i))) := fun Z H d e x y z Q i rx ry h q => by
  unfold dGt at h
  split at h
  · cases h
    exact ⟨_, _, rx.int', ry.int', q _ H (Same.refl H) (.bl _)⟩
  · cases h
theorem sim_ge : Sim2 G dGe (rI0 fun i j => .bl (decide (j ≤ i))) := fun Z H d e x y z Q i rx ry h q => by
  unfold dGe at h
  split at h
  · cases h
    exact ⟨_, _, rx.int', ry.int', q _ H (Same.refl H) (.bl _)⟩
  · cases h
/-! ### is, in -/
theorem Rep.isNon {Z : Zone} {H : Hp} {d : D} {v : V} (h : Rep G Z H d v) : decide (v = .non) = d.isNon := by
  cases h <;> rfl
theorem View.isNon {Z : Zone} {H : Hp} {d : D} {v : V} (h : View G Z H d v) : decide (v = .non) = d.isNon := by
  cases h with
  | rep h => exact h.isNon
  | _ => rfl
theorem op_isM : OpR X (compareOp .Is) (fun x y H Q => (y = .non ∧ Q (.bl (decide (x = .non))) H) ∨ rIsB x y H Q) := op_isN.or op_isBl
theorem op_isNotM : OpR X (compareOp .IsNot) (fun x y H Q => (y = .non ∧ Q (.bl (!decide (x = .non))) H) ∨ rNotB x y H Q) := op_notN.or op_notBl
theorem sim_is : Sim2 G dIs (fun x y H Q => (y = .non ∧ Q (.bl (decide (x = .non))) H) ∨ rIsB x y H Q) := fun Z H d e x y z Q i rx ry h q => by
  unfold dIs at h
  split at h
  · cases h
    refine .inl ⟨?_, ?_⟩
    · cases ry with | rep h => exact h.non'
    · rw [rx.isNon]
      exact q _ H (Same.refl H) (.bl _)
  · split at h
    · cases h
      exact .inr ⟨_, _, rx.bl', ry.bl', q _ H (Same.refl H) (.bl _)⟩
    · cases h
  · cases h
theorem sim_isNot : Sim2 G dIsNot (fun x y H Q => (y = .non ∧ Q (.bl (!decide (x = .non))) H) ∨ rNotB x y H Q) := fun Z H d e x y z Q i rx ry h q => by
  unfold dIsNot at h
  split at h
  · cases h
    refine .inl ⟨?_, ?_⟩
    · cases ry with | rep h => exact h.non'
    · rw [rx.isNon]
      exact q _ H (Same.refl H) (.bl _)
  · split at h
    · cases h
      exact .inr ⟨_, _, rx.bl', ry.bl', q _ H (Same.refl H) (.bl _)⟩
    · cases h
  · cases h
/-- in, not in: a list, a tuple, a text -/
def rInM (K : PySem.W.Frag) (neg : Bool) : R2 := fun x y H Q => (∃ d ds, Dp K H x d ∧ (Dp K H y (.list ds) ∨ Dp K H y (.tuple ds)) ∧ SeqAt.shaped d = true ∧ SeqAt.shaped (.list ds) = true ∧ Q (.bl (if neg = true then !(ds.any fun z => PyData.eqv z d) else ds.any fun z => PyData.eqv z d)) H) ∨
  (∃ i j, x = .str i ∧ y = .str j ∧ Q (.bl (if neg = true then !(!(Builtin.Str.occurrences j i 0 j.length 1).isEmpty) else !(Builtin.Str.occurrences j i 0 j.length 1).isEmpty)) H)
theorem room_in {A : Around} {d : PyData} {ds : List PyData} (sd : SeqAt.shaped d = true) (hu : A.units + 65 < cLine) : A.units + 1 + min (PyData.depthAll ds) d.depth < cLine := PyProof.Rows.room_in_shaped sd hu
theorem op_inM (hu : X.A.units + 65 < cLine) : OpR X (compareOp .In) (rInM X.K false) := by
  intro pins s σ H x y v u Q I rx ry h
  rcases h with ⟨d, ds, hd, he, sd, se, q⟩ | h
  · obtain ⟨as, r1⟩ := Dp.reads I d x v hd rx
    rcases he with he | he
    · obtain ⟨bs, r2⟩ := Dp.reads I (.list ds) y u he ry
      exact SeqAt.in_list_reads r2 r1 (SeqAt.canLay_of_shaped se) (SeqAt.canLay_of_shaped sd) (PyProof.Rows.room_in_shaped sd hu) ⟨.bl _, H, I, rfl, q⟩
    · obtain ⟨bs, r2⟩ := Dp.reads I (.tuple ds) y u he ry
      exact SeqAt.in_tuple_reads r2 r1 (SeqAt.canLay_of_shaped se) (SeqAt.canLay_of_shaped sd) (PyProof.Rows.room_in_shaped sd hu) ⟨.bl _, H, I, rfl, q⟩
  · exact op_in_str pins s σ H x y v u Q I rx ry h
theorem op_notInM (hu : X.A.units + 65 < cLine) : OpR X (compareOp .NotIn) (rInM X.K true) := by
  intro pins s σ H x y v u Q I rx ry h
  rcases h with ⟨d, ds, hd, he, sd, se, q⟩ | h
  · obtain ⟨as, r1⟩ := Dp.reads I d x v hd rx
    rcases he with he | he
    · obtain ⟨bs, r2⟩ := Dp.reads I (.list ds) y u he ry
      exact SeqAt.notIn_list_reads r2 r1 (SeqAt.canLay_of_shaped se) (SeqAt.canLay_of_shaped sd) (PyProof.Rows.room_in_shaped sd hu) ⟨.bl _, H, I, rfl, q⟩
    · obtain ⟨bs, r2⟩ := Dp.reads I (.tuple ds) y u he ry
      exact SeqAt.notIn_tuple_reads r2 r1 (SeqAt.canLay_of_shaped se) (SeqAt.canLay_of_shaped sd) (PyProof.Rows.room_in_shaped sd hu) ⟨.bl _, H, I, rfl, q⟩
  · exact op_notin_str pins s σ H x y v u Q I rx ry h
theorem pys_any (x : D) : ∀ ds : List D, (D.pys ds).any (fun z => PyData.eqv z x.py) = pysIn x ds
  | [] => by unfold D.pys; rfl
  | y :: ds => by
    unfold D.pys pysIn D.eqv
    rw [List.any_cons, List.any_cons, pys_any x ds]
    rfl
theorem list_shaped {ds : List D} (f : D.flats 59 ds = true) : SeqAt.shaped (.list (D.pys ds)) = true := by
  have := py_shaped (d := .lst ds) (by unfold D.flat; exact f)
  unfold D.py at this
  exact this
theorem sim_in (hK : G.K = X.K) : Sim2 G dIn (rInM X.K false) := fun Z H d e x y z Q i rx ry h q => by
  unfold dIn at h
  split at h
  · split at h
    · rename_i hf
      rw [Bool.and_eq_true] at hf
      cases h
      refine .inl ⟨_, _, hK ▸ rx.dp hf.1, .inl ?_, py_shaped hf.1, list_shaped hf.2, ?_⟩
      · have := ry.dp (n := 60) (by unfold D.flat; exact hf.2)
        unfold D.py at this
        exact hK ▸ this
      · rw [pys_any]
        exact q _ H (Same.refl H) (.bl _)
    · cases h
  · split at h
    · rename_i hf
      rw [Bool.and_eq_true] at hf
      cases h
      refine .inl ⟨_, _, hK ▸ rx.dp hf.1, .inr ?_, py_shaped hf.1, list_shaped hf.2, ?_⟩
      · have := ry.dp (n := 60) (by unfold D.flat; exact hf.2)
        unfold D.py at this
        exact hK ▸ this
      · rw [pys_any]
        exact q _ H (Same.refl H) (.bl _)
    · cases h
  · split at h
    · cases h
      exact .inr ⟨_, _, rx.str', ry.str', q _ H (Same.refl H) (.bl _)⟩
    · cases h
  · cases h
theorem sim_notIn (hK : G.K = X.K) : Sim2 G dNotIn (rInM X.K true) := fun Z H d e x y z Q i rx ry h q => by
  unfold dNotIn at h
  split at h
  · rename_i b hb
    cases h
    have := sim_in (X := X) hK Z H d e x y (.bl b) (fun v H' => ∃ c, v = .bl c ∧ Q (.bl (!c)) H') i rx ry hb fun v H' e' r' => by
      rw [r'.bl']
      exact ⟨b, rfl, q _ H' e' (.bl _)⟩
    rcases this with ⟨d', ds, h1, h2, h3, h4, c, h5, h6⟩ | ⟨i', j, h1, h2, c, h5, h6⟩
    · refine .inl ⟨d', ds, h1, h2, h3, h4, ?_⟩
      have h5 : (ds.any fun z => PyData.eqv z d') = c := V.bl.inj h5
      rw [if_pos rfl, h5]
      exact h6
    · refine .inr ⟨i', j, h1, h2, ?_⟩
      have h5 : (!(Builtin.Str.occurrences j i' 0 j.length 1).isEmpty) = c := V.bl.inj h5
      rw [if_pos rfl, h5]
      exact h6
  · cases h
/-! ### subscripts -/
theorem Reps.atI {Z : Zone} {H : Hp} {ds : List D} {vs : List V} {i : Int} {d : D} (r : Reps G Z H ds vs) (h : atI ds i = some d) : ∃ v, L2.atI vs i = some v ∧ Rep G Z H d v := by
  unfold L2.atI at h ⊢
  obtain ⟨j, h1, h2⟩ := Option.bind_eq_some_iff.mp h
  obtain ⟨v, h3, h4⟩ := r.get h2
  exact ⟨v, by rw [← r.length, h1]; exact h3, h4⟩
theorem View.scr' {Z : Zone} {H : Hp} {ns : List Int} {v : V} (h : View G Z H (.scr ns) v) : ∃ a, v = .ref a ∧ SqL G.K H a (ns.map V.int) := by
  cases h with
  | rep h =>
    cases h with
    | scr r z => exact ⟨_, rfl, .inl r⟩
    | scrK h => exact ⟨_, rfl, .inr h⟩
theorem sim_ix (hK : G.K = X.K) : Sim2 G dIx (rIx X.K) := fun Z H d e x y z Q i rx ry h q => by
  unfold dIx at h
  split at h
  · obtain ⟨a, vs, rfl, ha, ra⟩ := rx.list
    obtain ⟨v, hv, rv⟩ := ra.atI h
    exact .inl ⟨a, vs, _, v, rfl, ry.int', .inl ha, hv, q _ H (Same.refl H) rv⟩
  · obtain ⟨a, vs, rfl, ha, ra⟩ := rx.tup
    obtain ⟨v, hv, rv⟩ := ra.atI h
    exact .inr (.inl ⟨a, vs, _, v, rfl, ry.int', hK ▸ ha, hv, q _ H (Same.refl H) rv⟩)
  · obtain ⟨m, h1, h2⟩ := Option.map_eq_some_iff.mp h
    cases h2
    obtain ⟨a, rfl, ha⟩ := rx.scr'
    refine .inl ⟨a, _, _, _, rfl, ry.int', hK ▸ ha, ?_, q _ H (Same.refl H) (.int m)⟩
    unfold L2.atI at h1 ⊢
    obtain ⟨j, h1, h2⟩ := Option.bind_eq_some_iff.mp h1
    rw [List.length_map, h1]
    show (_ : List V)[j]? = _
    rw [List.getElem?_map, h2]
    rfl
  · rename_i z' i'
    split at h
    · obtain ⟨c, h1, h2⟩ := Option.map_eq_some_iff.mp h
      cases h2
      exact .inr (.inr ⟨z', i', c, rx.str', ry.int', by assumption, h1, q _ H (Same.refl H) (.str _)⟩)
    · cases h
  · cases h
/-! ### built-ins -/
theorem sim_len (hK : G.K = X.K) : SimC G dLen (fun xs H Q => (∃ x n, xs = [x] ∧ LenV X.K x H n ∧ Q (.int n) H) ∨ ∃ a kvs, xs = [V.ref a] ∧ H a = some (.dK kvs) ∧ Q (.int kvs.length) H) := fun Z H d x z Q i rx h q => by
  unfold dLen at h
  split at h
  · cases h
    obtain ⟨a, vs, rfl, ha, ra⟩ := rx.list
    refine .inl ⟨_, _, rfl, .inl ⟨vs, .inl ha, rfl⟩, ?_⟩
    rw [← ra.length]
    exact q _ H (Same.refl H) (.int _)
  · cases h
    obtain ⟨a, vs, rfl, ha, ra⟩ := rx.tup
    refine .inl ⟨_, _, rfl, .inr ⟨vs, hK ▸ ha, rfl⟩, ?_⟩
    rw [← ra.length]
    exact q _ H (Same.refl H) (.int _)
  · split at h
    · cases h
      rw [rx.str']
      exact .inl ⟨_, _, rfl, ⟨by assumption, rfl⟩, q _ H (Same.refl H) (.int _)⟩
    · cases h
  · cases h
    obtain ⟨a, rfl, ha⟩ := rx.scr'
    exact .inl ⟨_, _, rfl, .inl ⟨_, hK ▸ ha, by rw [List.length_map]⟩, q _ H (Same.refl H) (.int _)⟩
  · cases h
theorem cr_lenM : CallR X (.builtin "len") (fun xs H Q => (∃ x n, xs = [x] ∧ LenV X.K x H n ∧ Q (.int n) H) ∨ ∃ a kvs, xs = [V.ref a] ∧ H a = some (.dK kvs) ∧ Q (.int kvs.length) H) := call_len.or call_lenD
theorem sim_tuple (hK : G.K = X.K) : SimC G dTuple (fun xs H Q => ∃ p ys, xs = [.ref p] ∧ ((SqL X.K H p ys ∧ ∀ l, H l = none → Q (.ref l) (upd H l (.tup ys))) ∨ (SqT X.K H p ys ∧ Q (.ref p) H))) := fun Z H d x z Q i rx h q => by
  unfold dTuple at h
  split at h
  · cases h
    obtain ⟨a, vs, rfl, ha, ra⟩ := rx.list
    exact ⟨a, vs, rfl, .inl ⟨.inl ha, fun l hl => q _ _ (same_new hl) (new_tup i ra hl)⟩⟩
  · cases h
    have rt := rx.tupR
    obtain ⟨a, vs, rfl, ha, ra⟩ := rx.tup
    exact ⟨a, vs, rfl, .inr ⟨hK ▸ ha, q _ H (Same.refl H) rt⟩⟩
  · cases h
theorem sim_list (hK : G.K = X.K) : SimC G dList (fun xs H Q => ∃ p ys, xs = [.ref p] ∧ (SqL X.K H p ys ∨ SqT X.K H p ys) ∧ ∀ l, H l = none → Q (.ref l) (upd H l (.lst ys))) := fun Z H d x z Q i rx h q => by
  unfold dList at h
  split at h
  · cases h
    obtain ⟨a, vs, rfl, ha, ra⟩ := rx.list
    exact ⟨a, vs, rfl, .inl (.inl ha), fun l hl => q _ _ (same_new hl) (new_lst i ra hl)⟩
  · cases h
    obtain ⟨a, vs, rfl, ha, ra⟩ := rx.tup
    exact ⟨a, vs, rfl, .inr (hK ▸ ha), fun l hl => q _ _ (same_new hl) (new_lst i ra hl)⟩
  · cases h
theorem Reps.ofInts {Z : Zone} {H : Hp} : ∀ {ds : List D} {vs : List V} {ns : List Int}, Reps G Z H ds vs → dInts ds = some ns → vs = ns.map V.int
  | _, _, _, .nil, e => by cases e; rfl
  | _, _, ns, .cons (d := d) (ds := ds) r t, e => by
    unfold dInts at e
    split at e
    · rename_i h; cases h
    · rename_i i r' h
      cases h
      obtain ⟨m, h1, h2⟩ := Option.map_eq_some_iff.mp e
      subst h2
      rw [r.int', Reps.ofInts t h1]
      rfl
    · cases e
theorem Reps.ofBools {Z : Zone} {H : Hp} : ∀ {ds : List D} {vs : List V} {ns : List Bool}, Reps G Z H ds vs → dBools ds = some ns → vs = ns.map V.bl
  | _, _, _, .nil, e => by cases e; rfl
  | _, _, ns, .cons (d := d) (ds := ds) r t, e => by
    unfold dBools at e
    split at e
    · rename_i h; cases h
    · rename_i i r' h
      cases h
      obtain ⟨m, h1, h2⟩ := Option.map_eq_some_iff.mp e
      subst h2
      rw [r.bl', Reps.ofBools t h1]
      rfl
    · cases e
theorem cr_sumT (hc : X.calm = true) : CallR X (.builtin "sum") (fun vs H Q => ∃ (a : Addr) (ns : List Int), vs = [V.ref a] ∧ SqT X.K H a (ns.map V.int) ∧ Q (.int ns.sum) H) := by
  intro pins s σ H vs us Q I r h
  obtain ⟨a, ns, rfl, hs, q⟩ := h
  obtain ⟨its, rv, hl, _⟩ := I.tuple hs
  rw [Vals.ref1 r]
  have hi := rv.ints
  obtain ⟨xs, hx⟩ := hi.allInts.items
  have hn : PySem.numsOf (PySem.intItems xs).toList = ns := by rw [← hx]; exact hi.numsOf
  rw [PySem.nums_intItems] at hn
  rw [hx] at hl
  refine PySem.W.ktm_sumG (I.ok.hd hc) hl fun h' tk t' hk => ⟨.int _, H, I.kept hk, ⟨_, rfl⟩, ?_⟩
  rw [PySem.preSum_eq, List.take_of_length_le (by simp), hn]
  exact q
theorem cr_sumM (hc : X.calm = true) : CallR X (.builtin "sum") (fun vs H Q => rSum X.K vs H Q ∨ ∃ (a : Addr) (ns : List Int), vs = [V.ref a] ∧ SqT X.K H a (ns.map V.int) ∧ Q (.int ns.sum) H) := (cr_sum hc).or (cr_sumT hc)
theorem sim_sum (hK : G.K = X.K) : SimC G dSum (fun vs H Q => rSum X.K vs H Q ∨ ∃ (a : Addr) (ns : List Int), vs = [V.ref a] ∧ SqT X.K H a (ns.map V.int) ∧ Q (.int ns.sum) H) := fun Z H d x z Q i rx h q => by
  unfold dSum at h
  split at h
  · obtain ⟨ns, h1, h2⟩ := Option.map_eq_some_iff.mp h
    cases h2
    obtain ⟨a, vs, rfl, ha, ra⟩ := rx.list
    have e := ra.ofInts h1
    subst e
    exact .inl ⟨a, ns, rfl, .inl ha, q _ H (Same.refl H) (.int _)⟩
  · obtain ⟨ns, h1, h2⟩ := Option.map_eq_some_iff.mp h
    cases h2
    obtain ⟨a, vs, rfl, ha, ra⟩ := rx.tup
    have e := ra.ofInts h1
    subst e
    exact .inr ⟨a, ns, rfl, hK ▸ ha, q _ H (Same.refl H) (.int _)⟩
  · cases h
theorem sim_all : SimC G dAll (rAll X.K) := fun Z H d x z Q i rx h q => by
  unfold dAll at h
  split at h
  · obtain ⟨ns, h1, h2⟩ := Option.map_eq_some_iff.mp h
    cases h2
    obtain ⟨a, vs, rfl, ha, ra⟩ := rx.list
    have e := ra.ofBools h1
    subst e
    exact ⟨a, ns, rfl, .inl ha, q _ H (Same.refl H) (.bl _)⟩
  · cases h
theorem sim_any : SimC G dAny (rAny X.K) := fun Z H d x z Q i rx h q => by
  unfold dAny at h
  split at h
  · obtain ⟨ns, h1, h2⟩ := Option.map_eq_some_iff.mp h
    cases h2
    obtain ⟨a, vs, rfl, ha, ra⟩ := rx.list
    have e := ra.ofBools h1
    subst e
    exact ⟨a, ns, rfl, .inl ha, q _ H (Same.refl H) (.bl _)⟩
  · cases h
theorem maxI_ge : ∀ (l : List Int) (a : Int), a ≤ maxI a l ∧ (∀ x ∈ l, x ≤ maxI a l) ∧ (maxI a l = a ∨ maxI a l ∈ l)
  | [], a => ⟨Int.le_refl _, by simp, .inl rfl⟩
  | x :: l, a => by
    obtain ⟨h1, h2, h3⟩ := maxI_ge l (max a x)
    have e : maxI a (x :: l) = maxI (max a x) l := rfl
    rw [e]
    refine ⟨by omega, fun y hy => ?_, ?_⟩
    · rcases List.mem_cons.mp hy with rfl | hy
      · omega
      · exact h2 y hy
    · rcases h3 with h3 | h3
      · rw [h3]
        by_cases c : a ≤ x
        · exact .inr (by rw [show max a x = x by omega]; exact List.mem_cons_self)
        · exact .inl (by omega)
      · exact .inr (List.mem_cons_of_mem _ h3)
theorem minI_le : ∀ (l : List Int) (a : Int), minI a l ≤ a ∧ (∀ x ∈ l, minI a l ≤ x) ∧ (minI a l = a ∨ minI a l ∈ l)
  | [], a => ⟨Int.le_refl _, by simp, .inl rfl⟩
  | x :: l, a => by
    obtain ⟨h1, h2, h3⟩ := minI_le l (min a x)
    have e : minI a (x :: l) = minI (min a x) l := rfl
    rw [e]
    refine ⟨by omega, fun y hy => ?_, ?_⟩
    · rcases List.mem_cons.mp hy with rfl | hy
      · omega
      · exact h2 y hy
    · rcases h3 with h3 | h3
      · rw [h3]
        by_cases c : x ≤ a
        · exact .inr (by rw [show min a x = x by omega]; exact List.mem_cons_self)
        · exact .inl (by omega)
      · exact .inr (List.mem_cons_of_mem _ h3)
theorem sim_max : SimC G dMax (rMax X.K) := fun Z H d x z Q i rx h q => by
  unfold dMax at h
  split at h
  · split at h
    · rename_i a0 l h1
      cases h
      obtain ⟨a, vs, rfl, ha, ra⟩ := rx.list
      have e := ra.ofInts h1
      subst e
      obtain ⟨g1, g2, g3⟩ := maxI_ge l a0
      refine ⟨a, a0 :: l, rfl, .inl ha, by simp, fun m hm hall => ?_⟩
      have hle : m ≤ maxI a0 l := by
        rcases List.mem_cons.mp hm with rfl | hm
        · exact g1
        · exact g2 m hm
      have hge : maxI a0 l ≤ m := by
        rcases g3 with g3 | g3
        · rw [g3]; exact hall a0 List.mem_cons_self
        · exact hall _ (List.mem_cons_of_mem _ g3)
      rw [show m = maxI a0 l by omega]
      exact q _ H (Same.refl H) (.int _)
    · cases h
  · cases h
theorem sim_min : SimC G dMin (rMin X.K) := fun Z H d x z Q i rx h q => by
  unfold dMin at h
  split at h
  · split at h
    · rename_i a0 l h1
      cases h
      obtain ⟨a, vs, rfl, ha, ra⟩ := rx.list
      have e := ra.ofInts h1
      subst e
      obtain ⟨g1, g2, g3⟩ := minI_le l a0
      refine ⟨a, a0 :: l, rfl, .inl ha, by simp, fun m hm hall => ?_⟩
      have hle : minI a0 l ≤ m := by
        rcases List.mem_cons.mp hm with rfl | hm
        · exact g1
        · exact g2 m hm
      have hge : m ≤ minI a0 l := by
        rcases g3 with g3 | g3
        · rw [g3]; exact hall a0 List.mem_cons_self
        · exact hall _ (List.mem_cons_of_mem _ g3)
      rw [show m = minI a0 l by omega]
      exact q _ H (Same.refl H) (.int _)
    · cases h
  · cases h
theorem sim_max2 : SimN G dMax2 (fun xs H Q => ∃ i j, xs = [.int i, .int j] ∧ Q (.int (if j > i then j else i)) H) := fun Z H ds xs z Q i rx h q => by
  unfold dMax2 at h
  split at h
  · cases h
    cases rx with
    | cons r1 t =>
      cases t with
      | cons r2 t =>
        cases t
        rw [r1.int', r2.int']
        exact ⟨_, _, rfl, q _ H (Same.refl H) (.int _)⟩
  · cases h
theorem sim_min2 : SimN G dMin2 (fun xs H Q => ∃ i j, xs = [.int i, .int j] ∧ Q (.int (if j < i then j else i)) H) := fun Z H ds xs z Q i rx h q => by
  unfold dMin2 at h
  split at h
  · cases h
    cases rx with
    | cons r1 t =>
      cases t with
      | cons r2 t =>
        cases t
        rw [r1.int', r2.int']
        exact ⟨_, _, rfl, q _ H (Same.refl H) (.int _)⟩
  · cases h
theorem insI_perm (x : Int) : ∀ l : List Int, (insI x l).Perm (x :: l)
  | [] => .refl _
  | y :: r => by
    unfold insI
    split
    · exact .refl _
    · exact ((insI_perm x r).cons y).trans (.swap x y r)
theorem sortI_perm : ∀ l : List Int, (sortI l).Perm l
  | [] => .refl _
  | x :: r => (insI_perm x (sortI r)).trans ((sortI_perm r).cons x)
theorem insI_sorted (x : Int) : ∀ l : List Int, l.Pairwise (· ≤ ·) → (insI x l).Pairwise (· ≤ ·)
  | [], _ => by simp [insI]
  | y :: r, h => by
    unfold insI
    rw [List.pairwise_cons] at h
    split
    · rename_i hle
      rw [List.pairwise_cons]
      refine ⟨fun z hz => ?_, List.pairwise_cons.mpr h⟩
      rcases List.mem_cons.mp hz with rfl | hz
      · exact hle
      · exact Int.le_trans hle (h.1 z hz)
    · rename_i hle
      rw [List.pairwise_cons]
      refine ⟨fun z hz => ?_, insI_sorted x r h.2⟩
      rcases List.mem_cons.mp ((insI_perm x r).mem_iff.mp hz) with rfl | hz
      · omega
      · exact h.1 z hz
theorem sortI_sorted : ∀ l : List Int, (sortI l).Pairwise (· ≤ ·)
  | [] => .nil
  | x :: r => insI_sorted x _ (sortI_sorted r)
theorem sorted_uniq {a b : List Int} (p : a.Perm b) (ha : a.Pairwise (· ≤ ·)) (hb : b.Pairwise (· ≤ ·)) : a = b :=
  p.eq_of_pairwise (fun x y _ _ h1 h2 => Int.le_antisymm h1 h2) ha hb
theorem reps_ints {Z : Zone} {H : Hp} : ∀ ns : List Int, Reps G Z H (ns.map .int) (ns.map V.int)
  | [] => .nil
  | n :: ns => .cons (.int n) (reps_ints ns)
theorem sim_sorted : SimC G dSorted (rSortedI X.K) := fun Z H d x z Q i rx h q => by
  unfold dSorted at h
  split at h
  · obtain ⟨ns, h1, h2⟩ := Option.map_eq_some_iff.mp h
    cases h2
    obtain ⟨a, vs, rfl, ha, ra⟩ := rx.list
    have e := ra.ofInts h1
    subst e
    refine ⟨a, ns, rfl, .inl ha, fun ns' p hp hs hn => ?_⟩
    rw [sorted_uniq (hp.trans (sortI_perm ns).symm) hs (sortI_sorted ns)]
    exact q _ _ (same_new hn) (new_lst i (reps_ints _) hn)
  · cases h
theorem sim_abs : SimC G dAbs (fun xs H Q => ∃ i, xs = [.int i] ∧ Q (.int (if i < 0 then -i else i)) H) := fun Z H d x z Q i rx h q => by
  unfold dAbs at h
  split at h
  · cases h
    rw [rx.int']
    exact ⟨_, rfl, q _ H (Same.refl H) (.int _)⟩
  · cases h
theorem sim_int : SimC G dInt (fun xs H Q => (∃ i, xs = [.int i] ∧ Q (.int i) H) ∨ ∃ k, xs = [.bl k] ∧ Q (.int (if k then 1 else 0)) H) := fun Z H d x z Q i rx h q => by
  unfold dInt at h
  split at h
  · cases h
    rw [rx.int']
    exact .inl ⟨_, rfl, q _ H (Same.refl H) (.int _)⟩
  · cases h
    rw [rx.bl']
    exact .inr ⟨_, rfl, q _ H (Same.refl H) (.int _)⟩
  · cases h
theorem SqT.tyx {K : PySem.W.Frag} {H : Hp} {a : Addr} {vs : List V} (h : SqT K H a vs) : TyX K H (.ref a) (.type "tuple") := by
  rcases h with (h | ⟨o, h⟩) | ⟨o, its, n, h1, h2, _⟩
  · exact .base (.tup h)
  · exact .fTuple h
  · exact .kTuple h1 h2
theorem Rd.tyl {K : PySem.W.Frag} {H : Hp} {a : Addr} {vs : List V} (h : Rd H a (.lst vs)) : TyX K H (.ref a) (.type "list") := by
  rcases h with h | ⟨o, h⟩
  · exact .base (.lst h)
  · exact .base (.frz h)
theorem View.tyx {Z : Zone} {H : Hp} {d : D} {v : V} {n : String} (hK : G.K = X.K) (h : View G Z H d v) (e : tyName d = some n) : TyX X.K H v (.type n) := by
  cases d with
  | non => cases e; cases h with | rep h => rw [h.non']; exact .base .non
  | bl b => cases e; rw [h.bl']; exact .base (.bl _)
  | int b => cases e; rw [h.int']; exact .base (.int _)
  | str b => cases e; rw [h.str']; exact .base (.str _)
  | tup ds =>
    cases e
    obtain ⟨a, vs, rfl, ha, _⟩ := h.tup
    exact hK ▸ SqT.tyx ha
  | lst ds =>
    cases e
    obtain ⟨a, vs, rfl, ha, _⟩ := h.list
    exact Rd.tyl ha
  | dic ds =>
    cases e
    have key : ∀ {a : Addr} {kvs : List (Key × V)}, Rd H a (.dK kvs) → TyX X.K H (.ref a) (.type "dict") := fun r => r.elim (fun r => .base (.dK r)) fun ⟨o, r⟩ => .fDict r
    cases h with
    | rep h => cases h with | dK r z h => exact key r
    | dK r h => exact key r
  | diT ds => cases e
  | ins c fs => cases e
  | fn x => cases e
  | scr ns => cases e
  | tupX ns => cases e
theorem sim_isi (hK : G.K = X.K) {T : String} : Sim1 G (dIsi T) (fun x H Q => rIsi X.K [x, .ty T] H Q) := fun Z H d x z Q i rx h q => by
  unfold dIsi at h
  obtain ⟨n, h1, h2⟩ := Option.bind_eq_some_iff.mp h
  obtain ⟨b, h3, h4⟩ := Option.map_eq_some_iff.mp h2
  subst h4
  exact ⟨_, _, _, _, b, rfl, .ty T, rx.tyx hK h1, kit_ty h3, q _ H (Same.refl H) (.bl _)⟩
end
end M
namespace M
open PySem PySem.Spec L2

/-! ### calls of built-ins -/
section
variable {G : Wd} {W : WX} {X : Cx} {e : Expr} {es : List Expr} {pos p : Pos} {x : Str} {f : Den} {g : D → Option D} {r : List V → Hp → VK → Prop}
/-- f(e), a built-in of one argument -/
theorem me_bi1 {id : String} (hc : CallR X (.builtin id) r) (s : SimC G g r) (hv : bootBuiltins x = some (.builtin id)) (hm : X.mg x = none) (ha : MV G W X e f) (hg : Gl X x := by rfl) (hn : x ≠ "__name__" := by decide) (hdb : (x == ("__debug__" : Str)) = false := by decide)
    (hs : starEach [e] X.env = (false, eval e X.env) :: starEach [] X.env := by rfl) (he : starEach [e] X.env = (false, eval e X.env) :: starEach [] X.env := by rfl) (hpl : (backTo pos (starEach [] X.env)).any (·.1) = false := by rfl) : ME G W X (.Call (.Name x p) [e] [] pos) (eOp1 g f) :=
  PE.imp (pe_callB hc hg hm hv (pa_cons ha pa_nil hs) hn hdb he hpl) fun σ H Q q => argC s q
/-- T(e), a built-in type -/
theorem me_ty1 {T : String} (hc : CallR X (.type T) r) (s : SimC G g r) (hv : bootBuiltins x = some (.type T)) (hm : X.mg x = none) (ha : MV G W X e f) (hg : Gl X x := by rfl) (hn : x ≠ "__name__" := by decide) (hdb : (x == ("__debug__" : Str)) = false := by decide)
    (hs : starEach [e] X.env = (false, eval e X.env) :: starEach [] X.env := by rfl) (he : starEach [e] X.env = (false, eval e X.env) :: starEach [] X.env := by rfl) (hpl : (backTo pos (starEach [] X.env)).any (·.1) = false := by rfl) : ME G W X (.Call (.Name x p) [e] [] pos) (eOp1 g f) :=
  PE.imp (pe_callTy hc hg hm hv (pa_cons ha pa_nil hs) hn hdb he hpl) fun σ H Q q => argC s q
theorem me_biN {id : String} {fs : DenL} {gN : List D → Option D} (hc : CallR X (.builtin id) r) (s : SimN G gN r) (hv : bootBuiltins x = some (.builtin id)) (hm : X.mg x = none) (ha : MA G W X (e :: es) fs) (hg : Gl X x := by rfl) (hn : x ≠ "__name__" := by decide) (hdb : (x == ("__debug__" : Str)) = false := by decide)
    (he : starEach (e :: es) X.env = (false, eval e X.env) :: starEach es X.env := by rfl) (hpl : (backTo pos (starEach es X.env)).any (·.1) = false := by rfl) : ME G W X (.Call (.Name x p) (e :: es) [] pos) (eOpN gN fs) :=
  PE.imp (pe_callB hc hg hm hv ha hn hdb he hpl) fun σ H Q q => argsN s q
/-- isinstance(e, T) -/
theorem me_isi {T : String} {y : Str} {p2 : Pos} (hK : G.K = X.K) (hm : X.mg "isinstance" = none) (hv : bootBuiltins y = some (.type T)) (hmy : X.mg y = none) (ha : MV G W X e f) (hgy : Gl X y := by rfl) (hny : y ≠ "__name__" := by decide) (hdby : (y == ("__debug__" : Str)) = false := by decide) (hg : Gl X "isinstance" := by rfl)
    (hs : starEach [e, .Name y p2] X.env = (false, eval e X.env) :: starEach [.Name y p2] X.env := by rfl) (hs2 : starEach [.Name y p2] X.env = (false, eval (.Name y p2) X.env) :: starEach [] X.env := by rfl) (hpl : (backTo pos (starEach [.Name y p2] X.env)).any (·.1) = false := by rfl) :
    ME G W X (.Call (.Name "isinstance" p) [e, .Name y p2] [] pos) (eOp1 (dIsi T) f) :=
  PE.imp (pe_callB call_isi hg hm (by decide +kernel) (pa_cons ha (pa_cons (pe_bltn (v := .ty T) hgy hmy hv rfl hny hdby) pa_nil hs2) hs) (by decide) (by decide) hs hpl) fun σ H Q q => by
    obtain ⟨Z, ρ, st, L, S, q⟩ := q
    refine ⟨Z, ρ, st, L, S, PostR.bind q fun d st1 x H1 L1 e f1 o1 r1 q1 => ?_⟩
    split at q1
    · rename_i z ez
      exact sim_isi (X := X) hK _ _ _ _ z _ o1.inn r1 ez fun v' H' e' r' => q1 v' H' L1 (Fw.same e') (o1.same e') r'
    · exact q1.elim
end

/-! ### slices -/
def cutD (xs : List D) (lo hi : Option Int) : List D := (xs.drop (HT.sIx xs.length 0 lo)).take (HT.sIx xs.length xs.length hi - HT.sIx xs.length 0 lo)
abbrev DenO := Env → Sto → Res (Option Int)
@[simp] def eNo : DenO := fun _ st => .ok none st
@[simp] def eSo (f : Den) : DenO := fun ρ st => (f ρ st).bind fun d st => match d with | .int i => .ok (some i) st | _ => .stuck
noncomputable def dCut (d : D) (lo hi : Option Int) : Option D := match d with
  | .lst ds => some (.lst (cutD ds lo hi))
  | .tup ds => some (.tup (cutD ds lo hi))
  | .str z => if z.length ≤ sizeLine then some (.str (cutS z lo hi)) else none
  | _ => none
@[simp] noncomputable def eCut (f : Den) (lo hi : DenO) : Den := fun ρ st => (f ρ st).bind fun d st => (lo ρ st).bind fun l st => (hi ρ st).bind fun h st => match dCut d l h with | some z => .ok z st | none => .stuck
def tMO (G : Wd) (W : WX) (f : DenO) : TO := fun σ H Q => ∃ Z ρ st L, Stt G Z ρ st L σ H ∧ PostR G Z W (fun _ _ a b => a = b) σ L st H (f ρ st) Q
abbrev MO (G : Wd) (W : WX) (X : Cx) (e : Option Expr) (f : DenO) : Prop := PO X e (tMO G W f)
section
variable {G : Wd} {W : WX} {X : Cx} {e : Expr} {pos p2 : Pos}
theorem PO.imp {X : Cx} {e : Option Expr} {t t' : TO} (h : PO X e t) (i : ∀ σ H Q, t' σ H Q → t σ H Q) : PO X e t' := ⟨fun pins s σ H Q I q => h.run pins s σ H Q I (i σ H Q q)⟩
theorem mo_none : MO G W X none eNo := PO.imp po_none fun σ H Q q => by
  obtain ⟨Z, ρ, st, L, S, q⟩ := q
  exact PostR.pure (W := W) (R := fun _ _ a b => a = b) S.ok q rfl
theorem mo_some {f : Den} (h : ME G W X e f) : MO G W X (some e) (eSo f) := PO.imp (po_some h) fun σ H Q q => by
  obtain ⟨Z, ρ, st, L, S, q⟩ := q
  refine ⟨Z, ρ, st, L, S, PostR.bind q fun d st1 x H1 L1 e f1 o1 r1 q1 => ?_⟩
  split at q1
  · rename_i i
    exact ⟨i, r1.int', PostR.pure (W := W) (R := fun _ _ a b => a = b) o1 q1 rfl⟩
  · exact q1.elim
theorem Reps.cut {Z : Zone} {H : Hp} {ds : List D} {vs : List V} {lo hi : Option Int} (r : Reps G Z H ds vs) : Reps G Z H (cutD ds lo hi) (cutV vs lo hi) := by
  unfold cutD cutV
  rw [r.length]
  exact (r.drop _).take _
def rSlM (K : PySem.W.Frag) : V → Option Int → Option Int → Hp → VK → Prop := fun x lo hi H Q => (∃ a xs, x = .ref a ∧ SqL K H a xs ∧ ∀ p, H p = none → Q (.ref p) (upd H p (.lst (cutV xs lo hi)))) ∨ rSlA K x lo hi H Q ∨ rSlS x lo hi H Q
theorem sl_m : SlR X (rSlM X.K) := sl_list.or (sl_tupA.or sl_str)
theorem me_cut {f : Den} {lo hi : Option Expr} {fl fh : DenO} (hK : G.K = X.K) (he : ME G W X e f) (hl : MO G W X lo fl) (hh : MO G W X hi fh) : ME G W X (.Subscript e (.Slice lo hi none p2) pos) (eCut f fl fh) := PE.imp (pe_slice sl_m he hl hh) fun σ H Q q => by
  obtain ⟨Z, ρ, st, L, S, q⟩ := q
  refine ⟨Z, ρ, st, L, S, PostR.bind q fun d st1 x H1 L1 e f1 o1 r1 q1 => ?_⟩
  refine ⟨Z, ρ, st1, L1, S.to f1 o1, PostR.bind q1 fun l st2 y H2 L2 e2 f2 o2 r2 q2 => ?_⟩
  subst r2
  refine ⟨Z, ρ, st2, L2, (S.to f1 o1).to f2 o2, PostR.bind q2 fun h st3 y3 H3 L3 e3 f3 o3 r3 q3 => ?_⟩
  subst r3
  have r1 := (r1.mono f2.keeps).mono f3.keeps
  split at q3
  · rename_i z ez
    unfold dCut at ez
    split at ez
    · cases ez
      obtain ⟨a, vs, rfl, ha, ra⟩ := r1.list'
      exact .inl ⟨a, vs, rfl, .inl ha, fun p hp => q3 _ _ L3 (Fw.same (same_new hp)) (o3.same (same_new hp)) (new_lst o3.inn ra.cut hp)⟩
    · cases ez
      have rt := r1
      obtain ⟨a, vs, rfl, ha, ra⟩ := r1.tup'
      refine .inr (.inl ⟨a, vs, rfl, hK ▸ ha, fun hw => ?_, fun hw p hp => q3 _ _ L3 (Fw.same (same_new hp)) (o3.same (same_new hp)) (new_tup o3.inn ra.cut hp)⟩)
      refine q3 _ H3 L3 Fw.refl o3 ?_
      unfold cutD
      rw [ra.length, hw.1, hw.2, List.drop_zero, Nat.sub_zero, ← ra.length, List.take_length]
      exact rt
    · split at ez
      · cases ez
        exact .inr (.inr ⟨_, r1.str', by assumption, q3 _ H3 L3 Fw.refl o3 (.str _)⟩)
      · cases ez
    · cases ez
  · exact q3.elim
end

/-! ### defs -/
inductive SReps (G : Wd) (Z : Zone) (H : Hp) (L : List Addr) : List S → List V → Prop
  | nil : SReps G Z H L [] []
  | cons {d : S} {v : V} {ds : List S} {vs : List V} : SRep G Z H L d v → SReps G Z H L ds vs → SReps G Z H L (d :: ds) (v :: vs)
abbrev FD := List S → Sto → Res D
theorem SReps.length {G : Wd} {Z : Zone} {H : Hp} {L : List Addr} : ∀ {ds : List S} {vs : List V}, SReps G Z H L ds vs → ds.length = vs.length
  | _, _, .nil => rfl
  | _, _, .cons _ t => congrArg (· + 1) t.length
theorem SReps.get {G : Wd} {Z : Zone} {H : Hp} {L : List Addr} : ∀ {ds : List S} {vs : List V} {i : Nat} {d : S}, SReps G Z H L ds vs → ds[i]? = some d → ∃ v, vs[i]? = some v ∧ SRep G Z H L d v
  | _, _, _, _, .nil, e => by simp at e
  | _, _, 0, _, .cons r _, e => by simp at e; subst e; exact ⟨_, rfl, r⟩
  | _, _, i + 1, d, .cons _ t, e => by
    obtain ⟨v, h1, h2⟩ := SReps.get (i := i) (d := d) t (by simpa using e)
    exact ⟨v, by simpa using h1, h2⟩
theorem SReps.mono {G : Wd} {Z : Zone} {L L' : List Addr} {st st' : Sto} {H H' : Hp} (f : Fw Z L st H L' st' H') : ∀ {ds : List S} {vs : List V}, SReps G (Zof Z L st) H L ds vs → SReps G (Zof Z L' st') H' L' ds vs
  | _, _, .nil => .nil
  | _, _, .cons h t => .cons (h.mono f) (SReps.mono f t)
def spM (G : Wd) (n : Nat) (dn : FD) : Sp := fun vs H Q E => vs.length = n ∧ ∃ Z ss st L, StOk G Z L st H ∧ SReps G (Zof Z L st) H L ss vs ∧ match dn ss st with
  | .ok d st' => ∀ v H' L', Fw Z L st H L' st' H' → StOk G Z L' st' H' → Rep G (Zof Z L' st') H' d v → Q v H'
  | .exc c fs st' => ExP G Z L st H c fs st' E
  | .stuck => False
/-- a def that may be called by its name -/
structure MCal (P : Program) (w : World) (K : PySem.W.Frag) (mg : Str → Option Value) (base : Heap) (G : Wd) (k : Nat) (x : Str) (n : Nat) (dn : FD) : Prop where
  ex : ∃ (f : Addr) (fd : FuncData) (ps : List Str), FnOk P w K mg base (L2N.CX P w) k f fd ps (spM G n dn) ∧ mg x = some (.ref f) ∧ PySem.W.keepIn K (.ref f) = true ∧ Binds K fd ps []
/-- f(..), all arguments data: the def runs over a store of its own -/
@[simp] def eCall (n : Nat) (dn : FD) (f : DenL) : Den := fun ρ st => (f ρ st).bind fun ds st => if ds.length = n then (match dn (ds.map .p) [] with | .ok d [] => .ok d st | .exc c fs [] => .exc c fs st | _ => .stuck) else .stuck
section
variable {G : Wd} {W : WX} {X : Cx} {Z : Zone} {H H' : Hp} {L : List Addr} {st : Sto}
theorem sreps_p : ∀ {ds : List D} {vs : List V}, Reps G Z H ds vs → SReps G Z H L (ds.map .p) vs
  | _, _, .nil => .nil
  | _, _, .cons h t => .cons (.p h) (sreps_p t)
theorem Reps.zone {Z Z' : Zone} {H : Hp} (h : ∀ a, Z' a → Z a) {ds : List D} {vs : List V} (r : Reps G Z H ds vs) : Reps G Z' H ds vs := r.mono fun a o e z => ⟨.of e, fun q => z (h a q)⟩
theorem Rep.zone {Z Z' : Zone} {H : Hp} (h : ∀ a, Z' a → Z a) {ds : D} {vs : V} (r : Rep G Z H ds vs) : Rep G Z' H ds vs := r.mono fun a o e z => ⟨.of e, fun q => z (h a q)⟩
theorem zof_nil {Z : Zone} {a : Addr} : Zof Z [] [] a ↔ Z a := ⟨fun h => h.elim id fun ⟨n, o, e, _⟩ => by simp at e, .inl⟩
/-- over an empty store, in a zone that holds our live things -/
theorem live_nt (S : StOk G Z L st H) {a : Addr} (h : Live L st a) : ∀ xs, H a ≠ some (.tup xs) := fun xs e => by
  obtain ⟨n, o, e1, e2, l⟩ := h
  have k := S.obj n a o e1 e2
  cases o with
  | lst ds => obtain ⟨vs, h1, _⟩ := k; rw [h1] at e; cases e
  | dic ds => obtain ⟨vs, h1, _⟩ := k; rw [h1] at e; cases e
  | diT ds => obtain ⟨vs, h1, _⟩ := k; rw [h1] at e; cases e
  | rows ns => obtain ⟨vs, h1, _⟩ := k; rw [h1] at e; cases e
  | ins c fs => obtain ⟨C, dx, vfs, _, h1, _⟩ := k; rw [h1] at e; cases e
  | frz d => cases l
  | dead => cases l
theorem StOk.ntz (S : StOk G Z L st H) {a : Addr} (h : Zof Z L st a) : ∀ xs, H a ≠ some (.tup xs) := h.elim (S.nt a) (live_nt S)
theorem StOk.empty (S : StOk G Z L st H) : StOk G (Zof Z L st) [] [] H :=
  ⟨rfl, .nil, fun n a o e => by simp at e, S.inn, fun a h => by simp at h, fun a h => by simp at h, S.tb.zone fun a h => zof_nil.mp h, fun a h => S.ntz h⟩
theorem Fw.fromEmpty (S : StOk G Z L st H) (f : Fw (Zof Z L st) [] [] H [] [] H') : Fw Z L st H L st H' :=
  ⟨⟨[], by simp, by simp⟩, fun a o e _ => f.keep a o e (fun ⟨n, o, e, _⟩ => by simp at e), f.there, fun a o z e => f.zk a o (.inl z) e, fun n o' _ e l => ⟨o', e, l⟩⟩
theorem OOk.zk {a : Addr} {o : O} (k : ∀ b, Live L st b → H' b = H b) (f : Fw Z L st H L st H') (ha : o.live = true → Live L st a) (h : OOk G (Zof Z L st) H L a o) : OOk G (Zof Z L st) H' L a o := by
  cases o with
  | lst ds => exact h.mono f (k a (ha rfl))
  | dic ds => exact h.mono f (k a (ha rfl))
  | diT ds => exact h.mono f (k a (ha rfl))
  | rows ns => exact h.mono f (k a (ha rfl))
  | ins c fs => exact h.mono f (k a (ha rfl))
  | frz d => exact Rep.mono f.keeps h
  | dead => trivial
theorem StOk.fromEmpty (S : StOk G Z L st H) (f : Fw (Zof Z L st) [] [] H [] [] H') (t : TabZ G.T (Zof (Zof Z L st) [] []) H') : StOk G Z L st H' := by
  have g := Fw.fromEmpty S f
  refine ⟨S.len, S.nd, fun n a o e1 e2 => OOk.zk (fun b hb => ?_) g (fun hl => ⟨n, o, e1, e2, hl⟩) (S.obj n a o e1 e2), fun a z => f.there a (S.z0 a z), S.zl, fun a h => f.there a (S.lh a h), t.zone fun a h => zof_nil.mpr h, nt_zk S.z0 S.nt fun a o z e => f.zk a o (.inl z) e⟩
  obtain ⟨o, e⟩ : ∃ o, H b = some o := by
    obtain ⟨n, o', e1, _⟩ := hb
    exact Option.ne_none_iff_exists'.mp (S.lh b (List.mem_of_getElem? e1))
  rw [e]
  exact f.zk b o (.inr hb) e
theorem nil_of_len {L' : List Addr} (S : StOk G Z L' [] H) : L' = [] := List.length_eq_zero_iff.mp S.len
theorem me_call1 {n : Nat} {dn : FD} {σ : St} {ds : List D} {vs : List V} {Q : VK} (o1 : StOk G Z L st H) (r1 : Reps G (Zof Z L st) H ds vs) (hn : ds.length = n)
    (q1 : PostR G Z W (RD G) σ L st H (match dn (ds.map .p) [] with | .ok d [] => .ok d st | .exc c fs [] => .exc c fs st | _ => .stuck) Q) : spM G n dn vs H Q (WE W σ) := by
  refine ⟨by rw [← r1.length]; exact hn, Zof Z L st, ds.map .p, [], [], o1.empty, sreps_p (r1.zone fun a h => zof_nil.mp h), ?_⟩
  revert q1
  cases hd : dn (ds.map .p) [] with
  | stuck => exact fun q1 => q1
  | ok d st2 =>
    cases st2 with
    | cons a b => exact fun q1 => q1.elim
    | nil =>
      intro q1 v H2 L2 f2 o2 r2
      have := nil_of_len o2
      subst this
      exact q1 v H2 L (Fw.fromEmpty o1 f2) (o1.fromEmpty f2 o2.tb) (r2.zone fun a h => zof_nil.mpr h)
  | exc c fs st2 =>
    cases st2 with
    | cons a b => exact fun q1 => q1.elim
    | nil =>
      intro q1 H2 L2 C dd vfs f2 o2 hC hdd rf
      have := nil_of_len o2
      subst this
      exact q1 H2 L C dd vfs (Fw.fromEmpty o1 f2) (o1.fromEmpty f2 o2.tb) hC (hdd.zone fun a q => zof_nil.mpr q) (rf.mono fun a o e z => ⟨.of e, fun q => z (zof_nil.mpr q)⟩)
theorem me_call {k : Nat} {x : Str} {n : Nat} {dn : FD} {p pos : Pos} {e : Expr} {es : List Expr} {f : DenL} (c : MCal X.prog X.w X.K X.mg X.base G k x n dn) (hr : Room k X.A) (tk : L2N.Takes X W) (ha : MA G W X (e :: es) f) (hg : Gl X x := by rfl)
    (hdb : (x == ("__debug__" : Str)) = false := by decide) (he : starEach (e :: es) X.env = (false, eval e X.env) :: starEach es X.env := by rfl) (hpl : (backTo pos (starEach es X.env)).any (·.1) = false := by rfl) :
    ME G W X (.Call (.Name x p) (e :: es) [] pos) (eCall n dn f) := by
  obtain ⟨fa, fd, ps, F, hm, kp, b⟩ := c.ex
  refine PE.imp (pe_callS (E := WE W) F hr hg hm kp b (fun σ => L2N.passAt tk σ) ha hdb he hpl) fun σ H Q q => ?_
  obtain ⟨Z, ρ, st, L, S, q⟩ := q
  refine ⟨Z, ρ, st, L, S, PostR.bind q fun ds st1 vs H1 L1 ed f1 o1 r1 q1 => ?_⟩
  by_cases hn : ds.length = n
  · rw [if_pos hn] at q1
    exact me_call1 o1 r1 hn q1
  · rw [if_neg hn] at q1
    exact q1.elim
end
end M
namespace M
open PySem PySem.Spec L2

/-! ### zones: a place of our own -/
def Zp (Z : Zone) (p : Addr) : Zone := fun a => Z a ∨ a = p
section
variable {G : Wd} {W : WX} {X : Cx} {Z Z' : Zone} {H H' : Hp} {L L' : List Addr} {st st' : Sto} {p : Addr} {o : HO}
theorem Fw.zone (h : ∀ a, Z a → Z' a) (f : Fw Z' L st H L' st' H') : Fw Z L st H L' st' H' := ⟨f.pre, f.keep, f.there, fun a o z => f.zk a o (h a z), f.live⟩
theorem SRep.zone {Z Z' : Zone} {H : Hp} (h : ∀ a, Z' a → Z a) {s : S} {v : V} (r : SRep G Z H L s v) : SRep G Z' H L s v := by
  cases r with
  | p r => exact .p (r.zone h)
  | r e => exact .r e
  | x e1 e2 e3 e4 => exact .x e1 e2 (e3.zone h) (e4.mono fun a o e z => ⟨.of e, fun q => z (h a q)⟩)
theorem SRepF.zone {Z Z' : Zone} {H : Hp} (h : ∀ a, Z' a → Z a) : ∀ {fs : List (Str × S)} {vs : List (Str × V)}, SRepF G Z H L fs vs → SRepF G Z' H L fs vs
  | _, _, .nil => .nil
  | _, _, .cons r t => .cons (r.zone h) (SRepF.zone h t)
theorem RepK.zone {Z Z' : Zone} {H : Hp} (h : ∀ a, Z' a → Z a) {ds : List (D × D)} {vs : List (Key × V)} (r : RepK G Z H ds vs) : RepK G Z' H ds vs := r.mono fun a o e z => ⟨.of e, fun q => z (h a q)⟩
theorem RepT.zone {Z Z' : Zone} {H : Hp} (h : ∀ a, Z' a → Z a) {ds : List (D × D)} {vs : List (List Key × V)} (r : RepT G Z H ds vs) : RepT G Z' H ds vs := r.mono fun a o e z => ⟨.of e, fun q => z (h a q)⟩
theorem RepF.zone {Z Z' : Zone} {H : Hp} (h : ∀ a, Z' a → Z a) {ds : List (Str × D)} {vs : List (Str × V)} (r : RepF G Z H ds vs) : RepF G Z' H ds vs := r.mono fun a o e z => ⟨.of e, fun q => z (h a q)⟩
theorem OOk.zone {Z Z' : Zone} {H : Hp} (h : ∀ a, Z' a → Z a) {a : Addr} : ∀ {o : O}, OOk G Z H L a o → OOk G Z' H L a o
  | .lst ds, ⟨vs, e, r⟩ => ⟨vs, e, r.zone h⟩
  | .dic ds, ⟨vs, e, r⟩ => ⟨vs, e, r.zone h⟩
  | .diT ds, ⟨vs, e, r⟩ => ⟨vs, e, r.zone h⟩
  | .rows ns, ⟨as, e, r⟩ => ⟨as, e, r⟩
  | .ins c fs, ⟨C, dx, vfs, hc, e, r⟩ => ⟨C, dx, vfs, hc, e, r.zone h⟩
  | .frz d, r => Rep.zone h r
  | .dead, _ => trivial
theorem zof_mono (h : ∀ a, Z a → Z' a) : ∀ a, Zof Z L st a → Zof Z' L st a := fun a z => z.elim (fun z => .inl (h a z)) .inr
theorem StOk.shrink (h : ∀ a, Z a → Z' a) (S : StOk G Z' L st H) : StOk G Z L st H :=
  ⟨S.len, S.nd, fun n a o e1 e2 => (S.obj n a o e1 e2).zone (zof_mono h), fun a z => S.z0 a (h a z), fun a m z => S.zl a m (h a z), S.lh, S.tb.zone (zof_mono h), fun a z => S.nt a (h a z)⟩
/-- what leans on H alone leans on it beside a new place -/
theorem keeps_new (h : H p = none) : Keeps (Zof Z L st) (Zof (Zp Z p) L st) H (upd H p o) := fun a u e z => by
  have ne : a ≠ p := ne_of_none e h
  refine ⟨.of (by rw [upd_ne ne]; exact e), fun q => ?_⟩
  rcases q with (q | q) | q
  · exact z (.inl q)
  · exact ne q
  · exact z (.inr q)
theorem SRep.keeps (k : Keeps Z Z' H H') {s : S} {v : V} (h : SRep G Z H L s v) : SRep G Z' H' L s v := by
  cases h with
  | p r => exact .p (r.mono k)
  | r e => exact .r e
  | x e1 e2 e3 e4 => exact .x e1 e2 (e3.mono k) (e4.mono k)
theorem SRepF.keeps (k : Keeps Z Z' H H') : ∀ {fs : List (Str × S)} {vs : List (Str × V)}, SRepF G Z H L fs vs → SRepF G Z' H' L fs vs
  | _, _, .nil => .nil
  | _, _, .cons r t => .cons (r.keeps k) (SRepF.keeps k t)
theorem OOk.keeps (k : Keeps Z Z' H H') {a : Addr} (e : ∀ o, H a = some o → H' a = some o) : ∀ {o : O}, OOk G Z H L a o → OOk G Z' H' L a o
  | .lst ds, ⟨vs, h, r⟩ => ⟨vs, e _ h, r.mono k⟩
  | .dic ds, ⟨vs, h, r⟩ => ⟨vs, e _ h, r.mono k⟩
  | .diT ds, ⟨vs, h, r⟩ => ⟨vs, e _ h, r.mono k⟩
  | .rows ns, ⟨as, h, r⟩ => ⟨as, e _ h, r⟩
  | .ins c fs, ⟨C, dx, vfs, hc, h, r⟩ => ⟨C, dx, vfs, hc, e _ h, r.keeps k⟩
  | .frz d, r => Rep.mono k r
  | .dead, _ => trivial
theorem StOk.enter (S : StOk G Z L st H) (h : H p = none) (ho : ∀ xs, o ≠ .tup xs := by intro _ h; cases h) : StOk G (Zp Z p) L st (upd H p o) := by
  refine ⟨S.len, S.nd, fun n a u e1 e2 => (S.obj n a u e1 e2).keeps (keeps_new h) fun o e => by rw [upd_ne (ne_of_none e h)]; exact e, fun a z => ?_, fun a m z => ?_, fun a m => some_of_same (same_new h) (S.lh a m), S.tb.mono fun a u q z => ⟨same_new h a u q, (keeps_new (o := o) h a u q z).2⟩, fun a z xs e => ?_⟩
  · rcases z with z | rfl
    · exact some_of_same (same_new h) (S.z0 a z)
    · rw [upd_same]; simp
  · rcases z with z | rfl
    · exact S.zl a m z
    · exact S.lh a m h
  · rcases z with z | rfl
    · exact nt_zk S.z0 S.nt (fun a o _ q => same_new h a o q) a z xs e
    · rw [upd_same] at e; exact ho xs (Option.some.inj e)
theorem EnvOk.enter {ρ : Env} {σ : St} (h : H p = none) (E : EnvOk G (Zof Z L st) H L ρ σ) : EnvOk G (Zof (Zp Z p) L st) (upd H p o) L ρ σ :=
  ⟨E.1, fun i s e => let ⟨v, e2, r⟩ := E.2 i s e; ⟨v, e2, r.keeps (keeps_new h)⟩⟩
/-- our own place is written -/
theorem keeps_own : Keeps (Zof (Zp Z p) L st) (Zof (Zp Z p) L st) H (upd H p o) := fun a u e z => by
  have ne : a ≠ p := fun q => z (.inl (.inr q))
  exact ⟨.of (by rw [upd_ne ne]; exact e), z⟩
theorem StOk.own (S : StOk G (Zp Z p) L st H) (ho : ∀ xs, o ≠ .tup xs := by intro _ h; cases h) : StOk G (Zp Z p) L st (upd H p o) := by
  refine ⟨S.len, S.nd, fun n a u e1 e2 => (S.obj n a u e1 e2).keeps keeps_own fun o e => ?_, fun a z => ?_, S.zl, fun a m => ?_, S.tb.mono fun a u q z => ⟨by rw [upd_ne fun y => z (.inl (.inr y))]; exact q, z⟩, fun a z xs e => ?_⟩
  · have ne : a ≠ p := fun q => S.zl a (List.mem_of_getElem? e1) (.inr q)
    rw [upd_ne ne]; exact e
  · by_cases q : a = p
    · rw [q, upd_same]; simp
    · rw [upd_ne q]; exact S.z0 a z
  · by_cases q : a = p
    · rw [q, upd_same]; simp
    · rw [upd_ne q]; exact S.lh a m
  · by_cases q : a = p
    · rw [q, upd_same] at e; exact ho xs (Option.some.inj e)
    · rw [upd_ne q] at e; exact S.nt a z xs e
theorem Fw.own {L0 : List Addr} {st0 : Sto} {H0 : Hp} (h : H0 p = none) (f : Fw Z L0 st0 H0 L st H) : Fw Z L0 st0 H0 L st (upd H p o) := by
  refine ⟨f.pre, fun a u e nl => ?_, fun a n => ?_, fun a u z e => ?_, f.live⟩
  · obtain ⟨o', h1, h2⟩ := f.keep a u e nl
    exact ⟨o', by rw [upd_ne (ne_of_none e h)]; exact h1, h2⟩
  · by_cases q : a = p
    · rw [q, upd_same]; simp
    · rw [upd_ne q]; exact f.there a n
  · rw [upd_ne (ne_of_none e h)]
    exact f.zk a u z e
/-- a thing of one's own, told as data -/
@[simp] def ePure (f : Env → Sto → Res O) : Den := fun ρ st => (f ρ st).bind fun o st => match thaw o with | some d => .ok d st | none => .stuck
theorem me_own {e : Expr} {f : Env → Sto → Res O} (h : MN G W X e f) : ME G W X e (ePure f) := PE.imp h fun σ H Q q => by
  obtain ⟨Z, ρ, st, L, S, q⟩ := q
  refine ⟨Z, ρ, st, L, S, ?_⟩
  cases ef : f ρ st with
  | stuck => simp only [ePure, ef, Res.bind] at q; exact q
  | exc c fs st1 => simp only [ePure, ef, Res.bind] at q; exact q
  | ok o st1 =>
    simp only [ePure, ef, Res.bind] at q
    intro p H1 L1 fn ok
    have o1 : StOk G Z L1 st1 H1 := fn.ok.shrink fun a z => .inl z
    have zp : ¬ Zof Z L1 st1 p := fun z => by
      rcases z with z | ⟨n, u, e1, _⟩
      · exact S.ok.z0 p z fn.new
      · exact fn.ok.zl p (List.mem_of_getElem? e1) (.inr rfl)
    have zz : ∀ a, Zof Z L1 st1 a → Zof (fun a => Z a ∨ a = p) L1 st1 a := zof_mono fun a z => .inl z
    cases o with
    | lst ds =>
      obtain ⟨vs, h1, h2⟩ := ok
      exact q _ H1 L1 fn.fr o1 (.lst (.inl h1) zp (h2.zone zz))
    | dic ds =>
      obtain ⟨kvs, h1, h2⟩ := ok
      exact q _ H1 L1 fn.fr o1 (.dK (.inl h1) zp (h2.zone zz))
    | diT ds =>
      obtain ⟨kvs, h1, h2⟩ := ok
      exact q _ H1 L1 fn.fr o1 (.dT (.inl h1) zp (h2.zone zz))
    | frz d => exact q _ H1 L1 fn.fr o1 (Rep.zone zz ok)
    | ins c fs => exact q.elim
    | rows ns => exact q.elim
    | dead => exact q.elim
end

/-! ### targets -/
abbrev GD := D → Env → Option Env
def wipeE (ρ : Env) : List Nat → Env
  | [] => ρ
  | v :: vs => (wipeE ρ vs).set v none
def GSim (G : Wd) (g : TG) (gm : GD) (vs : List Nat) : Prop := ∀ Z H L d v ρ σ ρ' Q, EnvOk G Z H L ρ σ → Rep G Z H d v → gm d ρ = some ρ' → (∀ σ', EnvOk G Z H L ρ' σ' → wipe σ' vs = wipe σ vs → Q σ' H) → g v σ H Q
def GsSim (G : Wd) (g : TGs) (gm : List D → Env → Option Env) (vs : List Nat) : Prop := ∀ Z H L d v ρ σ ρ' Q, EnvOk G Z H L ρ σ → Reps G Z H d v → gm d ρ = some ρ' → (∀ σ', EnvOk G Z H L ρ' σ' → wipe σ' vs = wipe σ vs → Q σ' H) → g v σ H Q
structure MG (G : Wd) (X : Cx) (tg : Expr) (gm : GD) (vs : List Nat) : Prop where
  ex : ∃ g, PG X tg g ∧ GSim G g gm vs
structure MGs (G : Wd) (X : Cx) (tgs : List Expr) (gm : List D → Env → Option Env) (vs : List Nat) : Prop where
  ex : ∃ g, PGs X tgs g ∧ GsSim G g gm vs
@[simp] def gN (i : Nat) : GD := fun d ρ => some (ρ.set i (some (.p d)))
@[simp] def gsNil : List D → Env → Option Env := fun ds ρ => match ds with | [] => some ρ | _ => none
@[simp] def gsCons (g : GD) (h : List D → Env → Option Env) : List D → Env → Option Env := fun ds ρ => match ds with | d :: r => (g d ρ).bind fun ρ => h r ρ | [] => none
@[simp] def gT (g : List D → Env → Option Env) (n : Nat) : GD := fun d ρ => match d with | .tup ds => if ds.length = n then g ds ρ else none | _ => none
section
variable {G : Wd} {W : WX} {X : Cx} {Z Z' : Zone} {H H' : Hp} {L L' : List Addr} {st st' : Sto} {pos : Pos}
theorem EnvOk.set {ρ : Env} {σ : St} {s : S} {v : V} (E : EnvOk G Z H L ρ σ) (i : Nat) (r : SRep G Z H L s v) : EnvOk G Z H L (ρ.set i (some s)) (σ.set i (some v)) := by
  refine ⟨by simpa using E.1, fun j t e => ?_⟩
  rcases getElem?_set_cases e with ⟨rfl, h1, hl⟩ | ⟨ne, h1⟩
  · cases h1
    exact ⟨v, List.getElem?_set_self (by rw [← E.1]; exact hl), r⟩
  · obtain ⟨v', e2, r2⟩ := E.2 j t h1
    exact ⟨v', by rw [List.getElem?_set_ne (Ne.symm ne)]; exact e2, r2⟩
theorem EnvOk.forget {ρ : Env} {σ : St} (E : EnvOk G Z H L ρ σ) (i : Nat) {x : Option V} : EnvOk G Z H L (ρ.set i none) (σ.set i x) := by
  refine ⟨by simpa using E.1, fun j t e => ?_⟩
  rcases getElem?_set_cases e with ⟨rfl, h1, hl⟩ | ⟨ne, h1⟩
  · cases h1
  · obtain ⟨v', e2, r2⟩ := E.2 j t h1
    exact ⟨v', by rw [List.getElem?_set_ne (Ne.symm ne)]; exact e2, r2⟩
theorem EnvOk.wipe {ρ : Env} {σ : St} (E : EnvOk G Z H L ρ σ) : ∀ vs : List Nat, EnvOk G Z H L (wipeE ρ vs) (L2.wipe σ vs)
  | [] => E
  | v :: vs => (EnvOk.wipe E vs).forget v
theorem wipe_set {σ : St} {i : Nat} {x : Option V} : ∀ {vs : List Nat}, i ∈ vs → L2.wipe (σ.set i x) vs = L2.wipe σ vs
  | v :: vs, h => by
    unfold L2.wipe
    by_cases q : i ∈ vs
    · rw [wipe_set q]
    · have e : i = v := by
        rcases List.mem_cons.mp h with e | e
        · exact e
        · exact absurd e q
      subst e
      have go : ∀ ws : List Nat, i ∉ ws → (L2.wipe (σ.set i x) ws).set i none = (L2.wipe σ ws).set i none := fun ws => by
        induction ws with
        | nil => intro _; unfold L2.wipe; rw [List.set_set]
        | cons w ws ih =>
          intro hn
          have h1 : i ≠ w := fun e => hn (by rw [e]; exact List.mem_cons_self)
          unfold L2.wipe
          rw [List.set_comm _ _ (Ne.symm h1), ih (fun q => hn (List.mem_cons_of_mem _ q)), List.set_comm _ _ h1]
      exact go vs q
theorem mg_name {x : Str} {vs : List Nat} (i : Nat) (hN : X.N.Nodup) (hi : X.N[i]? = some x := by rfl) (hv : i ∈ vs := by decide) (hx : Loc X.env.scope x := by first | exact .inl rfl | exact .inr rfl) (hf : X.fn x = true ∨ X.env.scope.names.lookup x = some .local := by first | exact .inl rfl | exact .inr rfl | assumption) :
    MG G X (.Name x pos) (gN i) vs := ⟨gName i, pg_name hN hi hx hf, fun Z H L d v ρ σ ρ' Q E r e q => by
  cases e
  exact q _ (E.set i (.p r)) (wipe_set hv)⟩
theorem mgs_nil {vs : List Nat} : MGs G X [] gsNil vs := ⟨gNil, pgs_nil, fun Z H L d v ρ σ ρ' Q E r e q => by
  cases r with
  | nil => cases e; exact ⟨rfl, q σ E rfl⟩
  | cons _ _ => cases e⟩
theorem mgs_cons {e : Expr} {es : List Expr} {g : GD} {h : List D → Env → Option Env} {vs : List Nat} (a : MG G X e g vs) (b : MGs G X es h vs) (hs : (assignEach (e :: es) X.env).map (·.2) = assign e X.env :: (assignEach es X.env).map (·.2) := by rfl) : MGs G X (e :: es) (gsCons g h) vs := by
  obtain ⟨ga, a1, a2⟩ := a.ex
  obtain ⟨gb, b1, b2⟩ := b.ex
  refine ⟨_, pgs_cons a1 b1 hs, fun Z H L d v ρ σ ρ' Q E r e q => ?_⟩
  cases r with
  | nil => cases e
  | cons r t =>
    obtain ⟨ρ1, e1, e2⟩ := Option.bind_eq_some_iff.mp e
    refine ⟨_, _, rfl, a2 _ _ _ _ _ _ _ ρ1 _ E r e1 fun σ1 E1 w1 => ?_⟩
    exact b2 _ _ _ _ _ _ _ ρ' _ E1 t e2 fun σ2 E2 w2 => q σ2 E2 (w2.trans w1)
theorem mg_tup {es : List Expr} {k : Nat} {g : List D → Env → Option Env} {vs : List Nat} {n : Nat} (hK : G.K = X.K) (hc : X.calm = true) (h : MGs G X es g vs) (hn : (assignEach es X.env).length = n := by rfl) (hst : (assignEach es X.env).findIdx? (·.1) = none := by rfl) : MG G X (.Tuple es k pos) (gT g n) vs := by
  obtain ⟨ga, a1, a2⟩ := h.ex
  refine ⟨_, pg_tup hc a1 hn hst, fun Z H L d v ρ σ ρ' Q E r e q => ?_⟩
  unfold gT at e
  split at e
  · split at e
    · rename_i ds hl
      obtain ⟨a, ws, rfl, ha, ra⟩ := r.tup'
      exact ⟨a, ws, rfl, hK ▸ ha, by rw [← ra.length]; exact hl, a2 _ _ _ _ _ _ _ ρ' _ E ra e q⟩
    · cases e
  · cases e
end

/-! ### what is walked -/
def Yields (G : Wd) (Z : Zone) (J : It) (items : List D) (L1 : List Addr) (st1 : Sto) (H1 : Hp) : Prop := ∀ i Z' L st H, (∀ a, Z' a → Z a ∨ H1 a = none) → Fw Z L1 st1 H1 L st H → StOk G Z' L st H →
  (items.length ≤ i → J.stop i H) ∧ ∀ d, items[i]? = some d → J.go i H ∧ ∀ x H', J.yld i H x H' → Same H H' ∧ Rep G (Zof Z' L st) H' d x
theorem Fw.keepsZ {Z Z' : Zone} {L1 L : List Addr} {st1 st : Sto} {H1 H : Hp} (f : Fw Z L1 st1 H1 L st H) (hz : ∀ a, Z' a → Z a ∨ H1 a = none) : Keeps (Zof Z L1 st1) (Zof Z' L st) H1 H := fun a u e z => by
  obtain ⟨h1, h2⟩ := f.keeps a u e z
  refine ⟨h1, fun q => ?_⟩
  rcases q with q | q
  · rcases hz a q with q | q
    · exact h2 (.inl q)
    · rw [e] at q; cases q
  · exact h2 (.inr q)
def PostI (G : Wd) (Z : Zone) (W : WX) (σ : St) (L : List Addr) (st : Sto) (H : Hp) (r : Res (List D)) (R : It → Hp → Prop) : Prop := match r with
  | .ok ds st' => ∀ J H' L', Fw Z L st H L' st' H' → StOk G Z L' st' H' → Yields G Z J ds L' st' H' → R J H'
  | .exc c fs st' => ExP G Z L st H c fs st' fun cv dd H' => W cv dd σ H'
  | .stuck => False
def tMI (G : Wd) (W : WX) (f : DenL) : TI := fun σ H R => ∃ Z ρ st L, Stt G Z ρ st L σ H ∧ PostI G Z W σ L st H (f ρ st) R
abbrev MI (G : Wd) (W : WX) (X : Cx) (tg e : Expr) (f : DenL) : Prop := PI X tg e (tMI G W f)
theorem PostI.bind {α β : Type} {G : Wd} {Z : Zone} {W : WX} {R : Zone → Hp → α → β → Prop} {σ : St} {L : List Addr} {st : Sto} {H : Hp} {r : Res α} {k : α → Sto → Res (List D)} {RI : It → Hp → Prop} {Q : β → Hp → Prop}
    (h : PostI G Z W σ L st H (r.bind k) RI)
    (hk : ∀ d st1 v H1 L1, r = .ok d st1 → Fw Z L st H L1 st1 H1 → StOk G Z L1 st1 H1 → R (Zof Z L1 st1) H1 d v → PostI G Z W σ L1 st1 H1 (k d st1) RI → Q v H1) : PostR G Z W R σ L st H r Q := by
  cases r with
  | ok d st1 =>
    intro v H1 L1 f o rv
    refine hk d st1 v H1 L1 rfl f o rv ?_
    have h' : PostI G Z W σ L st H (k d st1) RI := h
    revert h'
    cases k d st1 with
    | ok d2 st2 => exact fun h' J H2 L2 f2 o2 r2 => h' J H2 L2 (f.trans f2) o2 r2
    | exc c fs st2 => exact fun h' => ExP.on (P := fun cv dd H' => W cv dd σ H') f h'
    | stuck => exact fun h' => h'
  | exc c fs st1 => exact h
  | stuck => exact h
def signs : List Nat → List D
  | [] => [] | c :: r => .str ⟨#[c]⟩ :: signs r
theorem signs_len : ∀ l, (signs l).length = l.length
  | [] => rfl | _ :: r => congrArg (· + 1) (signs_len r)
theorem signs_get : ∀ (l : List Nat) (i : Nat), (signs l)[i]? = (l[i]?).map fun c => D.str ⟨#[c]⟩
  | [], i => by simp [signs]
  | c :: r, 0 => by simp [signs]
  | c :: r, i + 1 => by simp only [signs, List.getElem?_cons_succ]; exact signs_get r i
/-- the things of a list, a tuple, a text -/
def itemsOf : D → Option (List D)
  | .lst ds => some ds | .tup ds => some ds | .str z => some (signs z.cps.toList) | _ => none
@[simp] def iSeq (f : Den) : DenL := fun ρ st => (f ρ st).bind fun d st => match itemsOf d with | some ds => .ok ds st | none => .stuck
def rngL (lo : Int) : Nat → List D
  | 0 => [] | n + 1 => .int lo :: rngL (lo + 1) n
theorem rngL_len : ∀ (n : Nat) (lo : Int), (rngL lo n).length = n
  | 0, _ => rfl | n + 1, lo => congrArg (· + 1) (rngL_len n (lo + 1))
theorem rngL_get : ∀ (n : Nat) (lo : Int) (i : Nat), i < n → (rngL lo n)[i]? = some (.int (lo + i))
  | n + 1, lo, 0, _ => by simp [rngL]
  | n + 1, lo, i + 1, h => by
    simp only [rngL, List.getElem?_cons_succ]
    rw [rngL_get n (lo + 1) i (by omega)]
    congr 2
    omega
noncomputable def bigR (i : Int) : Bool := decide (-4611686018427387904 ≤ i) && decide (i < 4611686018427387904)
@[simp] noncomputable def iRange1 (f : Den) : DenL := fun ρ st => (f ρ st).bind fun d st => match d with | .int j => if bigR j = true then .ok (rngL 0 j.toNat) st else .stuck | _ => .stuck
@[simp] noncomputable def iRange2 (f h : Den) : DenL := fun ρ st => (f ρ st).bind fun d st => (h ρ st).bind fun e st => match d, e with | .int i, .int j => if (bigR i && bigR j) = true then .ok (rngL i (j - i).toNat) st else .stuck | _, _ => .stuck
def enumL (n : Nat) : List D → List D
  | [] => [] | d :: r => .tup [.int n, d] :: enumL (n + 1) r
theorem enumL_len : ∀ (l : List D) (n : Nat), (enumL n l).length = l.length
  | [], _ => rfl | _ :: r, n => congrArg (· + 1) (enumL_len r (n + 1))
theorem enumL_get : ∀ (l : List D) (n i : Nat) (d : D), l[i]? = some d → (enumL n l)[i]? = some (.tup [.int (n + i : Nat), d])
  | [], _, _, _, h => by simp at h
  | x :: r, n, 0, d, h => by simp at h; subst h; simp [enumL]
  | x :: r, n, i + 1, d, h => by
    simp only [enumL, List.getElem?_cons_succ]
    rw [enumL_get r (n + 1) i d (by simpa using h)]
    rw [show n + 1 + i = n + (i + 1) by omega]
def zipL : List D → List D → List D
  | a :: r, b :: s => .tup [a, b] :: zipL r s | _, _ => []
theorem zipL_get : ∀ (l m : List D) (i : Nat) (a b : D), l[i]? = some a → m[i]? = some b → (zipL l m)[i]? = some (.tup [a, b])
  | [], _, _, _, _, h, _ => by simp at h
  | _ :: _, [], _, _, _, _, h => by simp at h
  | x :: r, y :: s, 0, a, b, h, h' => by simp at h h'; subst h h'; simp [zipL]
  | x :: r, y :: s, i + 1, a, b, h, h' => by simp only [zipL, List.getElem?_cons_succ]; exact zipL_get r s i a b (by simpa using h) (by simpa using h')
theorem zipL_len : ∀ (l m : List D), (zipL l m).length = min l.length m.length
  | [], m => by simp [zipL]
  | _ :: _, [] => by simp [zipL]
  | x :: r, y :: s => by simp only [zipL, List.length_cons]; rw [zipL_len r s]; omega
theorem zipL_none {l m : List D} {i : Nat} {d : D} (h : (zipL l m)[i]? = some d) : ∃ a b, l[i]? = some a ∧ m[i]? = some b ∧ d = .tup [a, b] := by
  have hl := (List.getElem?_eq_some_iff.mp h).1
  rw [zipL_len] at hl
  have h1 : i < l.length := by omega
  have h2 : i < m.length := by omega
  have e1 := List.getElem?_eq_getElem h1
  have e2 := List.getElem?_eq_getElem h2
  rw [zipL_get l m i _ _ e1 e2] at h
  exact ⟨_, _, e1, e2, (Option.some.inj h).symm⟩
section
variable {G : Wd} {W : WX} {X : Cx} {Z Z' : Zone} {H H' : Hp} {L L' : List Addr} {st st' : Sto} {tg e : Expr} {pos : Pos}
theorem Rep.rdTup {ds : List D} {v : V} (h : Rep G Z H (.tup ds) v) : ∃ a vs, v = .ref a ∧ ((Rd H a (.tup vs) ∧ ¬ Z a) ∨ KTup G.K a vs) ∧ Reps G Z H ds vs := by
  cases h with
  | tup r z h => exact ⟨_, _, rfl, .inl ⟨r, z⟩, h⟩
  | tupK r h => exact ⟨_, _, rfl, .inr r, h⟩
theorem Rep.rdLst {ds : List D} {v : V} (h : Rep G Z H (.lst ds) v) : ∃ a vs, v = .ref a ∧ Rd H a (.lst vs) ∧ ¬ Z a ∧ Reps G Z H ds vs := by
  cases h with
  | lst r z h => exact ⟨_, _, rfl, r, z, h⟩
theorem tupOn {K : PySem.W.Frag} {a : Addr} {vs : List V} (k : Keeps Z Z' H H') (h : (Rd H a (.tup vs) ∧ ¬ Z a) ∨ KTup K a vs) : SqT K H' a vs := by
  rcases h with ⟨h, z⟩ | h
  · exact .inl (k.rd h z (.inr (.inl ⟨_, rfl⟩))).1
  · exact .inr h
/-- a value walked: list, tuple, text -/
def iAny (K : PySem.W.Frag) (te : TE) : TI := fun σ H R => te σ H fun x H1 => (∃ a, x = .ref a ∧ (∃ xs, SqL K H1 a xs) ∧ R (Itl K a) H1) ∨ (∃ a, x = .ref a ∧ (∃ xs, SqT K H1 a xs) ∧ R (Itt K a) H1) ∨ (∃ z, x = .str z ∧ R (Its z) H1)
theorem pi_any {te : TE} (he : PE X e te) : PI X tg e (iAny X.K te) := by
  refine ⟨fun pins s σ H R I h => ?_⟩
  refine thn (he.run pins s σ H _ I h) fun v s1 ⟨y, H1, I1, r1, q⟩ => ?_
  rcases q with ⟨a, ex, ⟨xs, hq⟩, q⟩ | ⟨a, ex, ⟨xs, hq⟩, q⟩ | ⟨x, ex, q⟩
  · subst ex
    cases r1
    obtain ⟨its, rv, p, hz⟩ := I1.list hq
    refine wpAny_pyIter_list p.isList ?_
    refine ⟨s1.heap.objs.size, [s1.heap.objs.size], _, _, H1, rfl, I1.kept (t' := s1.toks) fun b o e => Heap.get?_push_of_some _ e, turn_list a _, ⟨_, Heap.get?_push_size _ rfl, rfl, rfl⟩, fun b hb => ?_, q⟩
    have e : b = s1.heap.objs.size := by simpa using hb
    subst e
    exact I1.fpOk (Nat.le_refl _) (I1.hok.fresh (Nat.le_refl _))
  · subst ex
    cases r1
    obtain ⟨its, rv, p, hz⟩ := I1.tuple hq
    refine wpAny_pyIter_tuple (show s1.heap.IsTuple a its.toArray from p) ?_
    refine ⟨s1.heap.objs.size, [s1.heap.objs.size], _, _, H1, rfl, I1.kept (t' := s1.toks) fun b o e => Heap.get?_push_of_some _ e, turn_tuple a _, ⟨_, Heap.get?_push_size _ rfl, rfl, rfl⟩, fun b hb => ?_, q⟩
    have e : b = s1.heap.objs.size := by simpa using hb
    subst e
    exact I1.fpOk (Nat.le_refl _) (I1.hok.fresh (Nat.le_refl _))
  · subst ex
    obtain ⟨t, rfl⟩ := r1
    cases ha : x.cps.all (· < 128)
    · exact wpAny_pyIter_wide ha (pi_one (tk := s1.toks) I1 _ (turn_str _ x t "str_iterator" (.inr rfl)) ⟨_, Heap.get?_push_size _ rfl, rfl, rfl⟩ q)
    · exact wpAny_pyIter_ascii ha (pi_one (tk := s1.toks) I1 _ (turn_str _ x t "str_ascii_iterator" (.inl rfl)) ⟨_, Heap.get?_push_size _ rfl, rfl, rfl⟩ q)
theorem PI.imp {t t' : TI} (h : PI X tg e t) (i : ∀ σ H R, t' σ H R → t σ H R) : PI X tg e t' := ⟨fun pins s σ H R I q => h.run pins s σ H R I (i σ H R q)⟩
theorem mi_seq {f : Den} (hK : G.K = X.K) (he : ME G W X e f) : MI G W X tg e (iSeq f) := PI.imp (pi_any he) fun σ H R q => by
  obtain ⟨Z, ρ, st, L, S, q⟩ := q
  refine ⟨Z, ρ, st, L, S, PostI.bind q fun d st1 x H1 L1 e f1 o1 r1 q1 => ?_⟩
  unfold itemsOf at q1
  split at q1
  · rename_i ds hd
    split at hd
    · cases hd
      obtain ⟨a, vs, rfl, h1, hz, h2⟩ := r1.rdLst
      refine .inl ⟨a, rfl, ⟨vs, .inl h1⟩, q1 _ H1 L1 Fw.refl o1 fun i Z2 L2 st2 H2 hz2 f2 o2 => ?_⟩
      have hq : SqL X.K H2 a vs := .inl ((f2.keepsZ hz2).rd h1 hz (.inl ⟨_, rfl⟩)).1
      refine ⟨fun hi => ⟨vs, hq, by rw [← h2.length]; exact hi⟩, fun d hd => ?_⟩
      obtain ⟨v, hv, rv⟩ := h2.get hd
      refine ⟨⟨vs, v, hq, hv⟩, fun x H' hy => ?_⟩
      obtain ⟨rfl, hx⟩ := hy
      have := hx vs hq
      rw [hv] at this
      cases this
      exact ⟨Same.refl _, rv.mono (f2.keepsZ hz2)⟩
    · cases hd
      obtain ⟨a, vs, rfl, h1, h2⟩ := r1.rdTup
      refine .inr (.inl ⟨a, rfl, ⟨vs, hK ▸ tupOn (Fw.refl (Z := Z)).keeps h1⟩, q1 _ H1 L1 Fw.refl o1 fun i Z2 L2 st2 H2 hz2 f2 o2 => ?_⟩)
      have hq : SqT X.K H2 a vs := hK ▸ tupOn (f2.keepsZ hz2) h1
      refine ⟨fun hi => ⟨vs, hq, by rw [← h2.length]; exact hi⟩, fun d hd => ?_⟩
      obtain ⟨v, hv, rv⟩ := h2.get hd
      refine ⟨⟨vs, v, hq, hv⟩, fun x H' hy => ?_⟩
      obtain ⟨rfl, hx⟩ := hy
      have := hx vs hq
      rw [hv] at this
      cases this
      exact ⟨Same.refl _, rv.mono (f2.keepsZ hz2)⟩
    · rename_i z
      cases hd
      refine .inr (.inr ⟨z, r1.str', q1 _ H1 L1 Fw.refl o1 fun i Z2 L2 st2 H2 hz2 f2 o2 => ⟨fun hi => ?_, fun d hd => ?_⟩⟩)
      · rw [signs_len] at hi
        show z.cps.size ≤ i
        simpa using hi
      · rw [signs_get] at hd
        obtain ⟨c, hc, rfl⟩ := Option.map_eq_some_iff.mp hd
        have hc' : z.cps[i]? = some c := by simpa using hc
        refine ⟨?_, fun x H' hy => ?_⟩
        · exact (Array.getElem?_eq_some_iff.mp hc').1
        · obtain ⟨rfl, c2, h3, rfl⟩ := hy
          rw [hc'] at h3
          cases h3
          exact ⟨Same.refl _, .str _⟩
    · cases hd
  · exact q1.elim
theorem yields_range {lo : Int} {n : Nat} : Yields G Z (Itr lo n) (rngL lo n) L st H := fun i Z2 L2 st2 H2 hz2 f2 o2 => by
  refine ⟨fun hi => by rw [rngL_len] at hi; exact hi, fun d hd => ?_⟩
  have hl := (List.getElem?_eq_some_iff.mp hd).1
  rw [rngL_len] at hl
  rw [rngL_get n lo i hl] at hd
  cases hd
  refine ⟨hl, fun x H' hy => ?_⟩
  obtain ⟨rfl, rfl⟩ := hy
  exact ⟨Same.refl _, .int _⟩
theorem mi_range1 {a : Expr} {f : Den} {p : Pos} (hm : X.mg "range" = none) (ha : ME G W X a f) (hg : Gl X "range" := by rfl) (hs1 : starEach [a] X.env = (false, eval a X.env) :: starEach [] X.env := by rfl) (hs : starEach [a] X.env = [(false, eval a X.env)] := by rfl) :
    MI G W X tg (.Call (.Name "range" p) [a] [] pos) (iRange1 f) := PI.imp (pi_range1 hg hm (pa_cons ha pa_nil hs1) hs) fun σ H R q => by
  obtain ⟨Z, ρ, st, L, S, q⟩ := q
  refine ⟨Z, ρ, st, L, S, PostI.bind q fun d st1 x H1 L1 e f1 o1 r1 q1 => ?_⟩
  split at q1
  · rename_i j
    split at q1
    · rename_i hb
      unfold bigR at hb
      rw [Bool.and_eq_true, decide_eq_true_eq, decide_eq_true_eq] at hb
      rw [r1.int']
      exact ⟨j, rfl, by omega, by omega, q1 _ H1 L1 Fw.refl o1 yields_range⟩
    · exact q1.elim
  · exact q1.elim
theorem mi_range2 {a b : Expr} {f h : Den} {p : Pos} (hm : X.mg "range" = none) (ha : ME G W X a f) (hb : ME G W X b h) (hg : Gl X "range" := by rfl) (hs1 : starEach [a, b] X.env = (false, eval a X.env) :: starEach [b] X.env := by rfl) (hs3 : starEach [b] X.env = (false, eval b X.env) :: starEach [] X.env := by rfl) (hs : starEach [a, b] X.env = [(false, eval a X.env), (false, eval b X.env)] := by rfl) (hs2 : starEach [b] X.env = [(false, eval b X.env)] := by rfl) :
    MI G W X tg (.Call (.Name "range" p) [a, b] [] pos) (iRange2 f h) := PI.imp (pi_range2 hg hm (pa_cons ha (pa_cons hb pa_nil hs3) hs1) hs hs2) fun σ H R q => by
  obtain ⟨Z, ρ, st, L, S, q⟩ := q
  refine ⟨Z, ρ, st, L, S, PostI.bind q fun d st1 x H1 L1 e f1 o1 r1 q1 => ?_⟩
  refine ⟨Z, ρ, st1, L1, S.to f1 o1, PostI.bind q1 fun d2 st2 y H2 L2 e2 f2 o2 r2 q2 => ?_⟩
  split at q2
  · rename_i i j
    split at q2
    · rename_i hb
      unfold bigR at hb
      simp only [Bool.and_eq_true, decide_eq_true_eq] at hb
      rw [r1.int', r2.int']
      exact ⟨i, j, rfl, ⟨by omega, by omega, by omega, by omega⟩, q2 _ H2 L2 Fw.refl o2 yields_range⟩
    · exact q2.elim
  · exact q2.elim
@[simp] def iZip (f h : Den) : DenL := fun ρ st => (f ρ st).bind fun d st => (h ρ st).bind fun e st => match d, e with | .lst a, .lst b => .ok (zipL a b) st | .tup a, .tup b => .ok (zipL a b) st | _, _ => .stuck
theorem mi_zip {a b : Expr} {f h : Den} {p tpos : Pos} {elts : List Expr} {kk : Nat} (hK : G.K = X.K) (hm : X.mg "zip" = none) (ha : ME G W X a f) (hb : ME G W X b h) (hg : Gl X "zip" := by rfl) (hs1 : starEach [a, b] X.env = (false, eval a X.env) :: starEach [b] X.env := by rfl) (hs3 : starEach [b] X.env = (false, eval b X.env) :: starEach [] X.env := by rfl)
    (hpl : (backTo pos (starEach [b] X.env)).any (·.1) = false := by rfl) : MI G W X (.Tuple elts kk tpos) (.Call (.Name "zip" p) [a, b] [] pos) (iZip f h) := PI.imp (RZ.pi_zipA hg hm (pa_cons ha (pa_cons hb pa_nil hs3) hs1) hs1 hpl) fun σ H R q => by
  obtain ⟨Z, ρ, st, L, S, q⟩ := q
  refine ⟨Z, ρ, st, L, S, PostI.bind q fun d st1 x H1 L1 e f1 o1 r1 q1 => ?_⟩
  refine ⟨Z, ρ, st1, L1, S.to f1 o1, PostI.bind q1 fun d2 st2 y H2 L2 e2 f2 o2 r2 q2 => ?_⟩
  have r1 := r1.mono f2.keeps
  split at q2
  · rename_i xs ys
    obtain ⟨a, vs, rfl, h1, hz, h2⟩ := r1.rdLst
    obtain ⟨b, ws, rfl, g1, gz, g2⟩ := r2.rdLst
    refine ⟨a, b, vs, ws, rfl, .inl ⟨.inl h1, .inl g1, q2 _ H2 L2 Fw.refl o2 fun i Z3 L3 st3 H3 hz3 f3 o3 => ?_⟩⟩
    have hq : SqL X.K H3 a vs := .inl ((f3.keepsZ hz3).rd h1 hz (.inl ⟨_, rfl⟩)).1
    have gq : SqL X.K H3 b ws := .inl ((f3.keepsZ hz3).rd g1 gz (.inl ⟨_, rfl⟩)).1
    refine ⟨fun hi => ?_, fun d hd => ?_⟩
    · rw [zipL_len, h2.length, g2.length] at hi
      exact ⟨vs, ws, hq, gq, by omega⟩
    · obtain ⟨da, db, e1, e2, rfl⟩ := zipL_none hd
      obtain ⟨va, k1, k2⟩ := h2.get e1
      obtain ⟨vb, k3, k4⟩ := g2.get e2
      refine ⟨⟨vs, ws, va, vb, hq, gq, k1, k3⟩, fun x H' hy => ?_⟩
      obtain ⟨T, xa, xb, rfl, nT, rfl, j1, j2⟩ := hy
      have j1 := j1 vs hq
      have j2 := j2 ws gq
      rw [k1] at j1
      rw [k3] at j2
      cases j1
      cases j2
      exact ⟨same_new nT, new_tup o3.inn (.cons (k2.mono (f3.keepsZ hz3)) (.cons (k4.mono (f3.keepsZ hz3)) .nil)) nT⟩
  · rename_i xs ys
    obtain ⟨a, vs, rfl, h1, h2⟩ := r1.rdTup
    obtain ⟨b, ws, rfl, g1, g2⟩ := r2.rdTup
    refine ⟨a, b, vs, ws, rfl, .inr ⟨hK ▸ tupOn (Fw.refl (Z := Z)).keeps h1, hK ▸ tupOn (Fw.refl (Z := Z)).keeps g1, q2 _ H2 L2 Fw.refl o2 fun i Z3 L3 st3 H3 hz3 f3 o3 => ?_⟩⟩
    have hq : SqT X.K H3 a vs := hK ▸ tupOn (f3.keepsZ hz3) h1
    have gq : SqT X.K H3 b ws := hK ▸ tupOn (f3.keepsZ hz3) g1
    refine ⟨fun hi => ?_, fun d hd => ?_⟩
    · rw [zipL_len, h2.length, g2.length] at hi
      exact ⟨vs, ws, hq, gq, by omega⟩
    · obtain ⟨da, db, e1, e2, rfl⟩ := zipL_none hd
      obtain ⟨va, k1, k2⟩ := h2.get e1
      obtain ⟨vb, k3, k4⟩ := g2.get e2
      refine ⟨⟨vs, ws, va, vb, hq, gq, k1, k3⟩, fun x H' hy => ?_⟩
      obtain ⟨T, xa, xb, rfl, nT, rfl, j1, j2⟩ := hy
      have j1 := j1 vs hq
      have j2 := j2 ws gq
      rw [k1] at j1
      rw [k3] at j2
      cases j1
      cases j2
      exact ⟨same_new nT, new_tup o3.inn (.cons (k2.mono (f3.keepsZ hz3)) (.cons (k4.mono (f3.keepsZ hz3)) .nil)) nT⟩
  · exact q2.elim
end
end M
namespace M
open PySem PySem.Spec L2

/-! ### comprehensions -/
abbrev W0 : WX := fun _ _ _ _ => False
@[simp] def eYes : DenB := fun _ st => .ok true st
def compL (g : GD) (ft : DenB) (fe : Den) (ρ : Env) : List D → Sto → Res (List D)
  | [], st => .ok [] st
  | x :: xs, st => match g x ρ with
    | none => .stuck
    | some ρ1 => match ft ρ1 st with
      | .ok true st => (match fe ρ1 st with
        | .ok d st => (compL g ft fe ρ xs st).bind fun ds st => .ok (d :: ds) st
        | _ => .stuck)
      | .ok false st => compL g ft fe ρ xs st
      | _ => .stuck
@[simp] noncomputable def eComp (fi : DenL) (g : GD) (ft : DenB) (fe : Den) (vs : List Nat) : Env → Sto → Res O := fun ρ st => (fi ρ st).bind fun items st => if items.length ≤ sizeLine then (compL g ft fe (wipeE ρ vs) items st).bind fun ds st => .ok (.lst ds) st else .stuck
abbrev MTs (G : Wd) (W : WX) (X : Cx) (es : List Expr) (f : DenB) : Prop := PTs X es (tMB G W f)
section
variable {G : Wd} {W : WX} {X : Cx} {Z Z' : Zone} {H H' : Hp} {L L' : List Addr} {st st' : Sto} {tg e : Expr} {pos : Pos}
theorem PTs.imp {es : List Expr} {t t' : TT} (h : PTs X es t) (i : ∀ σ H Q, t' σ H Q → t σ H Q) : PTs X es t' := ⟨fun pins s σ H Q I q => h.run pins s σ H Q I (i σ H Q q)⟩
theorem mts_nil : MTs G W X [] eYes := PTs.imp pts_nil fun σ H Q q => by
  obtain ⟨Z, ρ, st, L, S, q⟩ := q
  exact PostR.pure (W := W) (R := RB) S.ok q rfl
theorem mts_one {c : Expr} {f : DenB} (h : MT G W X c f) : MTs G W X [c] f := pts_one h
theorem wipe_get (σ : St) (i : Nat) : ∀ vs : List Nat, (wipe σ vs)[i]? = if i ∈ vs ∧ i < σ.length then some none else σ[i]?
  | [] => by simp [wipe]
  | v :: vs => by
    unfold wipe
    by_cases e : i = v
    · subst e
      by_cases hl : i < σ.length
      · rw [List.getElem?_set_self (by rw [wipe_length]; exact hl), if_pos ⟨List.mem_cons_self, hl⟩]
      · rw [List.getElem?_eq_none (by rw [List.length_set, wipe_length]; omega), if_neg (fun q => hl q.2), List.getElem?_eq_none (by omega)]
    · rw [List.getElem?_set_ne (Ne.symm e), wipe_get σ i vs]
      have : (i ∈ v :: vs) ↔ i ∈ vs := ⟨fun q => (List.mem_cons.mp q).resolve_left e, List.mem_cons_of_mem _⟩
      simp only [this]
theorem wipe_wipe (σ : St) (vs : List Nat) : wipe (wipe σ vs) vs = wipe σ vs := by
  apply List.ext_getElem?
  intro i
  rw [wipe_get (wipe σ vs) i vs, wipe_get σ i vs, wipe_length]
  split <;> rfl
/-- the state of a comprehension between two turns -/
structure CInv (G : Wd) (Z : Zone) (p : Addr) (L1 : List Addr) (st1 : Sto) (H1 : Hp) (items : List D) (i : Nat) (acc : List D) (L' : List Addr) (st' : Sto) (H' : Hp) : Prop where
  le : i ≤ items.length
  fw : Fw Z L1 st1 H1 L' st' H'
  ok : StOk G (Zp Z p) L' st' H'
  at_ : ∃ vs, H' p = some (.lst vs) ∧ Reps G (Zof (Zp Z p) L' st') H' acc vs
  len : acc.length ≤ i
theorem comp_core {fi : DenL} {gm : GD} {g : TG} {ft : DenB} {fe : Den} {vs : List Nat} (hg : GSim G g gm vs) {σ : St} {H : Hp} {Q : VK} (q : tMN G W (eComp fi gm ft fe vs) σ H Q) : tLc (tMI G W fi) g (tMB G W0 ft) (tM G W0 fe) vs σ H Q := by
  obtain ⟨Z, ρ, st, L, S, q⟩ := q
  refine ⟨Z, ρ, st, L, S, ?_⟩
  have qq : match fi ρ st with
    | .ok items st1 => (match (if items.length ≤ sizeLine then (compL gm ft fe (wipeE ρ vs) items st1).bind fun ds st => .ok (.lst ds) st else .stuck : Res O) with
      | .ok o st' => ∀ p H' L', FwN G Z L st H L' st' H' p → OOk G (Zof (fun a => Z a ∨ a = p) L' st') H' L' p o → Q (.ref p) H'
      | .exc c fs st' => ExP G Z L st H c fs st' fun cv dd H' => W cv dd σ H'
      | .stuck => False)
    | .exc c fs st' => ExP G Z L st H c fs st' fun cv dd H' => W cv dd σ H'
    | .stuck => False := by
    revert q
    unfold eComp
    cases fi ρ st <;> exact fun q => q
  clear q
  revert qq
  cases ei : fi ρ st with
  | stuck => exact fun q => q
  | exc c fs st1 => exact fun q => q
  | ok items st1 =>
    intro q J H1 L1 f1 o1 hy p hp
    have q : match (if items.length ≤ sizeLine then (compL gm ft fe (wipeE ρ vs) items st1).bind fun ds st => .ok (.lst ds) st else .stuck : Res O) with
      | .ok o st' => ∀ p H' L', FwN G Z L st H L' st' H' p → OOk G (Zof (fun a => Z a ∨ a = p) L' st') H' L' p o → Q (.ref p) H'
      | .exc c fs st' => ExP G Z L st H c fs st' fun cv dd H' => W cv dd σ H'
      | .stuck => False := q
    by_cases hz : items.length ≤ sizeLine
    · rw [if_pos hz] at q
      have S1 := S.to f1 o1
      obtain ⟨C, hC0⟩ : ∃ C, compL gm ft fe (wipeE ρ vs) items st1 = C := ⟨_, rfl⟩
      rw [hC0] at q
      have noExc : ∀ (items : List D) (st : Sto) c fs st', compL gm ft fe (wipeE ρ vs) items st ≠ .exc c fs st' := by
        intro items
        induction items with
        | nil => intro st c fs st' h; cases h
        | cons d r ih =>
          intro st c fs st' h
          unfold compL at h
          split at h
          · cases h
          · split at h
            · split at h
              · rename_i d2 st2 _
                cases hr : compL gm ft fe (wipeE ρ vs) r st2 with
                | ok ds st3 => rw [hr] at h; cases h
                | exc c2 fs2 st3 => exact ih _ _ _ _ hr
                | stuck => rw [hr] at h; cases h
              · cases h
            · exact ih _ _ _ _ h
            · cases h
      cases hC1 : C with
      | stuck => rw [hC1] at q; exact q.elim
      | exc c fs st' => exact absurd (hC0.trans hC1) (noExc _ _ _ _ _)
      | ok all stE =>
      rw [hC1] at q hC0
      have q : ∀ p H' L', FwN G Z L st H L' stE H' p → OOk G (Zof (fun a => Z a ∨ a = p) L' stE) H' L' p (.lst all) → Q (.ref p) H' := q
      refine ⟨fun i m H' => ∃ acc L' st', m = items.length - i ∧ CInv G Z p L1 st1 H1 items i acc L' st' H' ∧ (compL gm ft fe (wipeE ρ vs) (items.drop i) st').bind (fun ds st => .ok (acc ++ ds) st) = .ok all stE, ⟨items.length, [], L1, st1, by simp, ⟨Nat.zero_le _, Fw.same (same_new hp), o1.enter hp, ⟨[], upd_same, .nil⟩, Nat.le_refl _⟩, ?_⟩, ?_⟩
      · rw [List.drop_zero, hC0]
        rfl
      · rintro i m H' ⟨acc, L', st', rfl, I, hC⟩
        have hzz : ∀ a, Zp Z p a → Z a ∨ H1 a = none := fun a z => z.elim .inl fun e => .inr (by rw [e]; exact hp)
        obtain ⟨ys, yi⟩ := hy i (Zp Z p) L' st' H' hzz I.fw I.ok
        by_cases hi : i < items.length
        · obtain ⟨d, hd⟩ : ∃ d, items[i]? = some d := ⟨_, List.getElem?_eq_getElem hi⟩
          obtain ⟨go, hyl⟩ := yi d hd
          have hdrop : items.drop i = d :: items.drop (i + 1) := by
            rw [List.drop_eq_getElem_cons hi]
            rw [List.getElem?_eq_getElem hi] at hd
            cases hd
            rfl
          rw [hdrop] at hC
          unfold compL at hC
          refine .inr ⟨go, fun H2 => ∃ acc L' st', CInv G Z p L1 st1 H1 items (i + 1) acc L' st' H2 ∧ (compL gm ft fe (wipeE ρ vs) (items.drop (i + 1)) st').bind (fun ds st => .ok (acc ++ ds) st) = .ok all stE, fun H2 ⟨acc, L', st', I2, h2⟩ => ⟨_, by omega, acc, L', st', rfl, I2, h2⟩, fun x H2 hyx => ?_⟩
          obtain ⟨sm, rx⟩ := hyl x H2 hyx
          have k2 : Keeps (Zof (Zp Z p) L' st') (Zof (Zp Z p) L' st') H' H2 := Same.keeps sm
          have ok2 : StOk G (Zp Z p) L' st' H2 := I.ok.same sm
          have fw2 : Fw Z L1 st1 H1 L' st' H2 := I.fw.trans (Fw.same sm)
          have E2 : EnvOk G (Zof (Zp Z p) L' st') H2 L' (wipeE ρ vs) (wipe σ vs) := by
            have a2 : EnvOk G (Zof (Zp Z p) L' st') H2 L' ρ σ := ⟨S1.env.1, fun i s e => by
              obtain ⟨v, e2, r⟩ := S1.env.2 i s e
              refine ⟨v, e2, ?_⟩
              cases r with
              | p r => exact .p (r.mono (fw2.keepsZ hzz))
              | r e3 => exact .r (I.fw.get e3)
              | x y1 y2 y3 y4 => exact .x y1 y2 (y3.mono (fw2.keepsZ hzz)) (y4.mono (fw2.keepsZ hzz))⟩
            exact a2.wipe vs
          cases eg : gm d (wipeE ρ vs) with
          | none => rw [eg] at hC; cases hC
          | some ρ1 =>
            rw [eg] at hC
            refine hg _ _ _ _ _ _ _ ρ1 _ E2 rx eg fun σ2 E3 w2 => ⟨w2.trans (wipe_wipe σ vs), Zp Z p, ρ1, st', L', ⟨ok2, E3⟩, ?_⟩
            have hC : (match ft ρ1 st' with
              | .ok true st => (match fe ρ1 st with
                | .ok d st => (compL gm ft fe (wipeE ρ vs) (items.drop (i + 1)) st).bind fun ds st => .ok (d :: ds) st
                | _ => .stuck)
              | .ok false st => compL gm ft fe (wipeE ρ vs) (items.drop (i + 1)) st
              | _ => .stuck : Res (List D)).bind (fun ds st => .ok (acc ++ ds) st) = .ok all stE := hC
            cases et : ft ρ1 st' with
            | stuck => rw [et] at hC; cases hC
            | exc c fs st3 => rw [et] at hC; cases hC
            | ok b st3 =>
              rw [et] at hC
              intro b' H3 L3 f3 o3 rb
              have rb : b = b' := rb
              subst rb
              have fw3 : Fw Z L1 st1 H1 L3 st3 H3 := fw2.trans (f3.zone fun a z => .inl z)
              obtain ⟨ws, hw, rw_⟩ := I.at_
              have hw3 : H3 p = some (.lst ws) := f3.zk p _ (.inr rfl) (sm _ _ hw)
              have rw3 := (rw_.mono k2).mono f3.keeps
              cases b with
              | false =>
                exact ⟨acc, L3, st3, ⟨hi, fw3, o3, ⟨ws, hw3, rw3⟩, Nat.le_succ_of_le I.len⟩, hC⟩
              | true =>
                refine ⟨Zp Z p, ρ1, st3, L3, ⟨o3, E3.mono f3⟩, ?_⟩
                have hC : (match fe ρ1 st3 with
                  | .ok d st => (compL gm ft fe (wipeE ρ vs) (items.drop (i + 1)) st).bind fun ds st => .ok (d :: ds) st
                  | _ => .stuck : Res (List D)).bind (fun ds st => .ok (acc ++ ds) st) = .ok all stE := hC
                cases ee : fe ρ1 st3 with
                | stuck => rw [ee] at hC; cases hC
                | exc c fs st4 => rw [ee] at hC; cases hC
                | ok y st4 =>
                  rw [ee] at hC
                  intro v H4 L4 f4 o4 ry
                  have fw4 : Fw Z L1 st1 H1 L4 st4 H4 := fw3.trans (f4.zone fun a z => .inl z)
                  have hw4 : H4 p = some (.lst ws) := f4.zk p _ (.inr rfl) hw3
                  have rw4 := rw3.mono f4.keeps
                  have hl := rw4.length
                  refine ⟨ws, hw4, by have := I.len; omega, acc ++ [y], L4, st4, ⟨hi, Fw.own hp fw4, o4.own, ⟨ws ++ [v], upd_same, (rw4.append (.cons ry .nil)).mono keeps_own⟩, ?_⟩, ?_⟩
                  · rw [List.length_append, List.length_singleton]
                    have := I.len; omega
                  · have hC : ((compL gm ft fe (wipeE ρ vs) (items.drop (i + 1)) st4).bind fun ds st => .ok (y :: ds) st).bind (fun ds st => .ok (acc ++ ds) st) = .ok all stE := hC
                    rw [← hC]
                    cases compL gm ft fe (wipeE ρ vs) (items.drop (i + 1)) st4 with
                    | ok ds st5 => simp only [Res.bind, List.append_assoc, List.singleton_append]
                    | exc c fs st5 => rfl
                    | stuck => rfl
        · have e : i = items.length := by have := I.le; omega
          subst e
          rw [List.drop_length] at hC
          have hC : Res.ok (acc ++ []) st' = .ok all stE := hC
          rw [List.append_nil] at hC
          cases hC
          refine .inl ⟨ys (Nat.le_refl _), q p H' L' ⟨f1.trans I.fw, I.ok, ?_⟩ I.at_⟩
          cases qh : H p with
          | none => rfl
          | some o => exact absurd hp (f1.there p (by rw [qh]; simp))
    · rw [if_neg hz] at q
      exact q.elim
/-- [elt for tg in iter if ..] -/
theorem mn_comp {elt iter : Expr} {ifs : List Expr} {scope : Scope} {own : List (Str × Nat)} {fi : DenL} {gm : GD} {ft : DenB} {fe : Den} {g : TG} (hc : X.calm = true) (hN : X.N.Nodup) (hi : MI G W X tg iter fi) (ok : BlkOk X.N X.env.scope scope own) (hsim : GSim G g gm (own.map (·.2)))
    (hg : ∀ (s : Shared) (H : Hp) (C : Addr) (cl : List (Str × Addr)) (fp : List Addr), PG (X.blk s H scope (compEnvC scope cl C X.env) fp) tg g) (ht : ∀ (s : Shared) (H : Hp) (C : Addr) (cl : List (Str × Addr)) (fp : List Addr), MTs G W0 (X.blk s H scope (compEnvC scope cl C X.env) fp) ifs ft)
    (he : ∀ (s : Shared) (H : Hp) (C : Addr) (cl : List (Str × Addr)) (fp : List Addr), ME G W0 (X.blk s H scope (compEnvC scope cl C X.env) fp) elt fe) (hs : ∀ x, foldedSetIterable iter X.env x = pure x := by intro _; rfl) :
    MN G W X (.ListComp elt [⟨tg, iter, ifs, 0⟩] scope pos) (eComp fi gm ft fe (own.map (·.2))) :=
  PE.imp (pe_lc hc hN hi ok hg ht he hs) fun σ H Q q => comp_core hsim q
end
end M
namespace M
open PySem PySem.Spec L2

/-! ### statements -/
@[simp] def sNil : SDen := fun ρ st => .next ρ st
@[simp] def sSeq (f h : SDen) : SDen := fun ρ st => match f ρ st with | .next ρ st => h ρ st | r => r
/-- an expression's value handed to a statement's end -/
@[simp] def sOf {α : Type} (f : Env → Sto → Res α) (k : α → Env → Sto → SRes) : SDen := fun ρ st => match f ρ st with | .ok d st => k d ρ st | .exc c fs st => .exc c fs ρ st | .stuck => .stuck
@[simp] def sSet (i : Nat) (f : Den) : SDen := fun ρ st => sOf f (fun d ρ st => .next (ρ.set i (some (.p d))) st) ρ st
@[simp] def sNew (i : Nat) (f : Env → Sto → Res O) : SDen := fun ρ st => sOf f (fun o ρ st => .next (ρ.set i (some (.r st.length))) (st ++ [o])) ρ st
@[simp] def sExpr (f : Den) : SDen := fun ρ st => sOf f (fun _ ρ st => .next ρ st) ρ st
@[simp] def sRet (f : Den) : SDen := fun ρ st => sOf f (fun d ρ st => .ret d st) ρ st
@[simp] def sRetN : SDen := fun _ st => .ret .non st
@[simp] def sIf (c : DenB) (a b : SDen) : SDen := fun ρ st => sOf c (fun k ρ st => if k = true then a ρ st else b ρ st) ρ st
@[simp] def sAsg (g : GD) (f : Den) : SDen := fun ρ st => sOf f (fun d ρ st => match g d ρ with | some ρ => .next ρ st | none => .stuck) ρ st
@[simp] def sBreak : SDen := fun ρ st => .brk ρ st
@[simp] def sCont : SDen := fun ρ st => .cont ρ st
@[simp] def sNever : SDen := fun _ _ => .stuck
def forL (g : GD) (fb : SDen) : List D → Env → Sto → SRes
  | [], ρ, st => .next ρ st
  | x :: xs, ρ, st => match g x ρ with
    | none => .stuck
    | some ρ1 => match fb ρ1 st with
      | .next ρ st => forL g fb xs ρ st
      | .cont ρ st => forL g fb xs ρ st
      | .brk ρ st => .next ρ st
      | r => r
@[simp] def sFor (fi : DenL) (g : GD) (fb : SDen) : SDen := fun ρ st => sOf fi (fun ds ρ st => forL g fb ds ρ st) ρ st
def whileL (fc : DenB) (fb : SDen) : Nat → Env → Sto → SRes
  | 0, _, _ => .stuck
  | n + 1, ρ, st => match fc ρ st with
    | .ok true st => (match fb ρ st with
      | .next ρ st => whileL fc fb n ρ st
      | .cont ρ st => whileL fc fb n ρ st
      | .brk ρ st => .next ρ st
      | r => r)
    | .ok false st => .next ρ st
    | .exc c fs st => .exc c fs ρ st
    | .stuck => .stuck
@[simp] def sWhile (n : Nat) (fc : DenB) (fb : SDen) : SDen := fun ρ st => whileL fc fb n ρ st
section
variable {G : Wd} {W : WX} {X : Cx} {Z Z' : Zone} {H H' : Hp} {L L' : List Addr} {st st' : Sto} {tg e : Expr} {pos : Pos}
theorem PostS.on {r : SRes} {E : Ends} (f : Fw Z L st H L' st' H') (h : PostS G Z W L st H r E) : PostS G Z W L' st' H' r E := by
  cases r with
  | next ρ s => exact fun σ' H2 L2 g S => h σ' H2 L2 (f.trans g) S
  | ret d s => exact fun v H2 L2 g o r => h v H2 L2 (f.trans g) o r
  | brk ρ s => exact fun σ' H2 L2 g S => h σ' H2 L2 (f.trans g) S
  | cont ρ s => exact fun σ' H2 L2 g S => h σ' H2 L2 (f.trans g) S
  | exc c fs ρ s => exact fun σ' H2 L2 C dd vfs g S => h σ' H2 L2 C dd vfs (f.trans g) S
  | stuck => exact h
theorem PostR.bindS {α β : Type} {R : Zone → Hp → α → β → Prop} {σ : St} {ρ : Env} {r : Res α} {k : α → Sto → SRes} {E : Ends} {Q : β → Hp → Prop} (S : Stt G Z ρ st L σ H)
    (h : PostS G Z W L st H (match r with | .ok d st => k d st | .exc c fs st => .exc c fs ρ st | .stuck => .stuck) E)
    (hk : ∀ d st1 v H1 L1, r = .ok d st1 → Fw Z L st H L1 st1 H1 → Stt G Z ρ st1 L1 σ H1 → R (Zof Z L1 st1) H1 d v → PostS G Z W L1 st1 H1 (k d st1) E → Q v H1) : PostR G Z W R σ L st H r Q := by
  cases r with
  | ok d st1 => exact fun v H1 L1 f o rv => hk d st1 v H1 L1 rfl f (S.to f o) rv (PostS.on f h)
  | exc c fs st1 => exact fun H' L' C dd vfs f o hC hd hr => h σ H' L' C dd vfs f (S.to f o) hC hd hr
  | stuck => exact h
theorem mss_nil : MSs G W X [] sNil := PSs.imp pss_nil fun E σ H q => by
  obtain ⟨Z, ρ, st, L, S, q⟩ := q
  exact q σ H L Fw.refl S
theorem seqS {f h : SDen} {σ : St} {H : Hp} {E : Ends} (q : tMS G W (sSeq f h) E σ H) : tMS G W f { E with nx := tMS G W h E } σ H := by
  obtain ⟨Z, ρ, st, L, S, q⟩ := q
  refine ⟨Z, ρ, st, L, S, ?_⟩
  unfold sSeq at q
  revert q
  cases f ρ st with
  | next ρ1 st1 => exact fun q σ1 H1 L1 f1 S1 => ⟨Z, ρ1, st1, L1, S1, PostS.on f1 q⟩
  | ret d s => exact fun q => q
  | brk ρ s => exact fun q => q
  | cont ρ s => exact fun q => q
  | exc c fs ρ s => exact fun q => q
  | stuck => exact fun q => q
theorem mss_cons {s : Stmt} {r : List Stmt} {f h : SDen} (h1 : MS G W X s f) (h2 : MSs G W X r h) : MSs G W X (s :: r) (sSeq f h) := PSs.imp (pss_cons h1 h2) fun E σ H q => seqS q
theorem mss_one {s : Stmt} {f : SDen} (h1 : MS G W X s f) : MSs G W X [s] f := pss_one h1
theorem ms_pass : MS G W X (.Pass pos) sNil := PS.imp ps_pass fun E σ H q => by
  obtain ⟨Z, ρ, st, L, S, q⟩ := q
  exact q σ H L Fw.refl S
theorem ms_doc {x j p2} : MS G W X (.Expr (.Constant (.str x) j p2) pos) sNil := PS.imp ps_doc fun E σ H q => by
  obtain ⟨Z, ρ, st, L, S, q⟩ := q
  exact q σ H L Fw.refl S
theorem ms_break : MS G W X (.Break pos) sBreak := PS.imp ps_break fun E σ H q => by
  obtain ⟨Z, ρ, st, L, S, q⟩ := q
  exact q σ H L Fw.refl S
theorem ms_cont : MS G W X (.Continue pos) sCont := PS.imp ps_continue fun E σ H q => by
  obtain ⟨Z, ρ, st, L, S, q⟩ := q
  exact q σ H L Fw.refl S
theorem ms_never {s : Stmt} : MS G W X s sNever := PS.imp ps_never fun E σ H q => by
  obtain ⟨Z, ρ, st, L, S, q⟩ := q
  exact q
theorem ms_ret {f : Den} (h : ME G W X e f) : MS G W X (.Return (some e) pos) (sRet f) := PS.imp (ps_ret h) fun E σ H q => by
  obtain ⟨Z, ρ, st, L, S, q⟩ := q
  exact ⟨Z, ρ, st, L, S, PostR.bindS S q fun d st1 v H1 L1 e1 f1 S1 r1 q1 => q1 v H1 L1 Fw.refl S1.ok r1⟩
theorem ms_retN : MS G W X (.Return none pos) sRetN := PS.imp ps_retN fun E σ H q => by
  obtain ⟨Z, ρ, st, L, S, q⟩ := q
  exact q _ H L Fw.refl S.ok .non
theorem ms_expr {f : Den} (h : ME G W X e f) (hs : swapsWith e none pos.line X.env = pure false := by rfl) : MS G W X (.Expr e pos) (sExpr f) := PS.imp (ps_expr h hs) fun E σ H q => by
  obtain ⟨Z, ρ, st, L, S, q⟩ := q
  exact ⟨Z, ρ, st, L, S, PostR.bindS S q fun d st1 v H1 L1 e1 f1 S1 r1 q1 => q1 σ H1 L1 Fw.refl S1⟩
theorem ms_if {c : Expr} {a b : List Stmt} {fc : DenB} {f h : SDen} (hc : MT G W X c fc) (ha : MSs G W X a f) (hb : MSs G W X b h) : MS G W X (.If c a b pos) (sIf fc f h) := PS.imp (ps_if hc ha hb) fun E σ H q => by
  obtain ⟨Z, ρ, st, L, S, q⟩ := q
  refine ⟨Z, ρ, st, L, S, PostR.bindS S q fun d st1 v H1 L1 e1 f1 S1 r1 q1 => ?_⟩
  have r1 : d = v := r1
  subst r1
  cases d with
  | true => exact ⟨Z, ρ, st1, L1, S1, q1⟩
  | false => exact ⟨Z, ρ, st1, L1, S1, q1⟩
theorem ms_set {x : Str} {p2 : Pos} {f : Den} (i : Nat) (hN : X.N.Nodup) (h : ME G W X e f) (hi : X.N[i]? = some x := by rfl) (hx : Loc X.env.scope x := by first | exact .inl rfl | exact .inr rfl) (hs : swapsWith e (some (.Name x p2)) pos.line X.env = pure false := by rfl) (hf : X.fn x = true ∨ X.env.scope.names.lookup x = some .local := by first | exact .inl rfl | exact .inr rfl | assumption) :
    MS G W X (.Assign [.Name x p2] e pos) (sSet i f) := PS.imp (ps_set hN hi hx h hs hf) fun E σ H q => by
  obtain ⟨Z, ρ, st, L, S, q⟩ := q
  exact ⟨Z, ρ, st, L, S, PostR.bindS S q fun d st1 v H1 L1 e1 f1 S1 r1 q1 => q1 _ H1 L1 Fw.refl ⟨S1.ok, S1.env.set i (.p r1)⟩⟩
/-- a new thing of one's own comes into the store -/
theorem alloc {σ : St} {ρ : Env} {L0 : List Addr} {st0 : Sto} {H0 : Hp} {o : O} {p : Addr} (SS : Stt G Z ρ st0 L0 σ H0) (f : FwN G Z L0 st0 H0 L st H p) (ok : OOk G (Zof (fun a => Z a ∨ a = p) L st) H L p o) :
    Fw Z L0 st0 H0 (L ++ [p]) (st ++ [o]) H ∧ StOk G Z (L ++ [p]) (st ++ [o]) H ∧ EnvOk G (Zof Z (L ++ [p]) (st ++ [o])) H (L ++ [p]) ρ σ := by
  have hlen := f.ok.len
  have pz : ¬ Z p := fun z => SS.ok.z0 p z f.new
  have pl : p ∉ L := fun m => f.ok.zl p m (.inr rfl)
  have hp : H p ≠ none := f.ok.z0 p (.inr rfl)
  have fw : Fw Z L0 st0 H0 (L ++ [p]) (st ++ [o]) H := by
    refine ⟨?_, f.fr.keep, f.fr.there, f.fr.zk, fun n o' hn e l => ?_⟩
    · obtain ⟨M, rfl, hM⟩ := f.fr.pre
      refine ⟨M ++ [p], by simp, fun a ha => ?_⟩
      rcases List.mem_append.mp ha with ha | ha
      · exact hM a ha
      · rw [List.mem_singleton.mp ha]; exact f.new
    · have hn' : n < st.length := by
        obtain ⟨M, rfl, hM⟩ := f.fr.pre
        rw [← hlen, List.length_append]; omega
      rw [List.getElem?_append_left hn'] at e
      exact f.fr.live n o' hn e l
  have zz : ∀ a, Zof Z (L ++ [p]) (st ++ [o]) a → Zof (fun a => Z a ∨ a = p) L st a := fun a z => by
    rcases z with z | ⟨n, u, e1, e2, l⟩
    · exact .inl (.inl z)
    · by_cases hn : n < L.length
      · rw [List.getElem?_append_left hn] at e1
        rw [List.getElem?_append_left (by omega)] at e2
        exact .inr ⟨n, u, e1, e2, l⟩
      · rw [List.getElem?_append_right (by omega)] at e1
        have : n - L.length = 0 := by
          obtain ⟨h, _⟩ := List.getElem?_eq_some_iff.mp e1
          simpa using h
        rw [this] at e1
        exact .inl (.inr (by simpa using e1.symm))
  have up : ∀ {s : S} {v : V}, SRep G (Zof (fun a => Z a ∨ a = p) L st) H L s v → SRep G (Zof Z (L ++ [p]) (st ++ [o])) H (L ++ [p]) s v := fun {s v} r => by
    cases r with
    | p r => exact .p (r.zone zz)
    | r e => exact .r (by rw [List.getElem?_append_left (List.getElem?_eq_some_iff.mp e).1]; exact e)
    | x e1 e2 e3 e4 => exact .x e1 e2 (e3.zone zz) (e4.mono fun a o e z => ⟨.of e, fun q => z (zz a q)⟩)
  have upF : ∀ {fs : List (Str × S)} {vs : List (Str × V)}, SRepF G (Zof (fun a => Z a ∨ a = p) L st) H L fs vs → SRepF G (Zof Z (L ++ [p]) (st ++ [o])) H (L ++ [p]) fs vs := fun {fs} => by
    induction fs with
    | nil => intro vs r; cases r; exact .nil
    | cons x fs ih => intro vs r; cases r with | cons a b => exact .cons (up a) (ih b)
  have upO : ∀ {a : Addr} {u : O}, OOk G (Zof (fun a => Z a ∨ a = p) L st) H L a u → OOk G (Zof Z (L ++ [p]) (st ++ [o])) H (L ++ [p]) a u := fun {a u} h => by
    cases u with
    | lst ds => obtain ⟨vs, h1, h2⟩ := h; exact ⟨vs, h1, h2.zone zz⟩
    | dic ds => obtain ⟨vs, h1, h2⟩ := h; exact ⟨vs, h1, h2.zone zz⟩
    | diT ds => obtain ⟨vs, h1, h2⟩ := h; exact ⟨vs, h1, h2.zone zz⟩
    | rows ns => obtain ⟨as, h1, h2⟩ := h; exact ⟨as, h1, h2.mono fun n a e => by rw [List.getElem?_append_left (List.getElem?_eq_some_iff.mp e).1]; exact e⟩
    | ins c fs => obtain ⟨C, dx, vfs, h1, h2, h3⟩ := h; exact ⟨C, dx, vfs, h1, h2, upF h3⟩
    | frz d => exact Rep.zone zz h
    | dead => trivial
  refine ⟨fw, ⟨by simp [hlen], ?_, fun n a u e1 e2 => ?_, fun a z => f.ok.z0 a (.inl z), fun a m z => ?_, fun a m => ?_, f.ok.tb.zone zz, fun a z => f.ok.nt a (.inl z)⟩, SS.env.mono fw⟩
  · rw [List.nodup_append]
    exact ⟨f.ok.nd, by simp, fun a ha b hb e => pl (by rw [List.mem_singleton.mp hb] at e; rw [← e]; exact ha)⟩
  · by_cases hn : n < L.length
    · rw [List.getElem?_append_left hn] at e1
      rw [List.getElem?_append_left (by omega)] at e2
      exact upO (f.ok.obj n a u e1 e2)
    · rw [List.getElem?_append_right (by omega)] at e1
      rw [List.getElem?_append_right (by omega)] at e2
      have h0 : n - L.length = 0 := by
        obtain ⟨h, _⟩ := List.getElem?_eq_some_iff.mp e1
        simpa using h
      rw [h0] at e1
      rw [← hlen, h0] at e2
      have ea : p = a := by simpa using e1
      have eu : o = u := by simpa using e2
      subst ea eu
      exact upO ok
  · rcases List.mem_append.mp m with m | m
    · exact f.ok.zl a m (.inl z)
    · rw [List.mem_singleton.mp m] at z; exact pz z
  · rcases List.mem_append.mp m with m | m
    · exact f.ok.lh a m
    · rw [List.mem_singleton.mp m]; exact hp
/-- x = a new thing of one's own that goes on being changed -/
theorem newS {f : Env → Sto → Res O} {i : Nat} {σ : St} {H : Hp} {E : Ends} (q : tMS G W (sNew i f) E σ H) : tMN G W f σ H fun x H1 => gName i x σ H1 E.nx := by
  obtain ⟨Z, ρ, st, L, S, q⟩ := q
  refine ⟨Z, ρ, st, L, S, ?_⟩
  unfold sNew sOf at q
  revert q
  cases f ρ st with
  | stuck => exact fun q => q
  | exc c fs st1 => exact fun q H' L' C dd vfs f o hC hd hr => q σ H' L' C dd vfs f (S.to f o) hC hd hr
  | ok o st1 =>
    intro q p H1 L1 fn ok
    obtain ⟨f2, o2, e2⟩ := alloc S fn ok
    refine q _ H1 (L1 ++ [p]) f2 ⟨o2, e2.set i (.r ?_)⟩
    rw [← fn.ok.len, List.getElem?_append_right (Nat.le_refl _)]
    simp
theorem ms_new {x : Str} {p2 : Pos} {f : Env → Sto → Res O} (i : Nat) (hN : X.N.Nodup) (h : MN G W X e f) (hi : X.N[i]? = some x := by rfl) (hx : Loc X.env.scope x := by first | exact .inl rfl | exact .inr rfl) (hs : swapsWith e (some (.Name x p2)) pos.line X.env = pure false := by rfl) (hf : X.fn x = true ∨ X.env.scope.names.lookup x = some .local := by first | exact .inl rfl | exact .inr rfl | assumption) :
    MS G W X (.Assign [.Name x p2] e pos) (sNew i f) := PS.imp (ps_set hN hi hx h hs hf) fun E σ H q => newS q
theorem ms_asg {f : Den} {g : GD} {vs : List Nat} (h : ME G W X e f) (hg : MG G X tg g vs) (hs : swapsWithSole [tg] e pos.line X.env = pure false := by rfl) (hw : swappedStores [tg] e X.env = pure none := by rfl)
    (h1 : (assignEach [tg] X.env).map (·.2) = [assign tg X.env] := by rfl) : MS G W X (.Assign [tg] e pos) (sAsg g f) := by
  obtain ⟨gt, g1, g2⟩ := hg.ex
  refine PS.imp (ps_asg h g1 hs hw h1) fun E σ H q => ?_
  obtain ⟨Z, ρ, st, L, S, q⟩ := q
  refine ⟨Z, ρ, st, L, S, PostR.bindS S q fun d st1 v H1 L1 e1 f1 S1 r1 q1 => ?_⟩
  have q1 : PostS G Z W L1 st1 H1 (match g d ρ with | some ρ => .next ρ st1 | none => .stuck) E := q1
  split at q1
  · rename_i ρ' eg
    exact g2 _ _ _ _ _ _ _ ρ' _ S1.env r1 eg fun σ' E' w => q1 σ' H1 L1 Fw.refl ⟨S1.ok, E'⟩
  · exact q1.elim
theorem ms_for {iter : Expr} {body : List Stmt} {fi : DenL} {g : GD} {fb : SDen} {vs : List Nat} (hp : PassesOwn (model X.prog X.w) X.A X.env X.xe) (hc : X.calm = true) (hi : MI G W X tg iter fi) (hg : MG G X tg g vs) (hb : MSs G W X body fb)
    (hs : ∀ x, foldedSetIterable iter X.env x = pure x := by intro _; rfl) : MS G W X (.For tg iter body [] pos) (sFor fi g fb) := by
  obtain ⟨gt, g1, g2⟩ := hg.ex
  refine PS.imp (ps_for hp hc hi g1 hb hs) fun E σ H q => ?_
  obtain ⟨Z, ρ, st, L, S, q⟩ := q
  refine ⟨Z, ρ, st, L, S, ?_⟩
  unfold sFor sOf at q
  revert q
  cases fi ρ st with
  | stuck => exact fun q => q
  | exc c fs st1 => exact fun q H' L' C dd vfs f o hC hd hr => q σ H' L' C dd vfs f (S.to f o) hC hd hr
  | ok items st1 =>
    intro q J H1 L1 f1 o1 hy
    have q : PostS G Z W L st H (forL g fb items ρ st1) E := q
    refine ⟨fun i m σ' H' => ∃ ρ' st' L', m = items.length - i ∧ i ≤ items.length ∧ Fw Z L1 st1 H1 L' st' H' ∧ Stt G Z ρ' st' L' σ' H' ∧ PostS G Z W L' st' H' (forL g fb (items.drop i) ρ' st') E, ⟨items.length, ρ, st1, L1, by simp, Nat.zero_le _, Fw.refl, S.to f1 o1, by rw [List.drop_zero]; exact PostS.on f1 q⟩, ?_⟩
    rintro i m σ' H' ⟨ρ', st', L', rfl, hle, fw, S', q'⟩
    obtain ⟨ys, yi⟩ := hy i Z L' st' H' (fun a z => .inl z) fw S'.ok
    by_cases hi : i < items.length
    · obtain ⟨d, hd⟩ : ∃ d, items[i]? = some d := ⟨_, List.getElem?_eq_getElem hi⟩
      obtain ⟨go, hyl⟩ := yi d hd
      have hdrop : items.drop i = d :: items.drop (i + 1) := by
        rw [List.drop_eq_getElem_cons hi]
        rw [List.getElem?_eq_getElem hi] at hd
        cases hd
        rfl
      rw [hdrop] at q'
      unfold forL at q'
      refine .inr ⟨go, fun σ2 H2 => ∃ ρ' st' L', Fw Z L1 st1 H1 L' st' H2 ∧ Stt G Z ρ' st' L' σ2 H2 ∧ PostS G Z W L' st' H2 (forL g fb (items.drop (i + 1)) ρ' st') E, fun σ2 H2 ⟨ρ2, st2, L2, a1, a2, a3⟩ => ⟨_, by omega, ρ2, st2, L2, rfl, hi, a1, a2, a3⟩, fun x H2 hyx => ?_⟩
      obtain ⟨sm, rx⟩ := hyl x H2 hyx
      have S2 := S'.to (Fw.same sm) (S'.ok.same sm)
      have fw2 := fw.trans (Fw.same sm)
      have q2 := PostS.on (Fw.same sm) q'
      cases eg : g d ρ' with
      | none => rw [eg] at q2; exact q2.elim
      | some ρ1 =>
        rw [eg] at q2
        refine g2 _ _ _ _ _ _ _ ρ1 _ S2.env rx eg fun σ3 E3 w => ⟨Z, ρ1, st', L', ⟨S2.ok, E3⟩, ?_⟩
        have q2 : PostS G Z W L' st' H2 (match fb ρ1 st' with
          | .next ρ st => forL g fb (items.drop (i + 1)) ρ st
          | .cont ρ st => forL g fb (items.drop (i + 1)) ρ st
          | .brk ρ st => .next ρ st
          | r => r) E := q2
        revert q2
        cases fb ρ1 st' with
        | next ρ4 st4 => exact fun q σ4 H4 L4 f4 S4 => ⟨ρ4, st4, L4, fw2.trans f4, S4, PostS.on f4 q⟩
        | cont ρ4 st4 => exact fun q σ4 H4 L4 f4 S4 => ⟨ρ4, st4, L4, fw2.trans f4, S4, PostS.on f4 q⟩
        | brk ρ4 st4 => exact fun q => q
        | ret d4 st4 => exact fun q => q
        | exc c fs ρ4 st4 => exact fun q => q
        | stuck => exact fun q => q
    · have e : i = items.length := by omega
      subst e
      rw [List.drop_length] at q'
      exact .inl ⟨ys (Nat.le_refl _), q' σ' H' L' Fw.refl S'⟩
theorem ms_while {c : Expr} {body : List Stmt} {fc : DenB} {fb : SDen} (n : Nat) (hp : PassesOwn (model X.prog X.w) X.A X.env X.xe) (hc : MT G W X c fc) (hb : MSs G W X body fb) : MS G W X (.While c body [] pos) (sWhile n fc fb) := by
  refine PS.imp (ps_while hp hc hb) fun E σ H q => ?_
  obtain ⟨Z, ρ, st, L, S, q⟩ := q
  have q : PostS G Z W L st H (whileL fc fb n ρ st) E := q
  refine ⟨fun m σ' H' => ∃ ρ' st' L', Stt G Z ρ' st' L' σ' H' ∧ PostS G Z W L' st' H' (whileL fc fb m ρ' st') E, ⟨n, ρ, st, L, S, q⟩, ?_⟩
  rintro m σ' H' ⟨ρ', st', L', S', q'⟩
  cases m with
  | zero => exact q'.elim
  | succ m =>
    unfold whileL at q'
    refine ⟨Z, ρ', st', L', S', ?_⟩
    revert q'
    cases fc ρ' st' with
    | stuck => exact fun q => q
    | exc c fs st1 => exact fun q H2 L2 C dd vfs f o hC hd hr => q σ' H2 L2 C dd vfs f (S'.to f o) hC hd hr
    | ok b st1 =>
      intro q' b' H1 L1 f1 o1 rb
      have rb : b = b' := rb
      subst rb
      have S1 := S'.to f1 o1
      cases b with
      | false => exact q' σ' H1 L1 f1 S1
      | true =>
        refine ⟨fun σ2 H2 => ∃ ρ' st' L', Stt G Z ρ' st' L' σ2 H2 ∧ PostS G Z W L' st' H2 (whileL fc fb m ρ' st') E, fun σ2 H2 h => ⟨m, Nat.lt_succ_self m, h⟩, Z, ρ', st1, L1, S1, ?_⟩
        have q' : PostS G Z W L' st' H' (match fb ρ' st1 with
          | .next ρ st => whileL fc fb m ρ st
          | .cont ρ st => whileL fc fb m ρ st
          | .brk ρ st => .next ρ st
          | r => r) E := q'
        have q' := PostS.on f1 q'
        revert q'
        cases fb ρ' st1 with
        | next ρ4 st4 => exact fun q σ4 H4 L4 f4 S4 => ⟨ρ4, st4, L4, S4, PostS.on f4 q⟩
        | cont ρ4 st4 => exact fun q σ4 H4 L4 f4 S4 => ⟨ρ4, st4, L4, S4, PostS.on f4 q⟩
        | brk ρ4 st4 => exact fun q => q
        | ret d4 st4 => exact fun q => q
        | exc c fs ρ4 st4 => exact fun q => q
        | stuck => exact fun q => q
end
end M
namespace M
open PySem PySem.Spec L2

/-! ### things that are changed -/
def lstAt (i : Nat) (ρ : Env) (st : Sto) : Option (Nat × List D) := match ρ[i]? with
  | some (some (.r n)) => (match st[n]? with | some (.lst ds) => some (n, ds) | _ => none)
  | _ => none
/-- x.m(e) as a statement, x a list of one's own; k what it makes of the list -/
@[simp] def sMut1 (k : List D → D → Option (List D)) (i : Nat) (f : Den) : SDen := fun ρ st => match lstAt i ρ st with
  | none => .stuck
  | some _ => sOf f (fun d ρ st => match lstAt i ρ st with
    | some (n, ds) => (match k ds d with | some es => .next ρ (st.set n (.lst es)) | none => .stuck)
    | none => .stuck) ρ st
@[simp] def setAt (l : Option (Nat × List D)) (j d : D) (ρ : Env) (st : Sto) : SRes := match l with
  | some p => (match j with
    | .int z => (match ixN p.2.length z with | some m => .next ρ (st.set p.1 (.lst (p.2.set m d))) | none => .stuck)
    | _ => .stuck)
  | none => .stuck
/-- x[j] = e -/
@[simp] def sSetIx (i : Nat) (fj fe : Den) : SDen := fun ρ st => sOf fe (fun d ρ st => match lstAt i ρ st with
  | none => .stuck
  | some _ => sOf fj (fun j ρ st => setAt (lstAt i ρ st) j d ρ st) ρ st) ρ st
section
variable {G : Wd} {W : WX} {X : Cx} {Z Z' : Zone} {H H' : Hp} {L L' : List Addr} {st st' : Sto} {tg e : Expr} {pos : Pos}
theorem wr {n : Nat} {a : Addr} {o o' : O} {ho : HO} (S : StOk G Z L st H) (e1 : L[n]? = some a) (e2 : st[n]? = some o) (lo : o.live = true) (h : OOk G (Zof Z L (st.set n o')) (upd H a ho) L a o') (lo' : o'.live = true) :
    Fw Z L st H L (st.set n o') (upd H a ho) ∧ StOk G Z L (st.set n o') (upd H a ho) := by
  have la : Live L st a := ⟨n, o, e1, e2, lo⟩
  have am : a ∈ L := List.mem_of_getElem? e1
  have hl : n < st.length := (List.getElem?_eq_some_iff.mp e2).1
  have fw : Fw Z L st H L (st.set n o') (upd H a ho) := by
    refine ⟨⟨[], by simp, by simp⟩, fun b u e nl => ?_, fun b h => ?_, fun b u z e => ?_, fun m o2 hm e3 l2 => ?_⟩
    · have ne : b ≠ a := fun q => nl (q ▸ la)
      exact .of (by rw [upd_ne ne]; exact e)
    · by_cases q : b = a
      · rw [q, upd_same]; simp
      · rw [upd_ne q]; exact h
    · have ne : b ≠ a := fun q => S.zl a am (q ▸ z)
      rw [upd_ne ne]; exact e
    · rcases getElem?_set_cases e3 with ⟨rfl, rfl, _⟩ | ⟨_, h⟩
      · exact ⟨o, e2, lo⟩
      · exact ⟨o2, h, l2⟩
  refine ⟨fw, by simpa using S.len, S.nd, fun m b u e3 e4 => ?_, fun b z => fw.there b (S.z0 b z), S.zl, fun b m => fw.there b (S.lh b m), S.tb.mono fun b u q z => ⟨by rw [upd_ne fun (y : b = a) => z (.inr (by rw [y]; exact la))]; exact q, (fw.keeps b u q z).2⟩, nt_zk S.z0 S.nt fun b o z e => fw.zk b o z e⟩
  rcases getElem?_set_cases e4 with ⟨rfl, rfl, _⟩ | ⟨ne, h4⟩
  · rw [e1] at e3
    cases e3
    exact h
  · have nb : b ≠ a := fun q => ne (nodup_at S.nd e3 (q ▸ e1))
    exact (S.obj m b u e3 h4).mono fw (by rw [upd_ne nb])
theorem lstAt_some {i : Nat} {ρ : Env} {σ : St} {n : Nat} {ds : List D} (S : Stt G Z ρ st L σ H) (e : lstAt i ρ st = some (n, ds)) : ∃ a vs, σ[i]? = some (some (.ref a)) ∧ L[n]? = some a ∧ st[n]? = some (.lst ds) ∧ H a = some (.lst vs) ∧ Reps G (Zof Z L st) H ds vs := by
  unfold lstAt at e
  split at e
  · rename_i m er
    split at e
    · rename_i es eo
      cases e
      obtain ⟨v, ev, r⟩ := S.env.2 i _ er
      cases r with
      | r r =>
        obtain ⟨vs, h1, h2⟩ := S.ok.obj _ _ _ r eo
        exact ⟨_, vs, ev, r, eo, h1, h2⟩
    · cases e
  · cases e
/-- what a changing method's reading asks -/
def SimM (G : Wd) (k : List D → D → Option (List D)) (r : V → List V → Hp → VK → Prop) : Prop := ∀ Z H ds d es a vs v Q, H a = some (.lst vs) → Reps G Z H ds vs → Rep G Z H d v → k ds d = some es →
  (∀ ws, (∀ Z' H', Keeps Z Z' H H' → Reps G Z' H' es ws) → Q .non (upd H a (.lst ws))) → r (.ref a) [v] H Q
theorem mutS {k : List D → D → Option (List D)} {r : V → List V → Hp → VK → Prop} {i : Nat} {f : Den} (sm : SimM G k r) {σ : St} {H : Hp} {E : Ends} (q : tMS G W (sMut1 k i f) E σ H) :
    tVar i σ H fun x H1 => tyV X.K "list" x H1 ∧ tCons (tM G W f) tNil σ H1 fun xs H2 => r x xs H2 fun _ H3 => E.nx σ H3 := by
  obtain ⟨Z, ρ, st, L, S, q⟩ := q
  unfold sMut1 at q
  cases e0 : lstAt i ρ st with
  | none => rw [e0] at q; exact q.elim
  | some p =>
    rw [e0] at q
    obtain ⟨n, ds⟩ := p
    obtain ⟨a, vs, ev, e1, e2, h1, h2⟩ := lstAt_some S e0
    refine ⟨.ref a, ev, .inl ⟨rfl, vs, .inl (.inl h1)⟩, Z, ρ, st, L, S, PostR.bindS S q fun d st1 v H1 L1 ed f1 S1 r1 q1 => ?_⟩
    have q1 : PostS G Z W L1 st1 H1 (match lstAt i ρ st1 with
      | some (n, ds) => (match k ds d with | some es => .next ρ (st1.set n (.lst es)) | none => .stuck)
      | none => .stuck) E := q1
    cases e3 : lstAt i ρ st1 with
    | none => rw [e3] at q1; exact q1.elim
    | some p =>
      rw [e3] at q1
      obtain ⟨m, ds1⟩ := p
      obtain ⟨b, ws, ev2, g1, g2, k1, k2⟩ := lstAt_some S1 e3
      rw [ev] at ev2
      cases ev2
      have q1 : PostS G Z W L1 st1 H1 (match k ds1 d with | some es => .next ρ (st1.set m (.lst es)) | none => .stuck) E := q1
      cases ek : k ds1 d with
      | none => rw [ek] at q1; exact q1.elim
      | some es =>
        rw [ek] at q1
        refine sm _ H1 ds1 d es a ws v _ k1 k2 r1 ek fun zs hzs => ?_
        have fws : Keeps (Zof Z L1 st1) (Zof Z L1 (st1.set m (.lst es))) H1 (upd H1 a (.lst zs)) := fun b u e z => by
          have la : Live L1 st1 a := ⟨m, _, g1, g2, rfl⟩
          have ne : b ≠ a := fun q => z (.inr (q ▸ la))
          refine ⟨.of (by rw [upd_ne ne]; exact e), fun q => ?_⟩
          rcases q with q | ⟨j, u2, j1, j2, j3⟩
          · exact z (.inl q)
          · rcases getElem?_set_cases j2 with ⟨rfl, rfl, _⟩ | ⟨_, h⟩
            · rw [g1] at j1; exact ne (Option.some.inj j1).symm
            · exact z (.inr ⟨j, u2, j1, h, j3⟩)
        obtain ⟨fw, ok⟩ := wr (o' := .lst es) (ho := .lst zs) S1.ok g1 g2 rfl ⟨zs, upd_same, hzs _ _ fws⟩ rfl
        exact q1 σ _ L1 fw (S1.to fw ok)

theorem ms_mut1 {k : List D → D → Option (List D)} {r : V → List V → Hp → VK → Prop} {i : Nat} {f : Den} {x name : Str} {id : String} {p apos cpos : Pos} (slot : Slot "list" name id) (hty : typeOf (.builtin id) = pure (.type "method_descriptor")) (hm : MtM X id r) (sm : SimM G k r) (hv : PE X (.Name x p) (tVar i)) (he : ME G W X e f)
    (h1 : PE X (.Call (.Attribute (.Name x p) name apos) [e] [] cpos) (tBM X.K "list" r (tVar i) (tCons (tM G W f) tNil))) (hs : swapsWith (.Call (.Attribute (.Name x p) name apos) [e] [] cpos) none pos.line X.env = pure false := by rfl) : MS G W X (.Expr (.Call (.Attribute (.Name x p) name apos) [e] [] cpos) pos) (sMut1 k i f) :=
  PS.imp (ps_expr h1 hs) fun E σ H q => mutS sm q
/-- append -/
noncomputable def kApp (ds : List D) (d : D) : Option (List D) := if ds.length < sizeLine then some (ds ++ [d]) else none
theorem sim_app : SimM G kApp rAppend := fun Z H ds d es a vs v Q h1 h2 h3 ek q => by
  unfold kApp at ek
  split at ek
  · cases ek
    have hl := h2.length
    exact ⟨a, vs, v, rfl, rfl, h1, by omega, q _ fun Z' H' k => (h2.mono k).append (.cons (h3.mono k) .nil)⟩
  · cases ek
/-- extend by a list -/
noncomputable def kExt (ds : List D) (d : D) : Option (List D) := match d with
  | .lst es => if ds.length + es.length ≤ sizeLine then some (ds ++ es) else none
  | _ => none
def rExtR : V → List V → Hp → VK → Prop := fun x vs H Q => ∃ l b xs zs, x = .ref l ∧ vs = [.ref b] ∧ H l = some (.lst xs) ∧ Rd H b (.lst zs) ∧ xs.length + zs.length ≤ sizeLine ∧ Q .non (upd H l (.lst (xs ++ zs)))
theorem mt_extR : MtM X "list.extend" rExtR := by
  intro pins s σ H x vs v us Q I rx rv h
  obtain ⟨l, b, xs, zs, rfl, rfl, hH, hB, hz, q⟩ := h
  cases rx
  obtain ⟨u, rfl, ru⟩ := rv.one
  cases ru
  obtain ⟨z, its, n, r, hl, e⟩ := I.lstM hH
  obtain ⟨z2, its2, n2, r2, e2⟩ := hB.ok I.hok
  have hl2 := r2.length
  have hsz : its.toArray.size + its2.toArray.size ≤ sizeLine := by rw [List.size_toArray, List.size_toArray]; omega
  have hlong : ¬ (!its.toArray.isEmpty && Builtin.List.listTooLong (its.toArray.size + its2.toArray.size)) = true := by
    rw [notLongL hsz, Bool.and_false]
    exact Bool.false_ne_true
  refine call_meets F.slot_list_extend ⟨_, e, rfl⟩ F.entry_list_extend (F.args_list_extend_2 _ _)
    (AutoSeq1.list_extend_list_list_0 l its.toArray n b its2.toArray n2 hlong (by rw [List.size_toArray]; omega) (by omega)) ⟨e, e2, ?_⟩
  refine ⟨.non, _, I.lset (its' := its ++ its2) hH e (by simp) (r.append r2) ?_, rfl, q⟩
  rw [List.length_append]
  omega
theorem sim_ext : SimM G kExt rExtR := fun Z H ds d es a vs v Q h1 h2 h3 ek q => by
  unfold kExt at ek
  split at ek
  · split at ek
    · cases ek
      obtain ⟨b, ws, rfl, g1, g2⟩ := h3.list'
      have hl := h2.length
      have hl2 := g2.length
      exact ⟨a, b, vs, ws, rfl, rfl, h1, g1, by omega, q _ fun Z' H' k => (h2.mono k).append (g2.mono k)⟩
    · cases ek
  · cases ek
theorem ms_app {i : Nat} {f : Den} {x : Str} {p apos cpos : Pos} (hv : PE X (.Name x p) (tVar i)) (he : ME G W X e f)
    (hbase : attributeBase (.Name x p) "append" X.env (eval (.Name x p) X.env) = eval (.Name x p) X.env := by rfl)
    (hfew : ((backTo cpos (starEach [e] X.env)).all (fun x => !x.1) && (backToKw cpos (keywordEach [] X.env)).all (fun x => x.1.isSome)
      && decide ([e].length + ([] : List Keyword).length + (if ([] : List Keyword).isEmpty then 0 else 1) < 30)) = true := by rfl)
    (hline : (apos.endLine == cpos.line) = true := by rfl) (hst : starEach [e] X.env = (false, eval e X.env) :: starEach [] X.env := by rfl) (hplain : (backTo cpos (starEach [] X.env)).any (·.1) = false := by rfl)
    (hs : swapsWith (.Call (.Attribute (.Name x p) "append" apos) [e] [] cpos) none pos.line X.env = pure false := by rfl) : MS G W X (.Expr (.Call (.Attribute (.Name x p) "append" apos) [e] [] cpos) pos) (sMut1 kApp i f) :=
  PS.imp (ps_expr (pe_bm PySem.F.plainAttrs_list PySem.F.slot_list_append PySem.F.type_list_append mt_append hv (pa_cons he pa_nil hst) hbase hfew hline hst hplain) hs) fun E σ H q => mutS sim_app q
theorem ms_ext {i : Nat} {f : Den} {x : Str} {p apos cpos : Pos} (hv : PE X (.Name x p) (tVar i)) (he : ME G W X e f)
    (hbase : attributeBase (.Name x p) "extend" X.env (eval (.Name x p) X.env) = eval (.Name x p) X.env := by rfl)
    (hfew : ((backTo cpos (starEach [e] X.env)).all (fun x => !x.1) && (backToKw cpos (keywordEach [] X.env)).all (fun x => x.1.isSome)
      && decide ([e].length + ([] : List Keyword).length + (if ([] : List Keyword).isEmpty then 0 else 1) < 30)) = true := by rfl)
    (hline : (apos.endLine == cpos.line) = true := by rfl) (hst : starEach [e] X.env = (false, eval e X.env) :: starEach [] X.env := by rfl) (hplain : (backTo cpos (starEach [] X.env)).any (·.1) = false := by rfl)
    (hs : swapsWith (.Call (.Attribute (.Name x p) "extend" apos) [e] [] cpos) none pos.line X.env = pure false := by rfl) : MS G W X (.Expr (.Call (.Attribute (.Name x p) "extend" apos) [e] [] cpos) pos) (sMut1 kExt i f) :=
  PS.imp (ps_expr (pe_bm PySem.F.plainAttrs_list PySem.F.slot_list_extend PySem.F.type_list_extend mt_extR hv (pa_cons he pa_nil hst) hbase hfew hline hst hplain) hs) fun E σ H q => mutS sim_ext q
theorem ixN_some {α : Type} {xs : List α} {z : Int} {m : Nat} (h : ixN xs.length z = some m) : m < xs.length := (ixN_seq h).2.1
theorem ms_setix {x : Str} {i : Nat} {ej : Expr} {fj fe : Den} {p spos : Pos} (hv : PE X (.Name x p) (tVar i)) (hj : ME G W X ej fj) (he : ME G W X e fe)
    (hs : swapsWithSole [.Subscript (.Name x p) ej spos] e pos.line X.env = pure false := by rfl) (hw : swappedStores [.Subscript (.Name x p) ej spos] e X.env = pure none := by rfl)
    (ha : ∀ v, assign (.Subscript (.Name x p) ej spos) X.env v = (do
      let ov ← holding [v] (eval (.Name x p) X.env)
      let iv ← holding [v, ov] (eval ej X.env)
      standAt spos
      holding [v, ov, iv] (setItem ov iv v)
      release [v, ov, iv] []) := by intro _; rfl)
    (h1 : (assignEach [.Subscript (.Name x p) ej spos] X.env).map (·.2) = [assign (.Subscript (.Name x p) ej spos) X.env] := by rfl) :
    MS G W X (.Assign [.Subscript (.Name x p) ej spos] e pos) (sSetIx i fj fe) := PS.imp (ps_asg he (pg_sub hv hj set_list ha) hs hw h1) fun E σ H q => by
  obtain ⟨Z, ρ, st, L, S, q⟩ := q
  refine ⟨Z, ρ, st, L, S, PostR.bindS S q fun d st1 v H1 L1 ed f1 S1 r1 q1 => ?_⟩
  have q1 : PostS G Z W L1 st1 H1 (match lstAt i ρ st1 with
    | none => .stuck
    | some _ => sOf fj (fun j ρ st => setAt (lstAt i ρ st) j d ρ st) ρ st1) E := q1
  cases e0 : lstAt i ρ st1 with
  | none => rw [e0] at q1; exact q1.elim
  | some p =>
    rw [e0] at q1
    obtain ⟨n0, ds0⟩ := p
    obtain ⟨a, vs0, ev, _⟩ := lstAt_some S1 e0
    refine ⟨.ref a, ev, Z, ρ, st1, L1, S1, PostR.bindS S1 q1 fun j st2 y H2 L2 ej f2 S2 r2 q2 => ?_⟩
    have q2 : PostS G Z W L2 st2 H2 (setAt (lstAt i ρ st2) j d ρ st2) E := q2
    unfold setAt at q2
    cases e2 : lstAt i ρ st2 with
    | none => rw [e2] at q2; exact q2.elim
    | some p =>
      rw [e2] at q2
      obtain ⟨n, ds⟩ := p
      obtain ⟨b, vs, ev2, g1, g2, k1, k2⟩ := lstAt_some S2 e2
      rw [ev] at ev2
      cases ev2
      cases j with
      | int z =>
        have q2 : PostS G Z W L2 st2 H2 (match ixN ds.length z with | some m => .next ρ (st2.set n (.lst (ds.set m d))) | none => .stuck) E := q2
        split at q2
        · rename_i m em
          refine ⟨a, vs, z, m, rfl, r2.int', k1, by rw [← k2.length]; exact em, ?_⟩
          have rd := r1.mono f2.keeps
          have fws : Keeps (Zof Z L2 st2) (Zof Z L2 (st2.set n (.lst (ds.set m d)))) H2 (upd H2 a (.lst (vs.set m v))) := fun b u e z => by
            have la : Live L2 st2 a := ⟨n, _, g1, g2, rfl⟩
            have ne : b ≠ a := fun q => z (.inr (q ▸ la))
            refine ⟨.of (by rw [upd_ne ne]; exact e), fun q => ?_⟩
            rcases q with q | ⟨j, u2, j1, j2, j3⟩
            · exact z (.inl q)
            · rcases getElem?_set_cases j2 with ⟨rfl, rfl, _⟩ | ⟨_, h⟩
              · rw [g1] at j1; exact ne (Option.some.inj j1).symm
              · exact z (.inr ⟨j, u2, j1, h, j3⟩)
          obtain ⟨fw, ok⟩ := wr (o' := .lst (ds.set m d)) (ho := .lst (vs.set m v)) S2.ok g1 g2 rfl ⟨_, upd_same, Reps.set (rd.mono fws) m (k2.mono fws)⟩ rfl
          exact q2 σ _ L2 fw (S2.to fw ok)
        · exact q2.elim
      | _ => exact q2.elim
/-- x op= e, ints, texts, tuples -/
@[simp] def sAug (i : Nat) (g : D → D → Option D) (f : Den) : SDen := fun ρ st => match ρ[i]? with
  | some (some (.p d)) => sOf f (fun e ρ st => match g d e with | some z => .next (ρ.set i (some (.p z))) st | none => .stuck) ρ st
  | _ => .stuck
theorem ms_aug {x : Str} {op : Operator} {i : Nat} {g : D → D → Option D} {f : Den} {r : R2} {p : Pos} (ho : OpR X (inplaceOp op) r) (s : Sim2 G g r) (hN : X.N.Nodup) (he : ME G W X e f) (hi : X.N[i]? = some x := by rfl) (hx : Loc X.env.scope x := by first | exact .inl rfl | exact .inr rfl) (hf : X.fn x = true ∨ X.env.scope.names.lookup x = some .local := by first | exact .inl rfl | exact .inr rfl | assumption) :
    MS G W X (.AugAssign (.Name x p) op e pos) (sAug i g f) := PS.imp (ps_aug (ti := r) hN hi hx he ho hf) fun E σ H q => by
  obtain ⟨Z, ρ, st, L, S, q⟩ := q
  unfold sAug at q
  split at q
  · rename_i d ed
    obtain ⟨v, ev, rv⟩ := S.env.2 i _ ed
    cases rv with
    | p rv =>
      refine ⟨v, ev, Z, ρ, st, L, S, PostR.bindS S q fun e2 st1 y H1 L1 e1 f1 S1 r1 q1 => ?_⟩
      have q1 : PostS G Z W L1 st1 H1 (match g d e2 with | some z => .next (ρ.set i (some (.p z))) st1 | none => .stuck) E := q1
      split at q1
      · rename_i z ez
        exact s _ _ _ _ _ _ z _ S1.ok.inn (.rep (rv.mono f1.keeps)) (.rep r1) ez fun w H' e' r' => q1 _ H' L1 (Fw.same e') ⟨S1.ok.same e', (S1.env.mono (Fw.same e')).set i (.p r')⟩
      · exact q1.elim
  · exact q.elim
end
end M
namespace M
open PySem PySem.Spec L2

/-! ### defs: bodies -/
@[simp] def O.refsBelow (k : Nat) : O → Bool
  | .ins _ fs => fs.all fun p => match p.2 with | .r m => decide (m < k) | _ => true
  | .rows ns => ns.all fun m => decide (m < k)
  | _ => true
/-- what is the def's own goes -/
@[simp] def cutOff (k : Nat) (st : Sto) (r : Sto → Res D) : Res D := if ((st.take k).all (O.refsBelow k)) = true then r (st.take k) else .stuck
@[simp] def dFn (n m : Nat) (fb : SDen) : FD := fun ss st => if ss.length = n then (match fb (ss.map some ++ List.replicate (m - n) none) st with
  | .ret d st' => cutOff st.length st' fun s => .ok d s
  | .next _ st' => cutOff st.length st' fun s => .ok .non s
  | .exc c fs _ st' => cutOff st.length st' fun s => .exc c fs s
  | _ => .stuck) else .stuck
section
variable {G : Wd} {W : WX} {X : Cx} {Z Z' : Zone} {H H' : Hp} {L L' : List Addr} {st st' : Sto} {tg e : Expr} {pos : Pos}
theorem zof_take {k : Nat} {a : Addr} (h : Zof Z (L.take k) (st.take k) a) : Zof Z L st a := by
  rcases h with h | ⟨n, o, e1, e2, l⟩
  · exact .inl h
  · have h1 : n < k := by
      have := (List.getElem?_eq_some_iff.mp e1).1
      rw [List.length_take] at this
      omega
    rw [List.getElem?_take_of_lt h1] at e1 e2
    exact .inr ⟨n, o, e1, e2, l⟩
theorem SRepF.cut {k : Nat} : ∀ {fs : List (Str × S)} {vs : List (Str × V)}, SRepF G (Zof Z L st) H L fs vs → (fs.all fun p => match p.2 with | .r m => decide (m < k) | _ => true) = true → SRepF G (Zof Z (L.take k) (st.take k)) H (L.take k) fs vs
  | _, _, .nil, _ => .nil
  | _, _, .cons r t, h => by
    rw [List.all_cons, Bool.and_eq_true] at h
    refine .cons ?_ (SRepF.cut t h.2)
    cases r with
    | p r => exact .p (r.zone fun a z => zof_take z)
    | r e =>
      have h1 : _ < k := of_decide_eq_true h.1
      exact .r (by rw [List.getElem?_take_of_lt h1]; exact e)
    | x e1 e2 e3 e4 => exact .x e1 e2 (e3.zone fun a z => zof_take z) (e4.mono fun a o e z => ⟨.of e, fun q => z (zof_take q)⟩)
theorem RowsAt.cut {k : Nat} : ∀ {ns : List Nat} {as : List Addr}, RowsAt L ns as → (ns.all fun m => decide (m < k)) = true → RowsAt (L.take k) ns as
  | [], [], _, _ => rfl
  | [], _ :: _, r, _ => nomatch r
  | _ :: _, [], r, _ => nomatch r
  | n :: ns, a :: as, r, h => by
    rw [List.all_cons, Bool.and_eq_true] at h
    have r : some a :: as.map some = L[n]? :: ns.map fun n => L[n]? := r
    obtain ⟨r1, r2⟩ := List.cons.inj r
    show some a :: as.map some = (L.take k)[n]? :: ns.map fun n => (L.take k)[n]?
    rw [List.getElem?_take_of_lt (of_decide_eq_true h.1), ← r1, show as.map some = ns.map (fun n => (L.take k)[n]?) from RowsAt.cut r2 h.2]
theorem StOk.cut {k : Nat} (S : StOk G Z L st H) (h : (st.take k).all (O.refsBelow k) = true) : StOk G Z (L.take k) (st.take k) H := by
  refine ⟨by rw [List.length_take, List.length_take, S.len], S.nd.sublist (List.take_sublist _ _), fun n a o e1 e2 => ?_, S.z0, fun a m => S.zl a (List.mem_of_mem_take m), fun a m => S.lh a (List.mem_of_mem_take m), S.tb.zone fun a z => zof_take z, S.nt⟩
  have h1 : n < k := by
    have := (List.getElem?_eq_some_iff.mp e1).1
    rw [List.length_take] at this
    omega
  have ho := List.all_eq_true.mp h o (List.mem_of_getElem? e2)
  rw [List.getElem?_take_of_lt h1] at e1 e2
  have ok := S.obj n a o e1 e2
  cases o with
  | lst ds => obtain ⟨vs, h1, h2⟩ := ok; exact ⟨vs, h1, h2.zone fun a z => zof_take z⟩
  | dic ds => obtain ⟨vs, h1, h2⟩ := ok; exact ⟨vs, h1, h2.zone fun a z => zof_take z⟩
  | diT ds => obtain ⟨vs, h1, h2⟩ := ok; exact ⟨vs, h1, h2.zone fun a z => zof_take z⟩
  | rows ns => obtain ⟨as, h1, h2⟩ := ok; exact ⟨as, h1, h2.cut ho⟩
  | ins c fs => obtain ⟨C, dx, vfs, h1, h2, h3⟩ := ok; exact ⟨C, dx, vfs, h1, h2, h3.cut ho⟩
  | frz d => exact Rep.zone (fun a z => zof_take z) ok
  | dead => trivial
theorem Fw.cut (S : StOk G Z L st H) (f : Fw Z L st H L' st' H') : Fw Z L st H (L'.take st.length) (st'.take st.length) H' ∧ L'.take st.length = L := by
  obtain ⟨M, rfl, hM⟩ := f.pre
  have e : (L ++ M).take st.length = L := by rw [← S.len, List.take_left]
  refine ⟨⟨⟨[], by rw [e, List.append_nil], by simp⟩, f.keep, f.there, f.zk, fun n o' hn e2 l => ?_⟩, e⟩
  have h1 : n < st.length := by rw [← S.len]; exact hn
  rw [List.getElem?_take_of_lt h1] at e2
  exact f.live n o' hn e2 l
theorem env_start {ss : List S} {vs : List V} {N : List Str} (r : SReps G Z H L ss vs) (hn : vs.length ≤ N.length) : EnvOk G Z H L (ss.map some ++ List.replicate (N.length - vs.length) none) (L2.start N vs) := by
  have hl := r.length
  refine ⟨by unfold L2.start; simp [hl], fun i s e => ?_⟩
  by_cases hi : i < ss.length
  · rw [List.getElem?_append_left (by simpa using hi), List.getElem?_map] at e
    obtain ⟨s', h1, h2⟩ := Option.map_eq_some_iff.mp e
    cases h2
    obtain ⟨v, h3, h4⟩ := r.get h1
    refine ⟨v, ?_, h4⟩
    unfold L2.start
    rw [List.getElem?_append_left (by rw [List.length_map]; omega), List.getElem?_map, h3]
    rfl
  · rw [List.getElem?_append_right (by simpa using hi), List.getElem?_replicate] at e
    split at e <;> cases e
end
section
variable {P : Program} {w : World} {K : PySem.W.Frag} {mg : Str → Option Value} {base : Heap} {G : Wd}
theorem okXN {x qual : Str} {st : Stmt} {f : Addr} {fd : FuncData} {N ps : List Str} {k : Nat} {sp : Sp} (F : Fun K x qual st f fd) (S : FnScope N ps (defScope st)) (len : ∀ vs H Q E, sp vs H Q E → vs.length = ps.length)
    (hb : ∀ (cdv : Value) (A : Around) (outer : List PySem.Env) (s : Shared) (H : Hp) (vs : List V) (Q : VK) (E : XK), Room k (A.deeper (PyProof.Rows.envOfC qual (defScope st) s.heap.objs.size f cdv)) → sp vs H Q E →
      ∃ t, PSs (cxOf (L2N.CX P w) P w K mg base N qual (defScope st) f cdv A outer s H E) (defBody st) t ∧ t { nx := fun _ H' => Q .non H', rt := Q } (start N vs) H) : FnOk P w K mg base (L2N.CX P w) (k + 1) f fd ps sp := by
  obtain ⟨oc, od, kV, doc, pm, an, cdv, ct, osl, rfl, lk, hcd⟩ := F.ex
  exact fn_of lk hcd S len fun A outer s H vs Q E hr hsp => hb cdv A outer s H vs Q E hr hsp
theorem takes0N {X : Cx} : L2N.Takes X (fun _ _ _ _ => False) := fun _ _ x => by
  obtain ⟨_, _, _, _, _, _, _, _, _, _, _, _, _, _, _, _, z⟩ := x
  exact z.elim
/-- what is wanted of exceptions in a def's body -/
abbrev WD (E : XK) : WX := fun cls d _ H => E cls d H
theorem spM_body {G : Wd} {n : Nat} {fb : SDen} {vs : List V} {H : Hp} {Q : VK} {E : XK} {N : List Str} (hN : n ≤ N.length) (h : spM G n (dFn n N.length fb) vs H Q E) :
    tMS G (WD E) fb { nx := fun _ H' => Q .non H', rt := Q } (start N vs) H := by
  obtain ⟨hl, Z, ss, st, L, ok, r, q⟩ := h
  have hss : ss.length = n := by rw [r.length]; exact hl
  refine ⟨Z, ss.map some ++ List.replicate (N.length - n) none, st, L, ⟨ok, ?_⟩, ?_⟩
  · rw [← hl]
    exact env_start r (by omega)
  · unfold dFn at q
    rw [if_pos hss] at q
    revert q
    cases fb (ss.map some ++ List.replicate (N.length - n) none) st with
    | stuck => exact fun q => q
    | brk ρ s => exact fun q => q.elim
    | cont ρ s => exact fun q => q.elim
    | next ρ s' =>
      intro q σ' H' L' f' S'
      unfold cutOff at q
      by_cases hc : (s'.take st.length).all (O.refsBelow st.length) = true
      · dsimp only at q
        rw [if_pos hc] at q
        obtain ⟨f2, e⟩ := f'.cut ok
        have o2 := S'.ok.cut hc
        exact q .non H' _ f2 o2 .non
      · dsimp only at q
        rw [if_neg hc] at q
        exact q.elim
    | ret d s' =>
      intro q v H' L' f' o' r'
      unfold cutOff at q
      by_cases hc : (s'.take st.length).all (O.refsBelow st.length) = true
      · dsimp only at q
        rw [if_pos hc] at q
        obtain ⟨f2, e⟩ := f'.cut ok
        exact q v H' _ f2 (o'.cut hc) (r'.zone fun a z => zof_take z)
      · dsimp only at q
        rw [if_neg hc] at q
        exact q.elim
    | exc c fs ρ s' =>
      intro q σ' H' L' C dd vfs f' S' hC hd hr'
      unfold cutOff at q
      by_cases hc : (s'.take st.length).all (O.refsBelow st.length) = true
      · dsimp only at q
        rw [if_pos hc] at q
        obtain ⟨f2, e⟩ := f'.cut ok
        exact q H' _ C dd vfs f2 (S'.ok.cut hc) hC (hd.zone fun a z => zof_take z) (hr'.mono fun a o e z => ⟨.of e, fun q => z (zof_take q)⟩)
      · dsimp only at q
        rw [if_neg hc] at q
        exact q.elim
theorem fn_M {x qual : Str} {s : Stmt} {f : Addr} {fd : FuncData} {N ps : List Str} {k n : Nat} {fb : SDen} (F : Fun K x qual s f fd) (S : FnScope N ps (defScope s)) (hn : ps.length = n) (hN : n ≤ N.length)
    (hbody : ∀ (cdv : Value) (A : Around) (outer : List PySem.Env) (sh : Shared) (H : Hp) (E : XK), Room k (A.deeper (PyProof.Rows.envOfC qual (defScope s) sh.heap.objs.size f cdv)) →
      L2N.Takes (cxOf (L2N.CX P w) P w K mg base N qual (defScope s) f cdv A outer sh H E) (WD E) → PassesOwn (model P w) (A.deeper (PyProof.Rows.envOfC qual (defScope s) sh.heap.objs.size f cdv)) (PyProof.Rows.envOfC qual (defScope s) sh.heap.objs.size f cdv) (cxOf (L2N.CX P w) P w K mg base N qual (defScope s) f cdv A outer sh H E).xe →
      MSs G (WD E) (cxOf (L2N.CX P w) P w K mg base N qual (defScope s) f cdv A outer sh H E) (defBody s) fb) : FnOk P w K mg base (L2N.CX P w) (k + 1) f fd ps (spM G n (dFn n N.length fb)) := by
  exact okXN F S (fun vs H Q E h => by rw [hn]; exact h.1) fun cdv A outer sh H vs Q E hr h => ⟨_, hbody cdv A outer sh H E hr (L2N.takes_of rfl rfl rfl rfl) (passes_of rfl), spM_body hN h⟩
theorem cal_M {x : Str} {s : Stmt} {f : Addr} {fd : FuncData} {ps : List Str} {k n : Nat} {dn : FD} (F : Fun K x x s f fd) (h : FnOk P w K mg base (L2N.CX P w) k f fd ps (spM G n dn)) (hm : mg x = some (.ref f)) (b : Binds K fd ps []) : MCal P w K mg base G k x n dn := ⟨f, fd, ps, h, hm, F.kp, b⟩
theorem MCal.mono {j k : Nat} {x : Str} {n : Nat} {dn : FD} (c : MCal P w K mg base G j x n dn) (h : j ≤ k) : MCal P w K mg base G k x n dn := by
  obtain ⟨f, fd, ps, F, r⟩ := c.ex
  exact ⟨f, fd, ps, F.mono h, r⟩
end

/-! ### calls that hand on things of one's own -/
abbrev DenS := Env → Sto → Res (List S)
@[simp] def aNil : DenS := fun _ st => .ok [] st
@[simp] def aVal (f : Den) (h : DenS) : DenS := fun ρ st => (f ρ st).bind fun d st => (h ρ st).bind fun ds st => .ok (.p d :: ds) st
@[simp] def aRef (i : Nat) (h : DenS) : DenS := fun ρ st => match ρ[i]? with | some (some s) => (h ρ st).bind fun ds st => .ok (s :: ds) st | _ => .stuck
@[simp] def eCallS (n : Nat) (dn : FD) (f : DenS) : Den := fun ρ st => (f ρ st).bind fun ss st => if ss.length = n then dn ss st else .stuck
def PostA (G : Wd) (Z : Zone) (W : WX) (σ : St) (L : List Addr) (st : Sto) (H : Hp) (r : Res (List S)) (Q : List V → Hp → Prop) : Prop := match r with
  | .ok d st' => ∀ v H' L', Fw Z L st H L' st' H' → StOk G Z L' st' H' → SReps G (Zof Z L' st') H' L' d v → Q v H'
  | .exc c fs st' => ExP G Z L st H c fs st' fun cv dd H' => W cv dd σ H'
  | .stuck => False
def tMAS (G : Wd) (W : WX) (f : DenS) : TA := fun σ H Q => ∃ Z ρ st L, Stt G Z ρ st L σ H ∧ PostA G Z W σ L st H (f ρ st) Q
abbrev MAS (G : Wd) (W : WX) (X : Cx) (es : List Expr) (f : DenS) : Prop := PA X es (tMAS G W f)
section
variable {G : Wd} {W : WX} {X : Cx} {Z Z' : Zone} {H H' : Hp} {L L' : List Addr} {st st' : Sto} {e : Expr} {es : List Expr} {pos : Pos}
theorem PostA.on {σ : St} {r : Res (List S)} {Q : List V → Hp → Prop} (f : Fw Z L st H L' st' H') (h : PostA G Z W σ L st H r Q) : PostA G Z W σ L' st' H' r Q := by
  cases r with
  | ok d s => exact fun v H2 L2 g o r => h v H2 L2 (f.trans g) o r
  | exc c fs s => exact ExP.on (P := fun cv dd H' => W cv dd σ H') f h
  | stuck => exact h
theorem PostA.bind {α β : Type} {R : Zone → Hp → α → β → Prop} {σ : St} {r : Res α} {k : α → Sto → Res (List S)} {Q' : List V → Hp → Prop} {Q : β → Hp → Prop}
    (h : PostA G Z W σ L st H (r.bind k) Q') (hk : ∀ d st1 v H1 L1, r = .ok d st1 → Fw Z L st H L1 st1 H1 → StOk G Z L1 st1 H1 → R (Zof Z L1 st1) H1 d v → PostA G Z W σ L1 st1 H1 (k d st1) Q' → Q v H1) : PostR G Z W R σ L st H r Q := by
  cases r with
  | ok d st1 => exact fun v H1 L1 f o rv => hk d st1 v H1 L1 rfl f o rv (PostA.on f h)
  | exc c fs st1 => exact h
  | stuck => exact h
theorem PostA.bindA {σ : St} {r : Res (List S)} {k : List S → Sto → Res (List S)} {Q' Q : List V → Hp → Prop}
    (h : PostA G Z W σ L st H (r.bind k) Q') (hk : ∀ d st1 v H1 L1, r = .ok d st1 → Fw Z L st H L1 st1 H1 → StOk G Z L1 st1 H1 → SReps G (Zof Z L1 st1) H1 L1 d v → PostA G Z W σ L1 st1 H1 (k d st1) Q' → Q v H1) : PostA G Z W σ L st H r Q := by
  cases r with
  | ok d st1 => exact fun v H1 L1 f o rv => hk d st1 v H1 L1 rfl f o rv (PostA.on f h)
  | exc c fs st1 => exact h
  | stuck => exact h
theorem mas_nil : MAS G W X [] aNil := PA.imp pa_nil fun σ H Q q => by
  obtain ⟨Z, ρ, st, L, S, q⟩ := q
  exact q _ H L Fw.refl S.ok .nil
theorem mas_val {f : Den} {h : DenS} (ha : ME G W X e f) (hr : MAS G W X es h) (hs : starEach (e :: es) X.env = (false, eval e X.env) :: starEach es X.env := by rfl) : MAS G W X (e :: es) (aVal f h) := PA.imp (pa_cons ha hr hs) fun σ H Q q => by
  obtain ⟨Z, ρ, st, L, S, q⟩ := q
  refine ⟨Z, ρ, st, L, S, PostA.bind q fun d st1 x H1 L1 e f1 o1 r1 q1 => ?_⟩
  refine ⟨Z, ρ, st1, L1, S.to f1 o1, PostA.bindA q1 fun d2 st2 y H2 L2 e2 f2 o2 r2 q2 => ?_⟩
  exact q2 _ H2 L2 Fw.refl o2 (.cons (.p (r1.mono f2.keeps)) r2)
theorem mas_ref {x : Str} {i : Nat} {h : DenS} {p : Pos} (hv : PE X (.Name x p) (tVar i)) (hr : MAS G W X es h) (hs : starEach ((.Name x p) :: es) X.env = (false, eval (.Name x p) X.env) :: starEach es X.env := by rfl) : MAS G W X ((.Name x p) :: es) (aRef i h) := PA.imp (pa_cons hv hr hs) fun σ H Q q => by
  obtain ⟨Z, ρ, st, L, S, q⟩ := q
  unfold aRef at q
  split at q
  · rename_i s es
    obtain ⟨v, ev, rv⟩ := S.env.2 i _ es
    refine ⟨v, ev, Z, ρ, st, L, S, PostA.bindA q fun d2 st2 y H2 L2 e2 f2 o2 r2 q2 => ?_⟩
    exact q2 _ H2 L2 Fw.refl o2 (.cons (rv.mono f2) r2)
  · exact q.elim
theorem me_callS {k : Nat} {x : Str} {n : Nat} {dn : FD} {p pos : Pos} {f : DenS} (c : MCal X.prog X.w X.K X.mg X.base G k x n dn) (hr : Room k X.A) (tk : L2N.Takes X W) (ha : MAS G W X (e :: es) f) (hg : Gl X x := by rfl)
    (hdb : (x == ("__debug__" : Str)) = false := by decide) (he : starEach (e :: es) X.env = (false, eval e X.env) :: starEach es X.env := by rfl) (hpl : (backTo pos (starEach es X.env)).any (·.1) = false := by rfl) :
    ME G W X (.Call (.Name x p) (e :: es) [] pos) (eCallS n dn f) := by
  obtain ⟨fa, fd, ps, F, hm, kp, b⟩ := c.ex
  refine PE.imp (pe_callS (E := WE W) F hr hg hm kp b (fun σ => L2N.passAt tk σ) ha hdb he hpl) fun σ H Q q => ?_
  obtain ⟨Z, ρ, st, L, S, q⟩ := q
  refine ⟨Z, ρ, st, L, S, ?_⟩
  unfold eCallS at q
  revert q
  cases f ρ st with
  | stuck => exact fun q => q
  | exc c fs s => exact fun q => q
  | ok ss st1 =>
    intro q vs H1 L1 f1 o1 r1
    have q : PostR G Z W (RD G) σ L st H (if ss.length = n then dn ss st1 else .stuck) Q := q
    by_cases hn : ss.length = n
    · rw [if_pos hn] at q
      refine ⟨by rw [← r1.length]; exact hn, Z, ss, st1, L1, o1, r1, ?_⟩
      revert q
      cases dn ss st1 with
      | stuck => exact fun q => q
      | ok d s => exact fun q v H2 L2 g o r => q v H2 L2 (f1.trans g) o r
      | exc c fs s => exact fun q => ExP.on (P := fun cv dd H' => W cv dd σ H') f1 q
    · rw [if_neg hn] at q
      exact q.elim
end

/-! ### lists of one's own made by display, by * -/
@[simp] noncomputable def nLst (f : DenL) : Env → Sto → Res O := fun ρ st => (f ρ st).bind fun ds st => if ds.length ≤ sizeLine then .ok (.lst ds) st else .stuck
section
variable {G : Wd} {W : WX} {X : Cx} {Z Z' : Zone} {H H' : Hp} {L L' : List Addr} {st st' : Sto} {e : Expr} {es : List Expr} {pos : Pos}
theorem FwN.mk_new {p : Addr} {o : HO} {L0 : List Addr} {st0 : Sto} {H0 : Hp} (f : Fw Z L0 st0 H0 L st H) (S : StOk G Z L st H) (h : H p = none) (ho : ∀ xs, o ≠ .tup xs := by intro _ h; cases h) : FwN G Z L0 st0 H0 L st (upd H p o) p :=
  ⟨f.trans (Fw.same (same_new h)), S.enter h ho, by
    cases q : H0 p with
    | none => rfl
    | some u => exact absurd h (f.there p (by rw [q]; simp))⟩
theorem mn_lst {f : DenL} (h : MA G W X es f) : MN G W X (.List es pos) (nLst f) := PE.imp (pe_lst h) fun σ H Q q => by
  obtain ⟨Z, ρ, st, L, S, q⟩ := q
  refine ⟨Z, ρ, st, L, S, ?_⟩
  unfold nLst at q
  revert q
  cases f ρ st with
  | stuck => exact fun q => q
  | exc c fs s => exact fun q => q
  | ok ds st1 =>
    intro q xs H1 L1 f1 o1 r1
    have q : match (if ds.length ≤ sizeLine then .ok (.lst ds) st1 else .stuck : Res O) with
      | .ok o st' => ∀ p H' L', FwN G Z L st H L' st' H' p → OOk G (Zof (fun a => Z a ∨ a = p) L' st') H' L' p o → Q (.ref p) H'
      | .exc c fs st' => ExP G Z L st H c fs st' fun cv dd H' => W cv dd σ H'
      | .stuck => False := q
    by_cases hz : ds.length ≤ sizeLine
    · rw [if_pos hz] at q
      exact ⟨by rw [← r1.length]; exact hz, fun p hp => q p _ L1 (FwN.mk_new f1 o1 hp) ⟨xs, upd_same, r1.mono (keeps_new hp)⟩⟩
    · rw [if_neg hz] at q
      exact q.elim
/-- xs * n, a list of one's own -/
noncomputable def repO (d e : D) : Option O := match d, e with
  | .lst xs, .int k => if k < 4611686018427387904 ∧ -4611686018427387904 < k ∧ xs.length * k.toNat ≤ sizeLine then some (.lst (List.replicate k.toNat xs).flatten) else none
  | _, _ => none
@[simp] noncomputable def nRep (f h : Den) : Env → Sto → Res O := fun ρ st => (f ρ st).bind fun d st => (h ρ st).bind fun e st => match repO d e with | some o => .ok o st | none => .stuck

theorem mn_rep {a b : Expr} {f h : Den} (ha : ME G W X a f) (hb : ME G W X b h) : MN G W X (.BinOp a .Mult b pos) (nRep f h) := PE.imp (pe_op op_repR ha hb) fun σ H Q q => by
  obtain ⟨Z, ρ, st, L, S, q⟩ := q
  refine ⟨Z, ρ, st, L, S, ?_⟩
  unfold nRep at q
  revert q
  cases f ρ st with
  | stuck => exact fun q => q
  | exc c fs s => exact fun q => q
  | ok d st1 =>
    intro q x H1 L1 f1 o1 r1
    refine ⟨Z, ρ, st1, L1, S.to f1 o1, ?_⟩
    have q : match ((h ρ st1).bind fun e st => match repO d e with | some o => .ok o st | none => .stuck : Res O) with
      | .ok o st' => ∀ p H' L', FwN G Z L st H L' st' H' p → OOk G (Zof (fun a => Z a ∨ a = p) L' st') H' L' p o → Q (.ref p) H'
      | .exc c fs st' => ExP G Z L st H c fs st' fun cv dd H' => W cv dd σ H'
      | .stuck => False := q
    revert q
    cases h ρ st1 with
    | stuck => exact fun q => q.elim
    | exc c fs s => exact fun q => ExP.on (P := fun cv dd H' => W cv dd σ H') f1 q
    | ok e st2 =>
      intro q y H2 L2 f2 o2 r2
      have r1 := r1.mono f2.keeps
      have q : match (match repO d e with | some o => .ok o st2 | none => .stuck : Res O) with
        | .ok o st' => ∀ p H' L', FwN G Z L st H L' st' H' p → OOk G (Zof (fun a => Z a ∨ a = p) L' st') H' L' p o → Q (.ref p) H'
        | .exc c fs st' => ExP G Z L st H c fs st' fun cv dd H' => W cv dd σ H'
        | .stuck => False := q
      cases er : repO d e with
      | none => rw [er] at q; exact q.elim
      | some o =>
        rw [er] at q
        have q : ∀ p H' L', FwN G Z L st H L' st2 H' p → OOk G (Zof (fun a => Z a ∨ a = p) L' st2) H' L' p o → Q (.ref p) H' := q
        unfold repO at er
        split at er
        · split at er
          · rename_i hz
            cases er
            obtain ⟨a, vs, rfl, ha, ra⟩ := r1.list'
            have l1 := ra.length
            exact ⟨a, _, vs, rfl, r2.int', ha, by omega, by omega, by rw [← l1]; exact hz.2.2, fun p hp => q p _ L2 (FwN.mk_new (f1.trans f2) o2 hp) ⟨_, upd_same, (ra.rep _).mono (keeps_new hp)⟩⟩
          · cases er
        · cases er
/-- a new thing of one's own as an argument, as a part of a parallel assignment -/
@[simp] def aNew (f : Env → Sto → Res O) (h : DenS) : DenS := fun ρ st => (f ρ st).bind fun o st => (h ρ (st ++ [o])).bind fun ds st2 => .ok (.r st.length :: ds) st2
theorem mas_new {f : Env → Sto → Res O} {h : DenS} (ha : MN G W X e f) (hr : MAS G W X es h) (hs : starEach (e :: es) X.env = (false, eval e X.env) :: starEach es X.env := by rfl) : MAS G W X (e :: es) (aNew f h) := PA.imp (pa_cons ha hr hs) fun σ H Q q => by
  obtain ⟨Z, ρ, st, L, S, q⟩ := q
  refine ⟨Z, ρ, st, L, S, ?_⟩
  unfold aNew at q
  revert q
  cases f ρ st with
  | stuck => exact fun q => q
  | exc c fs s => exact fun q => q
  | ok o st1 =>
    intro q p H1 L1 fn ok
    obtain ⟨f2, o2, e2⟩ := alloc S fn ok
    have q2 : PostA G Z W σ (L1 ++ [p]) (st1 ++ [o]) H1 ((h ρ (st1 ++ [o])).bind fun ds st2 => .ok (.r st1.length :: ds) st2) Q := PostA.on f2 q
    refine ⟨Z, ρ, st1 ++ [o], L1 ++ [p], ⟨o2, e2⟩, PostA.bindA q2 fun ds st2 y H2 L2 e2 f3 o3 r3 q3 => ?_⟩
    refine q3 _ H2 L2 Fw.refl o3 (.cons (.r (f3.get ?_)) r3)
    rw [← fn.ok.len, List.getElem?_append_right (Nat.le_refl _)]
    simp
/-! ### parallel assignments to names -/
def setAll : List Nat → List S → Env → Option Env
  | [], [], ρ => some ρ
  | i :: is, s :: ss, ρ => setAll is ss (ρ.set i (some s))
  | _, _, _ => none
@[simp] def sPar (is : List Nat) (f : DenS) : SDen := fun ρ st => sOf f (fun ss ρ st => match setAll is ss ρ with | some ρ => .next ρ st | none => .stuck) ρ st
theorem PostA.ofS {σ : St} {ρ : Env} {f : DenS} {K : List S → Env → Sto → SRes} {E : Ends} {Q : List V → Hp → Prop} (SS : Stt G Z ρ st L σ H) (h : PostS G Z W L st H (sOf f K ρ st) E)
    (hk : ∀ d st1 v H1 L1, f ρ st = .ok d st1 → Fw Z L st H L1 st1 H1 → Stt G Z ρ st1 L1 σ H1 → SReps G (Zof Z L1 st1) H1 L1 d v → PostS G Z W L1 st1 H1 (K d ρ st1) E → Q v H1) : PostA G Z W σ L st H (f ρ st) Q := by
  unfold sOf at h
  revert h hk
  cases f ρ st with
  | ok d st1 => exact fun h hk v H1 L1 f o rv => hk d st1 v H1 L1 rfl f (SS.to f o) rv (PostS.on f h)
  | exc c fs st1 => exact fun h hk H' L' C dd vfs f o hC hd hr => h σ H' L' C dd vfs f (SS.to f o) hC hd hr
  | stuck => exact fun h hk => h
/-- names set one after another from the left -/
def gsNames : List Nat → TGs
  | [] => gNil
  | i :: is => gCons (gName i) (gsNames is)
theorem gs_names : ∀ {is : List Nat} {ss : List S} {vs : List V} {ρ ρ' : Env} {σ : St} {Z : Zone} {H : Hp} {L : List Addr} {Q : St → Hp → Prop}, EnvOk G Z H L ρ σ → SReps G Z H L ss vs → setAll is ss ρ = some ρ' → (∀ σ', EnvOk G Z H L ρ' σ' → Q σ' H) → gsNames is vs σ H Q
  | [], [], _, ρ, ρ', σ, _, _, _, _, E, .nil, e, q => by
    cases e
    exact ⟨rfl, q σ E⟩
  | i :: is, s :: ss, _, ρ, ρ', σ, Z, H, L, Q, E, .cons r t, e, q => by
    refine ⟨_, _, rfl, ?_⟩
    exact gs_names (E.set i r) t e q
  | [], _ :: _, _, _, _, _, _, _, _, _, _, _, e, _ => by cases e
  | _ :: _, [], _, _, _, _, _, _, _, _, _, _, e, _ => by cases e
theorem ms_parT {ts : List Expr} {f : DenS} {is : List Nat} {k k2 : Nat} {p1 p2 : Pos} {n : Nat} (hK : G.K = X.K) (hc : X.calm = true) (ha : MAS G W X es f) (hg : PGs X ts (gsNames is)) (hn : (assignEach ts X.env).length = n := by rfl) (hst : (assignEach ts X.env).findIdx? (·.1) = none := by rfl) (hlen : is.length = n := by rfl)
    (hs : swapsWithSole [.Tuple ts k p1] (.Tuple es k2 p2) pos.line X.env = pure false := by rfl) (hw : swappedStores [.Tuple ts k p1] (.Tuple es k2 p2) X.env = pure none := by rfl)
    (h1 : (assignEach [.Tuple ts k p1] X.env).map (·.2) = [assign (.Tuple ts k p1) X.env] := by rfl) (hsz : is.length ≤ sizeLine := by rw [sizeLine_eq]; decide) : MS G W X (.Assign [.Tuple ts k p1] (.Tuple es k2 p2) pos) (sPar is f) := PS.imp (ps_asg (pe_tup ha) (pg_tup hc hg hn hst) hs hw h1) fun E σ H q => by
  obtain ⟨Z, ρ, st, L, S, q⟩ := q
  refine ⟨Z, ρ, st, L, S, PostA.ofS (K := fun ss ρ st => match setAll is ss ρ with | some ρ => .next ρ st | none => .stuck) S q fun ss st1 v H1 L1 e1 f1 S1 r1 q1 => ?_⟩
  have q1 : PostS G Z W L1 st1 H1 (match setAll is ss ρ with | some ρ => .next ρ st1 | none => .stuck) E := q1
  split at q1
  · rename_i ρ' eg
    have hl : ∀ (is : List Nat) (ss : List M.S) (ρ ρ' : Env), setAll is ss ρ = some ρ' → ss.length = is.length := by
      intro is
      induction is with
      | nil => intro ss ρ ρ' e; cases ss with | nil => rfl | cons _ _ => cases e
      | cons i is ih => intro ss ρ ρ' e; cases ss with | nil => cases e | cons s ss => exact congrArg (· + 1) (ih ss _ _ e)
    have l1 := hl is ss ρ ρ' eg
    have l2 := r1.length
    refine ⟨by omega, fun p hp => ⟨p, v, rfl, .inl (.inl upd_same), by omega, ?_⟩⟩
    have sm := same_new (o := .tup v) hp
    have f2 : Fw Z L1 st1 H1 L1 st1 (upd H1 p (.tup v)) := Fw.same sm
    exact gs_names (S1.env.mono f2) (r1.mono f2) eg fun σ' E' => q1 σ' _ L1 f2 ⟨S1.ok.same sm, E'⟩
  · exact q1.elim
theorem ms_par2 {i j : Nat} {x y : Str} {a b : Expr} {px py pt : Pos} {kt k2 pt2} {f : DenS} (hc : X.calm = true) (hN : X.N.Nodup) (ha : MAS G W X [a, b] f) (hi : X.N[i]? = some x := by rfl) (hj : X.N[j]? = some y := by rfl) (hij : i ≠ j := by decide)
    (hx : X.env.scope.names.lookup x = some .local := by rfl) (hy : X.env.scope.names.lookup y = some .local := by rfl)
    (hw : swappedStores [.Tuple [.Name x px, .Name y py] kt pt] (.Tuple [a, b] k2 pt2) X.env = pure (some [x, y]) := by rfl)
    (hs : swapsWithSole [.Tuple [.Name x px, .Name y py] kt pt] (.Tuple [a, b] k2 pt2) pos.line X.env = pure false := by rfl) :
    MS G W X (.Assign [.Tuple [.Name x px, .Name y py] kt pt] (.Tuple [a, b] k2 pt2) pos) (sPar [i, j] f) := PS.imp (ps_par hc hN hi hj hij hx hy ha hw hs) fun E σ H q => by
  obtain ⟨Z, ρ, st, L, S, q⟩ := q
  refine ⟨Z, ρ, st, L, S, PostA.ofS (K := fun ss ρ st => match setAll [i, j] ss ρ with | some ρ => .next ρ st | none => .stuck) S q fun ss st1 v H1 L1 e1 f1 S1 r1 q1 => ?_⟩
  have q1 : PostS G Z W L1 st1 H1 (match setAll [i, j] ss ρ with | some ρ => .next ρ st1 | none => .stuck) E := q1
  match ss, r1, q1 with
  | [s1, s2], .cons r1 (.cons r2 .nil), q1 => exact ⟨_, _, rfl, q1 _ H1 L1 Fw.refl ⟨S1.ok, (S1.env.set i r1).set j r2⟩⟩
  | [], _, q1 => exact q1.elim
  | [_], _, q1 => exact q1.elim
  | _ :: _ :: _ :: _, _, q1 => exact q1.elim
theorem ms_par3 {i j l : Nat} {x y z : Str} {a b c : Expr} {px py pz pt : Pos} {kt k2 pt2} {f : DenS} (hc : X.calm = true) (hN : X.N.Nodup) (ha : MAS G W X [a, b, c] f) (hi : X.N[i]? = some x := by rfl) (hj : X.N[j]? = some y := by rfl) (hl : X.N[l]? = some z := by rfl) (hij : i ≠ j := by decide) (hil : i ≠ l := by decide) (hjl : j ≠ l := by decide)
    (hx : X.env.scope.names.lookup x = some .local := by rfl) (hy : X.env.scope.names.lookup y = some .local := by rfl) (hz : X.env.scope.names.lookup z = some .local := by rfl)
    (hw : swappedStores [.Tuple [.Name x px, .Name y py, .Name z pz] kt pt] (.Tuple [a, b, c] k2 pt2) X.env = pure (some [x, y, z]) := by rfl)
    (hs : swapsWithSole [.Tuple [.Name x px, .Name y py, .Name z pz] kt pt] (.Tuple [a, b, c] k2 pt2) pos.line X.env = pure false := by rfl) :
    MS G W X (.Assign [.Tuple [.Name x px, .Name y py, .Name z pz] kt pt] (.Tuple [a, b, c] k2 pt2) pos) (sPar [i, j, l] f) := PS.imp (ps_par3 hc hN hi hj hl hij hil hjl hx hy hz ha hw hs) fun E σ H q => by
  obtain ⟨Z, ρ, st, L, S, q⟩ := q
  refine ⟨Z, ρ, st, L, S, PostA.ofS (K := fun ss ρ st => match setAll [i, j, l] ss ρ with | some ρ => .next ρ st | none => .stuck) S q fun ss st1 v H1 L1 e1 f1 S1 r1 q1 => ?_⟩
  have q1 : PostS G Z W L1 st1 H1 (match setAll [i, j, l] ss ρ with | some ρ => .next ρ st1 | none => .stuck) E := q1
  match ss, r1, q1 with
  | [s1, s2, s3], .cons r1 (.cons r2 (.cons r3 .nil)), q1 => exact ⟨_, _, _, rfl, q1 _ H1 L1 Fw.refl ⟨S1.ok, ((S1.env.set i r1).set j r2).set l r3⟩⟩
  | [], _, q1 => exact q1.elim
  | [_], _, q1 => exact q1.elim
  | [_, _], _, q1 => exact q1.elim
  | _ :: _ :: _ :: _ :: _, _, q1 => exact q1.elim
/-- a constant of the module -/
theorem me_glob {x : Str} {d : D} {v : V} {u : Value} {p : Pos} (hm : X.mg x = some u) (r : RelV v u) (rd : ∀ Z H, Rep G Z H d v) (hg : Gl X x := by rfl) (hd : (x == ("__debug__" : Str)) = false := by decide) : ME G W X (.Name x p) (eC d) := me_c (pe_glob hg hm r hd) rd
theorem me_gint {x : Str} {i : Int} {t : Tok} {p : Pos} (hm : X.mg x = some (.int i t)) (hg : Gl X x := by rfl) (hd : (x == ("__debug__" : Str)) = false := by decide) : ME G W X (.Name x p) (eC (.int i)) := me_c (pe_glob (v := .int i) hg hm ⟨_, rfl⟩ hd) fun _ _ => .int i
theorem me_gstr {x : Str} {i : Str} {t : Tok} {p : Pos} (hm : X.mg x = some (.str i t)) (hg : Gl X x := by rfl) (hd : (x == ("__debug__" : Str)) = false := by decide) : ME G W X (.Name x p) (eC (.str i)) := me_c (pe_glob (v := .str i) hg hm ⟨_, rfl⟩ hd) fun _ _ => .str i
/-- isinstance(e, (T1, T2)) -/
def dIsi2 (T U : String) (d : D) : Option D := (tyName d).bind fun n => (kitB n T).bind fun b => (kitB n U).map fun c => .bl (b || c)
theorem me_isi2 {T U : String} {y z : Str} {p py pz pt : Pos} {k : Nat} {f : Den} (hK : G.K = X.K) (hm : X.mg "isinstance" = none) (hv : bootBuiltins y = some (.type T)) (hv2 : bootBuiltins z = some (.type U)) (hmy : X.mg y = none) (hmz : X.mg z = none) (ha : ME G W X e f)
    (hgy : Gl X y := by rfl) (hny : y ≠ "__name__" := by decide) (hdby : (y == ("__debug__" : Str)) = false := by decide) (hgz : Gl X z := by rfl) (hnz : z ≠ "__name__" := by decide) (hdbz : (z == ("__debug__" : Str)) = false := by decide) (hg : Gl X "isinstance" := by rfl)
    (hs : starEach [e, .Tuple [.Name y py, .Name z pz] k pt] X.env = (false, eval e X.env) :: starEach [.Tuple [.Name y py, .Name z pz] k pt] X.env := by rfl) (hs2 : starEach [.Tuple [.Name y py, .Name z pz] k pt] X.env = (false, eval (.Tuple [.Name y py, .Name z pz] k pt) X.env) :: starEach [] X.env := by rfl)
    (hs3 : starEach [.Name y py, .Name z pz] X.env = (false, eval (.Name y py) X.env) :: starEach [.Name z pz] X.env := by rfl) (hs4 : starEach [.Name z pz] X.env = (false, eval (.Name z pz) X.env) :: starEach [] X.env := by rfl)
    (hpl : (backTo pos (starEach [.Tuple [.Name y py, .Name z pz] k pt] X.env)).any (·.1) = false := by rfl) :
    ME G W X (.Call (.Name "isinstance" p) [e, .Tuple [.Name y py, .Name z pz] k pt] [] pos) (eOp1 (dIsi2 T U) f) :=
  PE.imp (pe_callB call_isiT hg hm (by decide +kernel) (pa_cons ha (pa_cons (pe_tup (pa_cons (pe_bltn (v := .ty T) hgy hmy hv rfl hny hdby) (pa_cons (pe_bltn (v := .ty U) hgz hmz hv2 rfl hnz hdbz) pa_nil hs4) hs3)) pa_nil hs2) hs) (by decide) (by decide) hs hpl) fun σ H Q q => by
    obtain ⟨Z, ρ, st, L, S, q⟩ := q
    refine ⟨Z, ρ, st, L, S, PostR.bind q fun d st1 x H1 L1 e f1 o1 r1 q1 => ?_⟩
    refine ⟨by show 2 ≤ sizeLine; rw [sizeLine_eq]; omega, fun t ht => ?_⟩
    split at q1
    · rename_i w ez
      unfold dIsi2 at ez
      obtain ⟨n, h1, h2⟩ := Option.bind_eq_some_iff.mp ez
      obtain ⟨b, h3, h4⟩ := Option.bind_eq_some_iff.mp h2
      obtain ⟨c, h5, h6⟩ := Option.map_eq_some_iff.mp h4
      subst h6
      have sm := same_new (o := .tup [.ty T, .ty U]) ht
      refine ⟨_, t, [.ty T, .ty U], .type n, [.type T, .type U], b || c, rfl, upd_same, .cons (.ty T) (.cons (.ty U) .nil), View.tyx hK (.rep (r1.mono (Same.keeps sm))) h1, ?_, q1 _ _ L1 (Fw.same sm) (o1.same sm) (.bl _)⟩
      refine kitAny_cons (kit_ty h3) (fun hb => ?_) (fun hb => by rw [hb]; rfl)
      refine kitAny_cons (kit_ty h5) (fun hc => ?_) (fun hc => by rw [hb, hc]; rfl)
      rw [hb, hc]
      exact kitAny_nil
    · exact q1.elim
end

/-! ### for the printed derivations -/
section
variable {G : Wd} {W : WX} {X : Cx}
theorem hu65 {k : Nat} {A : Around} (r : Room k A) : A.units + 65 < cLine := by have := r.un; omega
theorem hu64 {k : Nat} {A : Around} (r : Room k A) : A.units + 64 < cLine := r.units
theorem gsim_name {vs : List Nat} (i : Nat) (hv : i ∈ vs := by decide) : GSim G (gName i) (gN i) vs := fun Z H L d v ρ σ ρ' Q E r e q => by
  cases e
  exact q _ (E.set i (.p r)) (wipe_set hv)
theorem gssim_nil {vs : List Nat} : GsSim G gNil gsNil vs := fun Z H L d v ρ σ ρ' Q E r e q => by
  cases r with
  | nil => cases e; exact ⟨rfl, q σ E rfl⟩
  | cons _ _ => cases e
theorem gssim_cons {ga : TG} {gb : TGs} {g : GD} {h : List D → Env → Option Env} {vs : List Nat} (a2 : GSim G ga g vs) (b2 : GsSim G gb h vs) : GsSim G (gCons ga gb) (gsCons g h) vs := fun Z H L d v ρ σ ρ' Q E r e q => by
  cases r with
  | nil => cases e
  | cons r t =>
    obtain ⟨ρ1, e1, e2⟩ := Option.bind_eq_some_iff.mp e
    refine ⟨_, _, rfl, a2 _ _ _ _ _ _ _ ρ1 _ E r e1 fun σ1 E1 w1 => ?_⟩
    exact b2 _ _ _ _ _ _ _ ρ' _ E1 t e2 fun σ2 E2 w2 => q σ2 E2 (w2.trans w1)
theorem gsim_tup {ga : TGs} {g : List D → Env → Option Env} {vs : List Nat} {n : Nat} {K : PySem.W.Frag} (hK : G.K = K) (a2 : GsSim G ga g vs) : GSim G (gTup K n ga) (gT g n) vs := fun Z H L d v ρ σ ρ' Q E r e q => by
  unfold gT at e
  split at e
  · split at e
    · rename_i ds hl
      obtain ⟨a, ws, rfl, ha, ra⟩ := r.tup'
      exact ⟨a, ws, rfl, hK ▸ ha, by rw [← ra.length]; exact hl, a2 _ _ _ _ _ _ _ ρ' _ E ra e q⟩
    · cases e
  · cases e
end

section
variable {G : Wd} {W : WX} {X : Cx} {pos : Pos}
theorem own_of {f : Env → Sto → Res O} {σ : St} {H : Hp} {Q : VK} (q : tM G W (ePure f) σ H Q) : tMN G W f σ H Q := by
  obtain ⟨Z, ρ, st, L, S, q⟩ := q
  refine ⟨Z, ρ, st, L, S, ?_⟩
  cases ef : f ρ st with
  | stuck => simp only [ePure, ef, Res.bind] at q; exact q
  | exc c fs st1 => simp only [ePure, ef, Res.bind] at q; exact q
  | ok o st1 =>
    simp only [ePure, ef, Res.bind] at q
    intro p H1 L1 fn ok
    have o1 : StOk G Z L1 st1 H1 := fn.ok.shrink fun a z => .inl z
    have zp : ¬ Zof Z L1 st1 p := fun z => by
      rcases z with z | ⟨n, u, e1, _⟩
      · exact S.ok.z0 p z fn.new
      · exact fn.ok.zl p (List.mem_of_getElem? e1) (.inr rfl)
    have zz : ∀ a, Zof Z L1 st1 a → Zof (fun a => Z a ∨ a = p) L1 st1 a := zof_mono fun a z => .inl z
    cases o with
    | lst ds =>
      obtain ⟨vs, h1, h2⟩ := ok
      exact q _ H1 L1 fn.fr o1 (.lst (.inl h1) zp (h2.zone zz))
    | dic ds =>
      obtain ⟨kvs, h1, h2⟩ := ok
      exact q _ H1 L1 fn.fr o1 (.dK (.inl h1) zp (h2.zone zz))
    | diT ds =>
      obtain ⟨kvs, h1, h2⟩ := ok
      exact q _ H1 L1 fn.fr o1 (.dT (.inl h1) zp (h2.zone zz))
    | frz d => exact q _ H1 L1 fn.fr o1 (Rep.zone zz ok)
    | ins c fs => exact q.elim
    | rows ns => exact q.elim
    | dead => exact q.elim
theorem setQ {f : Den} {i : Nat} {σ : St} {H : Hp} {E : Ends} (q : tMS G W (sSet i f) E σ H) : tM G W f σ H fun x H1 => gName i x σ H1 E.nx := by
  obtain ⟨Z, ρ, st, L, S, q⟩ := q
  exact ⟨Z, ρ, st, L, S, PostR.bindS S q fun d st1 v H1 L1 e1 f1 S1 r1 q1 => q1 _ H1 L1 Fw.refl ⟨S1.ok, S1.env.set i (.p r1)⟩⟩
section
variable {tg elt iter : Expr} {ifs : List Expr} {scope : Scope} {own : List (Str × Nat)} {fi : DenL} {gm : GD} {ft : DenB} {fe : Den} {g : TG} {y : Str} {py spos : Pos}
theorem ms_setComp (i : Nat) (hc : X.calm = true) (hN : X.N.Nodup) (hi : MI G W X tg iter fi) (ok : BlkOk X.N X.env.scope scope own) (hsim : GSim G g gm (own.map (·.2)))
    (hg : ∀ (s : Shared) (H : Hp) (C : Addr) (cl : List (Str × Addr)) (fp : List Addr), PG (X.blk s H scope (compEnvC scope cl C X.env) fp) tg g) (ht : ∀ (s : Shared) (H : Hp) (C : Addr) (cl : List (Str × Addr)) (fp : List Addr), MTs G W0 (X.blk s H scope (compEnvC scope cl C X.env) fp) ifs ft)
    (he : ∀ (s : Shared) (H : Hp) (C : Addr) (cl : List (Str × Addr)) (fp : List Addr), ME G W0 (X.blk s H scope (compEnvC scope cl C X.env) fp) elt fe)
    (hsw : swapsWith (.ListComp elt [⟨tg, iter, ifs, 0⟩] scope pos) (some (.Name y py)) spos.line X.env = pure true) (hy : X.N[i]? = some y := by rfl) (hyl : X.env.scope.names.lookup y = some .local := by rfl) (hs : ∀ x, foldedSetIterable iter X.env x = pure x := by intro _; rfl) :
    MS G W X (.Assign [.Name y py] (.ListComp elt [⟨tg, iter, ifs, 0⟩] scope pos) spos) (sSet i (ePure (eComp fi gm ft fe (own.map (·.2))))) :=
  PS.imp (ps_setLc hc hN hy hyl hsw hi ok hg ht he hs) fun E σ H q => comp_core hsim (own_of (setQ q))
theorem ms_newComp (i : Nat) (hc : X.calm = true) (hN : X.N.Nodup) (hi : MI G W X tg iter fi) (ok : BlkOk X.N X.env.scope scope own) (hsim : GSim G g gm (own.map (·.2)))
    (hg : ∀ (s : Shared) (H : Hp) (C : Addr) (cl : List (Str × Addr)) (fp : List Addr), PG (X.blk s H scope (compEnvC scope cl C X.env) fp) tg g) (ht : ∀ (s : Shared) (H : Hp) (C : Addr) (cl : List (Str × Addr)) (fp : List Addr), MTs G W0 (X.blk s H scope (compEnvC scope cl C X.env) fp) ifs ft)
    (he : ∀ (s : Shared) (H : Hp) (C : Addr) (cl : List (Str × Addr)) (fp : List Addr), ME G W0 (X.blk s H scope (compEnvC scope cl C X.env) fp) elt fe)
    (hsw : swapsWith (.ListComp elt [⟨tg, iter, ifs, 0⟩] scope pos) (some (.Name y py)) spos.line X.env = pure true) (hy : X.N[i]? = some y := by rfl) (hyl : X.env.scope.names.lookup y = some .local := by rfl) (hs : ∀ x, foldedSetIterable iter X.env x = pure x := by intro _; rfl) :
    MS G W X (.Assign [.Name y py] (.ListComp elt [⟨tg, iter, ifs, 0⟩] scope pos) spos) (sNew i (eComp fi gm ft fe (own.map (·.2)))) :=
  PS.imp (ps_setLc hc hN hy hyl hsw hi ok hg ht he hs) fun E σ H q => comp_core hsim (newS q)
end
end
section
variable {P : Program} {w : World} {K : PySem.W.Frag} {mg : Str → Option Value} {base : Heap} {G : Wd}
/-- a recursion's ground: nothing is promised there -/
theorem fn_stuck {x qual : Str} {s : Stmt} {f : Addr} {fd : FuncData} {N ps : List Str} {n : Nat} (F : Fun K x qual s f fd) (S : FnScope N ps (defScope s)) (hn : ps.length = n) : FnOk P w K mg base (L2N.CX P w) 1 f fd ps (spM G n fun _ _ => .stuck) := by
  refine okXN F S (fun vs H Q E h => by rw [hn]; exact h.1) fun cdv A outer sh H vs Q E hr h => ⟨tNever, pss_never, ?_⟩
  obtain ⟨hl, Z, ss, st, L, ok, r, q⟩ := h
  exact q
end

/-- the law's promise at its call -/
theorem law_sp {K : PySem.W.Frag} {G : Wd} {dn : FD} {H : Hp} {a : Addr} {ns : List Int} (m : dn [.p (.scr ns)] [] = .ok (.bl true) []) (hS : SqL K H a (ns.map V.int)) (hK : G.K = K := by rfl) (ht : TabZ G.T (fun _ => False) H := by intro p hp; cases hp) : spM G 1 dn [.ref a] H (fun v _ => v = .bl true) fun _ _ _ => False := by
  refine ⟨rfl, fun _ => False, [.p (.scr ns)], [], [], ⟨rfl, .nil, fun n a o e => by simp at e, fun a z => z.elim, fun a m => by simp at m, fun a m => by simp at m, ht.zone fun a z => zof_nil.mp z, fun a z => z.elim⟩, .cons (.p ?_) .nil, ?_⟩
  · rcases hS with h | h
    · exact .scr h fun z => z.elim id fun ⟨n, o, e, _⟩ => by simp at e
    · exact .scrK (hK ▸ h)
  · rw [m]
    exact fun v H' L' _ _ r => r.bl'
end M
namespace M
open PySem PySem.Spec L2
/-! ### the plain side: rules of evaluation -/
theorem kit_NoneType_int : kitB "NoneType" "int" = some false := by decide +kernel
theorem kit_bool_int : kitB "bool" "int" = some true := by decide +kernel
theorem kit_int_int : kitB "int" "int" = some true := by decide +kernel
theorem kit_str_int : kitB "str" "int" = some false := by decide +kernel
theorem kit_tuple_int : kitB "tuple" "int" = some false := by decide +kernel
theorem kit_list_int : kitB "list" "int" = some false := by decide +kernel
theorem kit_dict_int : kitB "dict" "int" = some false := by decide +kernel
theorem kit_NoneType_bool : kitB "NoneType" "bool" = some false := by decide +kernel
theorem kit_bool_bool : kitB "bool" "bool" = some true := by decide +kernel
theorem kit_int_bool : kitB "int" "bool" = some false := by decide +kernel
theorem kit_str_bool : kitB "str" "bool" = some false := by decide +kernel
theorem kit_tuple_bool : kitB "tuple" "bool" = some false := by decide +kernel
theorem kit_list_bool : kitB "list" "bool" = some false := by decide +kernel
theorem kit_dict_bool : kitB "dict" "bool" = some false := by decide +kernel
theorem kit_NoneType_str : kitB "NoneType" "str" = some false := by decide +kernel
theorem kit_bool_str : kitB "bool" "str" = some false := by decide +kernel
theorem kit_int_str : kitB "int" "str" = some false := by decide +kernel
theorem kit_str_str : kitB "str" "str" = some true := by decide +kernel
theorem kit_tuple_str : kitB "tuple" "str" = some false := by decide +kernel
theorem kit_list_str : kitB "list" "str" = some false := by decide +kernel
theorem kit_dict_str : kitB "dict" "str" = some false := by decide +kernel
theorem kit_NoneType_tuple : kitB "NoneType" "tuple" = some false := by decide +kernel
theorem kit_bool_tuple : kitB "bool" "tuple" = some false := by decide +kernel
theorem kit_int_tuple : kitB "int" "tuple" = some false := by decide +kernel
theorem kit_str_tuple : kitB "str" "tuple" = some false := by decide +kernel
theorem kit_tuple_tuple : kitB "tuple" "tuple" = some true := by decide +kernel
theorem kit_list_tuple : kitB "list" "tuple" = some false := by decide +kernel
theorem kit_dict_tuple : kitB "dict" "tuple" = some false := by decide +kernel
theorem kit_NoneType_list : kitB "NoneType" "list" = some false := by decide +kernel
theorem kit_bool_list : kitB "bool" "list" = some false := by decide +kernel
theorem kit_int_list : kitB "int" "list" = some false := by decide +kernel
theorem kit_str_list : kitB "str" "list" = some false := by decide +kernel
theorem kit_tuple_list : kitB "tuple" "list" = some false := by decide +kernel
theorem kit_list_list : kitB "list" "list" = some true := by decide +kernel
theorem kit_dict_list : kitB "dict" "list" = some false := by decide +kernel
theorem kit_NoneType_dict : kitB "NoneType" "dict" = some false := by decide +kernel
theorem kit_bool_dict : kitB "bool" "dict" = some false := by decide +kernel
theorem kit_int_dict : kitB "int" "dict" = some false := by decide +kernel
theorem kit_str_dict : kitB "str" "dict" = some false := by decide +kernel
theorem kit_tuple_dict : kitB "tuple" "dict" = some false := by decide +kernel
theorem kit_list_dict : kitB "list" "dict" = some false := by decide +kernel
theorem kit_dict_dict : kitB "dict" "dict" = some true := by decide +kernel
@[simp] theorem isi_int (d : D) : dIsi "int" d = match d with | .non => some (.bl false) | .bl _ => some (.bl true) | .int _ => some (.bl true) | .str _ => some (.bl false) | .tup _ => some (.bl false) | .lst _ => some (.bl false) | .dic _ => some (.bl false) | _ => none := by
  cases d <;> first | rfl | exact (congrArg (Option.map D.bl) (by first | exact kit_NoneType_int | exact kit_bool_int | exact kit_int_int | exact kit_str_int | exact kit_tuple_int | exact kit_list_int | exact kit_dict_int))
@[simp] theorem isi_bool (d : D) : dIsi "bool" d = match d with | .non => some (.bl false) | .bl _ => some (.bl true) | .int _ => some (.bl false) | .str _ => some (.bl false) | .tup _ => some (.bl false) | .lst _ => some (.bl false) | .dic _ => some (.bl false) | _ => none := by
  cases d <;> first | rfl | exact (congrArg (Option.map D.bl) (by first | exact kit_NoneType_bool | exact kit_bool_bool | exact kit_int_bool | exact kit_str_bool | exact kit_tuple_bool | exact kit_list_bool | exact kit_dict_bool))
@[simp] theorem isi_str (d : D) : dIsi "str" d = match d with | .non => some (.bl false) | .bl _ => some (.bl false) | .int _ => some (.bl false) | .str _ => some (.bl true) | .tup _ => some (.bl false) | .lst _ => some (.bl false) | .dic _ => some (.bl false) | _ => none := by
  cases d <;> first | rfl | exact (congrArg (Option.map D.bl) (by first | exact kit_NoneType_str | exact kit_bool_str | exact kit_int_str | exact kit_str_str | exact kit_tuple_str | exact kit_list_str | exact kit_dict_str))
@[simp] theorem isi_tuple (d : D) : dIsi "tuple" d = match d with | .non => some (.bl false) | .bl _ => some (.bl false) | .int _ => some (.bl false) | .str _ => some (.bl false) | .tup _ => some (.bl true) | .lst _ => some (.bl false) | .dic _ => some (.bl false) | _ => none := by
  cases d <;> first | rfl | exact (congrArg (Option.map D.bl) (by first | exact kit_NoneType_tuple | exact kit_bool_tuple | exact kit_int_tuple | exact kit_str_tuple | exact kit_tuple_tuple | exact kit_list_tuple | exact kit_dict_tuple))
@[simp] theorem isi_list (d : D) : dIsi "list" d = match d with | .non => some (.bl false) | .bl _ => some (.bl false) | .int _ => some (.bl false) | .str _ => some (.bl false) | .tup _ => some (.bl false) | .lst _ => some (.bl true) | .dic _ => some (.bl false) | _ => none := by
  cases d <;> first | rfl | exact (congrArg (Option.map D.bl) (by first | exact kit_NoneType_list | exact kit_bool_list | exact kit_int_list | exact kit_str_list | exact kit_tuple_list | exact kit_list_list | exact kit_dict_list))
@[simp] theorem isi_dict (d : D) : dIsi "dict" d = match d with | .non => some (.bl false) | .bl _ => some (.bl false) | .int _ => some (.bl false) | .str _ => some (.bl false) | .tup _ => some (.bl false) | .lst _ => some (.bl false) | .dic _ => some (.bl true) | _ => none := by
  cases d <;> first | rfl | exact (congrArg (Option.map D.bl) (by first | exact kit_NoneType_dict | exact kit_bool_dict | exact kit_int_dict | exact kit_str_dict | exact kit_tuple_dict | exact kit_list_dict | exact kit_dict_dict))
@[simp] theorem isi2_tl (d : D) : dIsi2 "tuple" "list" d = match d with | .non => some (.bl false) | .bl _ => some (.bl false) | .int _ => some (.bl false) | .str _ => some (.bl false) | .tup _ => some (.bl true) | .lst _ => some (.bl true) | .dic _ => some (.bl false) | _ => none := by
  cases d <;> first | rfl | (simp only [dIsi2, tyName, Option.bind_some, kit_NoneType_tuple, kit_NoneType_list, kit_bool_tuple, kit_bool_list, kit_int_tuple, kit_int_list, kit_str_tuple, kit_str_list, kit_tuple_tuple, kit_tuple_list, kit_list_tuple, kit_list_list, kit_dict_tuple, kit_dict_list, Option.map_some, Bool.or_false, Bool.or_true, Bool.or_self])

@[simp] theorem flat_non {n} : D.flat n .non = true := by cases n <;> rfl
@[simp] theorem flat_bl {n b} : D.flat n (.bl b) = true := by cases n <;> rfl
@[simp] theorem flat_int {n i} : D.flat n (.int i) = true := by cases n <;> rfl
@[simp] theorem flat_str {n x} : D.flat n (.str x) = PyData.strOk x := by cases n <;> rfl
@[simp] theorem flat_tup {n xs} : D.flat (n + 1) (.tup xs) = D.flats n xs := rfl
@[simp] theorem flat_lst {n xs} : D.flat (n + 1) (.lst xs) = D.flats n xs := rfl
@[simp] theorem flats_nil {n} : D.flats n [] = true := by cases n <;> rfl
@[simp] theorem flats_cons {n x xs} : D.flats n (x :: xs) = (D.flat n x && D.flats n xs) := by cases n <;> rfl
theorem flats_all {n : Nat} : ∀ {xs : List D}, D.flats n xs = xs.all (D.flat n)
  | [] => by simp
  | x :: xs => by simp [flats_all (xs := xs)]
def D.eqvs : List D → List D → Bool
  | [], [] => true
  | x :: xs, y :: ys => D.eqv x y && D.eqvs xs ys
  | _, _ => false
theorem eqvAll_pys : ∀ (xs ys : List D), PyData.eqvAll (D.pys xs) (D.pys ys) = D.eqvs xs ys
  | [], [] => by simp [D.pys, D.eqvs, PyData.eqvAll]
  | [], _ :: _ => by simp [D.pys, D.eqvs, PyData.eqvAll]
  | _ :: _, [] => by simp [D.pys, D.eqvs, PyData.eqvAll]
  | x :: xs, y :: ys => by simp only [D.pys, D.eqvs, PyData.eqvAll, eqvAll_pys xs ys, D.eqv]
@[simp] theorem eqv_int (i j : Int) : D.eqv (.int i) (.int j) = (i == j) := by simp [D.eqv, D.py, PyData.eqv]
@[simp] theorem eqv_str (i j : Str) : D.eqv (.str i) (.str j) = (i == j) := by simp [D.eqv, D.py, PyData.eqv]
@[simp] theorem eqv_bl (i j : Bool) : D.eqv (.bl i) (.bl j) = (i == j) := by simp [D.eqv, D.py, PyData.eqv]
@[simp] theorem eqv_nn : D.eqv .non .non = true := by simp [D.eqv, D.py, PyData.eqv]
@[simp] theorem eqv_tt (xs ys : List D) : D.eqv (.tup xs) (.tup ys) = D.eqvs xs ys := by simp only [D.eqv, D.py, PyData.eqv, eqvAll_pys]
@[simp] theorem eqv_ll (xs ys : List D) : D.eqv (.lst xs) (.lst ys) = D.eqvs xs ys := by simp only [D.eqv, D.py, PyData.eqv, eqvAll_pys]
@[simp] theorem eqvs_nn : D.eqvs [] [] = true := rfl
@[simp] theorem eqvs_nc {x xs} : D.eqvs [] (x :: xs) = false := rfl
@[simp] theorem eqvs_cn {x xs} : D.eqvs (x :: xs) [] = false := rfl
@[simp] theorem eqvs_cc {x xs y ys} : D.eqvs (x :: xs) (y :: ys) = (D.eqv x y && D.eqvs xs ys) := rfl
@[simp] theorem eqv_mx1 {b : Bool} {i : Int} {x : Str} {xs ys : List D} : D.eqv (.non) (.bl b) = false := by simp [D.eqv, D.py, PyData.eqv]
@[simp] theorem eqv_mx2 {b : Bool} {i : Int} {x : Str} {xs ys : List D} : D.eqv (.bl b) (.non) = false := by simp [D.eqv, D.py, PyData.eqv]
@[simp] theorem eqv_mx3 {b : Bool} {i : Int} {x : Str} {xs ys : List D} : D.eqv (.non) (.int i) = false := by simp [D.eqv, D.py, PyData.eqv]
@[simp] theorem eqv_mx4 {b : Bool} {i : Int} {x : Str} {xs ys : List D} : D.eqv (.int i) (.non) = false := by simp [D.eqv, D.py, PyData.eqv]
@[simp] theorem eqv_mx5 {b : Bool} {i : Int} {x : Str} {xs ys : List D} : D.eqv (.non) (.str x) = false := by simp [D.eqv, D.py, PyData.eqv]
@[simp] theorem eqv_mx6 {b : Bool} {i : Int} {x : Str} {xs ys : List D} : D.eqv (.str x) (.non) = false := by simp [D.eqv, D.py, PyData.eqv]
@[simp] theorem eqv_mx7 {b : Bool} {i : Int} {x : Str} {xs ys : List D} : D.eqv (.non) (.tup xs) = false := by simp [D.eqv, D.py, PyData.eqv]
@[simp] theorem eqv_mx8 {b : Bool} {i : Int} {x : Str} {xs ys : List D} : D.eqv (.tup xs) (.non) = false := by simp [D.eqv, D.py, PyData.eqv]
@[simp] theorem eqv_mx9 {b : Bool} {i : Int} {x : Str} {xs ys : List D} : D.eqv (.non) (.lst xs) = false := by simp [D.eqv, D.py, PyData.eqv]
@[simp] theorem eqv_mx10 {b : Bool} {i : Int} {x : Str} {xs ys : List D} : D.eqv (.lst xs) (.non) = false := by simp [D.eqv, D.py, PyData.eqv]
@[simp] theorem eqv_mx11 {b : Bool} {i : Int} {x : Str} {xs ys : List D} : D.eqv (.bl b) (.str x) = false := by simp [D.eqv, D.py, PyData.eqv]
@[simp] theorem eqv_mx12 {b : Bool} {i : Int} {x : Str} {xs ys : List D} : D.eqv (.str x) (.bl b) = false := by simp [D.eqv, D.py, PyData.eqv]
@[simp] theorem eqv_mx13 {b : Bool} {i : Int} {x : Str} {xs ys : List D} : D.eqv (.bl b) (.tup xs) = false := by simp [D.eqv, D.py, PyData.eqv]
@[simp] theorem eqv_mx14 {b : Bool} {i : Int} {x : Str} {xs ys : List D} : D.eqv (.tup xs) (.bl b) = false := by simp [D.eqv, D.py, PyData.eqv]
@[simp] theorem eqv_mx15 {b : Bool} {i : Int} {x : Str} {xs ys : List D} : D.eqv (.bl b) (.lst xs) = false := by simp [D.eqv, D.py, PyData.eqv]
@[simp] theorem eqv_mx16 {b : Bool} {i : Int} {x : Str} {xs ys : List D} : D.eqv (.lst xs) (.bl b) = false := by simp [D.eqv, D.py, PyData.eqv]
@[simp] theorem eqv_mx17 {b : Bool} {i : Int} {x : Str} {xs ys : List D} : D.eqv (.int i) (.str x) = false := by simp [D.eqv, D.py, PyData.eqv]
@[simp] theorem eqv_mx18 {b : Bool} {i : Int} {x : Str} {xs ys : List D} : D.eqv (.str x) (.int i) = false := by simp [D.eqv, D.py, PyData.eqv]
@[simp] theorem eqv_mx19 {b : Bool} {i : Int} {x : Str} {xs ys : List D} : D.eqv (.int i) (.tup xs) = false := by simp [D.eqv, D.py, PyData.eqv]
@[simp] theorem eqv_mx20 {b : Bool} {i : Int} {x : Str} {xs ys : List D} : D.eqv (.tup xs) (.int i) = false := by simp [D.eqv, D.py, PyData.eqv]
@[simp] theorem eqv_mx21 {b : Bool} {i : Int} {x : Str} {xs ys : List D} : D.eqv (.int i) (.lst xs) = false := by simp [D.eqv, D.py, PyData.eqv]
@[simp] theorem eqv_mx22 {b : Bool} {i : Int} {x : Str} {xs ys : List D} : D.eqv (.lst xs) (.int i) = false := by simp [D.eqv, D.py, PyData.eqv]
@[simp] theorem eqv_mx23 {b : Bool} {i : Int} {x : Str} {xs ys : List D} : D.eqv (.str x) (.tup xs) = false := by simp [D.eqv, D.py, PyData.eqv]
@[simp] theorem eqv_mx24 {b : Bool} {i : Int} {x : Str} {xs ys : List D} : D.eqv (.tup xs) (.str x) = false := by simp [D.eqv, D.py, PyData.eqv]
@[simp] theorem eqv_mx25 {b : Bool} {i : Int} {x : Str} {xs ys : List D} : D.eqv (.str x) (.lst xs) = false := by simp [D.eqv, D.py, PyData.eqv]
@[simp] theorem eqv_mx26 {b : Bool} {i : Int} {x : Str} {xs ys : List D} : D.eqv (.lst xs) (.str x) = false := by simp [D.eqv, D.py, PyData.eqv]
@[simp] theorem eqv_mx27 {b : Bool} {i : Int} {x : Str} {xs ys : List D} : D.eqv (.tup xs) (.lst ys) = false := by simp [D.eqv, D.py, PyData.eqv]
@[simp] theorem eqv_mx28 {b : Bool} {i : Int} {x : Str} {xs ys : List D} : D.eqv (.lst ys) (.tup xs) = false := by simp [D.eqv, D.py, PyData.eqv]
@[simp] theorem eqv_bi (b : Bool) (j : Int) : D.eqv (.bl b) (.int j) = ((if b then 1 else 0) == j) := by simp [D.eqv, D.py, PyData.eqv]
@[simp] theorem eqv_ib (b : Bool) (j : Int) : D.eqv (.int j) (.bl b) = (j == (if b then 1 else 0)) := by simp [D.eqv, D.py, PyData.eqv]
theorem eqvs_ints : ∀ (a b : List Int), D.eqvs (a.map .int) (b.map .int) = decide (a = b)
  | [], [] => by simp
  | [], _ :: _ => by simp
  | _ :: _, [] => by simp
  | x :: xs, y :: ys => by
    simp only [List.map_cons, eqvs_cc, eqv_int, eqvs_ints xs ys]
    by_cases h : x = y <;> by_cases h2 : xs = ys <;> simp [h, h2]
theorem rngL_eq : ∀ (n : Nat) (lo : Int), rngL lo n = (List.range n).map fun i => D.int (lo + (i : Nat))
  | 0, _ => rfl
  | n + 1, lo => by
    rw [List.range_succ_eq_map, List.map_cons, List.map_map]
    unfold rngL
    rw [rngL_eq n (lo + 1)]
    congr 1
    · simp
    · apply List.map_congr_left
      intro i _
      simp only [Function.comp_apply]
      congr 1
      push_cast
      omega
theorem rngL0 (n : Nat) : rngL 0 n = (List.range n).map fun i => D.int (i : Nat) := by
  rw [rngL_eq]
  apply List.map_congr_left
  intro i _
  congr 1
  omega
/-- a comprehension whose parts leave the store as it is -/
theorem compL_map {α : Type} {g : GD} {ft : DenB} {fe : Den} {ρ : Env} {st : Sto} (enc : α → D) (p : α → Bool) (f : α → D) : ∀ (xs : List α), (∀ x ∈ xs, ∃ ρ1, g (enc x) ρ = some ρ1 ∧ ft ρ1 st = .ok (p x) st ∧ (p x = true → fe ρ1 st = .ok (f x) st)) → compL g ft fe ρ (xs.map enc) st = .ok ((xs.filter p).map f) st
  | [], _ => rfl
  | x :: xs, h => by
    obtain ⟨ρ1, h1, h2, h3⟩ := h x List.mem_cons_self
    have ih := compL_map enc p f xs fun y hy => h y (List.mem_cons_of_mem _ hy)
    rw [List.map_cons]
    unfold compL
    simp only [h1, h2]
    cases hp : p x with
    | true => simp only [h3 hp, ih, Res.bind, List.filter_cons, hp, if_true, List.map_cons]
    | false => simp only [ih, List.filter_cons, hp, Bool.false_eq_true, if_false]
theorem compL_all {α : Type} {g : GD} {fe : Den} {ρ : Env} {st : Sto} (enc : α → D) (f : α → D) (xs : List α) (h : ∀ x ∈ xs, ∃ ρ1, g (enc x) ρ = some ρ1 ∧ fe ρ1 st = .ok (f x) st) : compL g eYes fe ρ (xs.map enc) st = .ok (xs.map f) st := by
  rw [compL_map enc (fun _ => true) f xs fun x hx => by
    obtain ⟨ρ1, h1, h2⟩ := h x hx
    exact ⟨ρ1, h1, rfl, fun _ => h2⟩]
  rw [List.filter_eq_self.mpr (fun _ _ => rfl)]
/-- a for loop by what holds between two turns -/
theorem forL_inv {α : Type} {g : GD} {fb : SDen} (enc : α → D) (I : List α → Env → Sto → Prop) : ∀ (post pre : List α) (ρ : Env) (st : Sto), I pre ρ st →
    (∀ pre x post' ρ st, pre ++ x :: post' = pre ++ x :: post' → I pre ρ st → (∃ a b, a ++ x :: b = pre ++ x :: post' ∧ True) → ∃ ρ1 ρ2 st2, g (enc x) ρ = some ρ1 ∧ (fb ρ1 st = .next ρ2 st2 ∨ fb ρ1 st = .cont ρ2 st2) ∧ I (pre ++ [x]) ρ2 st2) →
    ∃ ρ' st', forL g fb (post.map enc) ρ st = .next ρ' st' ∧ I (pre ++ post) ρ' st'
  | [], pre, ρ, st, h, _ => ⟨ρ, st, rfl, by rw [List.append_nil]; exact h⟩
  | x :: post, pre, ρ, st, h, hs => by
    obtain ⟨ρ1, ρ2, st2, h1, h2, h3⟩ := hs pre x post ρ st rfl h ⟨_, _, rfl, trivial⟩
    obtain ⟨ρ', st', e, r⟩ := forL_inv enc I post (pre ++ [x]) ρ2 st2 h3 hs
    refine ⟨ρ', st', ?_, by rw [List.append_assoc] at r; exact r⟩
    rw [List.map_cons]
    unfold forL
    simp only [h1]
    rcases h2 with h2 | h2 <;> simp only [h2] <;> exact e
/-- .. by the number of turns -/
theorem forL_ix {α : Type} {g : GD} {fb : SDen} (enc : α → D) (xs : List α) (I : Nat → Env → Sto → Prop) {ρ : Env} {st : Sto} (h0 : I 0 ρ st)
    (hs : ∀ i x ρ st, xs[i]? = some x → I i ρ st → ∃ ρ1 ρ2 st2, g (enc x) ρ = some ρ1 ∧ (fb ρ1 st = .next ρ2 st2 ∨ fb ρ1 st = .cont ρ2 st2) ∧ I (i + 1) ρ2 st2) :
    ∃ ρ' st', forL g fb (xs.map enc) ρ st = .next ρ' st' ∧ I xs.length ρ' st' := by
  have go : ∀ (n i : Nat) ρ st, n = xs.length - i → i ≤ xs.length → I i ρ st → ∃ ρ' st', forL g fb ((xs.drop i).map enc) ρ st = .next ρ' st' ∧ I xs.length ρ' st' := by
    intro n
    induction n with
    | zero =>
      intro i ρ st hn hi h
      have : i = xs.length := by omega
      subst this
      rw [List.drop_length]
      exact ⟨ρ, st, rfl, h⟩
    | succ n ih =>
      intro i ρ st hn hi h
      have hl : i < xs.length := by omega
      rw [List.drop_eq_getElem_cons hl, List.map_cons]
      obtain ⟨ρ1, ρ2, st2, h1, h2, h3⟩ := hs i _ ρ st (List.getElem?_eq_getElem hl) h
      obtain ⟨ρ', st', e, r⟩ := ih (i + 1) ρ2 st2 (by omega) hl h3
      refine ⟨ρ', st', ?_, r⟩
      unfold forL
      simp only [h1]
      rcases h2 with h2 | h2 <;> simp only [h2] <;> exact e
  have := go xs.length 0 ρ st (by omega) (Nat.zero_le _) h0
  rw [List.drop_zero] at this
  exact this

@[simp] theorem dInts_map (l : List Int) : dInts (l.map .int) = some l := by
  induction l with
  | nil => rfl
  | cons x l ih => simp [dInts, ih]
@[simp] theorem dInts_map2 {α : Type} (f : α → Int) (l : List α) : dInts (l.map fun x => .int (f x)) = some (l.map f) := by
  induction l with
  | nil => rfl
  | cons x l ih => simp [dInts, ih]
@[simp] theorem dInts_map3 {α : Type} (f : α → Int) (l : List α) : dInts (l.map (D.int ∘ f)) = some (l.map f) := dInts_map2 f l
@[simp] theorem dBools_map2 {α : Type} (f : α → Bool) (l : List α) : dBools (l.map fun x => .bl (f x)) = some (l.map f) := by
  induction l with
  | nil => rfl
  | cons x l ih => simp [dBools, ih]
@[simp] theorem dBools_map3 {α : Type} (f : α → Bool) (l : List α) : dBools (l.map (D.bl ∘ f)) = some (l.map f) := dBools_map2 f l
theorem sz {n : Nat} (h : n ≤ 1000000) : n ≤ sizeLine := by rw [sizeLine_eq]; omega
theorem szlt {n : Nat} (h : n ≤ 1000000) : n < sizeLine := by rw [sizeLine_eq]; omega
/-- a for loop over one name that changes the store alone -/
theorem forL_store {α : Type} {v : Nat} {fb : SDen} {base : Env} (enc : α → D) (xs : List α) (T : Nat → Sto) (hs : ∀ i x, xs[i]? = some x → fb (base.set v (some (.p (enc x)))) (T i) = .next (base.set v (some (.p (enc x)))) (T (i + 1))) :
    ∃ ρ, ρ.set v none = base.set v none ∧ forL (gN v) fb (xs.map enc) base (T 0) = .next ρ (T xs.length) := by
  obtain ⟨ρ', st', e, h1, h2⟩ := forL_ix (g := gN v) (fb := fb) enc xs (fun i ρ st => ρ.set v none = base.set v none ∧ st = T i) (ρ := base) (st := T 0) ⟨rfl, rfl⟩ (by
    rintro i x ρ st hx ⟨h1, rfl⟩
    have e : ρ.set v (some (.p (enc x))) = base.set v (some (.p (enc x))) := by
      have := congrArg (fun l : Env => l.set v (some (.p (enc x)))) h1
      simpa [List.set_set] using this
    refine ⟨ρ.set v (some (.p (enc x))), base.set v (some (.p (enc x))), T (i + 1), rfl, .inl ?_, by simp [List.set_set], rfl⟩
    rw [e]
    exact hs i x hx)
  subst h2
  exact ⟨ρ', h1, e⟩
/-- .. where a turn may return or go on: the first that returns -/
theorem forL_find {α : Type} {v : Nat} {fb : SDen} {base : Env} {st : Sto} (enc : α → D) (r : α → Option D) : ∀ (xs : List α), (∀ x ∈ xs, fb (base.set v (some (.p (enc x)))) st = match r x with | some d => .ret d st | none => .next (base.set v (some (.p (enc x)))) st) →
    ∀ ρ : Env, ρ.set v none = base.set v none → (∃ ρ', ρ'.set v none = base.set v none ∧ forL (gN v) fb (xs.map enc) ρ st = match xs.findSome? r with | some d => .ret d st | none => .next ρ' st)
  | [], _, ρ, h => ⟨ρ, h, rfl⟩
  | x :: xs, hs, ρ, h => by
    have e : ρ.set v (some (.p (enc x))) = base.set v (some (.p (enc x))) := by
      have := congrArg (fun l : Env => l.set v (some (.p (enc x)))) h
      simpa [List.set_set] using this
    have hx := hs x List.mem_cons_self
    rw [List.map_cons]
    unfold forL
    simp only [gN, e, hx]
    cases hr : r x with
    | some d => exact ⟨base, rfl, by simp [hr]⟩
    | none =>
      obtain ⟨ρ', h2, e2⟩ := forL_find enc r xs (fun y hy => hs y (List.mem_cons_of_mem _ hy)) (base.set v (some (.p (enc x)))) (by simp [List.set_set])
      refine ⟨ρ', h2, ?_⟩
      simp only [List.findSome?_cons, hr]
      exact e2
end M
namespace M
open PySem PySem.Spec L2 NdefX PyProof.Rows
/-! ### own exceptions: __init__ that says super().__init__(text) -/
section
open PySem.W
variable {P : Program} {w : World} {K : Frag} {A : Around} {E : Value → Shared → Prop} {h : Heap} {g : Array GenState} {d : Drawn} {t : Nat} {os : OsState}
variable {nm q : Str} {C N : Addr} {bs bm : List Value} {hdct : Bool} {sn : List Str} {sub : List Value} {ab : Bool} {col : Option Bool} {dd : Option Addr} {k0 k1 k2 k3 k5 : Option Value}
theorem call_mw {u e t0 : Addr} {rest : List Value} {Q : Value → Shared → Prop} (hT : ∀ Y : String, bm.contains (.type Y) = HandSPX.veTail.contains (.type Y))
    (hC : h.get? C = some (excClassObj nm q C N bs bm hdct sn sub ab col dd k0 k1 k2 k3 k5 "ValueError.__new__")) (he : h.get? e = some (HandSPX.excO C t0)) (hu : h.get? u = some (kxs_mw "ValueError.__init__" e)) (hrest : rest.length ≤ sizeLine)
    (hq : ∀ h' t1, (∀ b o, b ≠ e → h.get? b = some o → h'.get? b = some o) → h'.get? e = some (HandSPX.excO C t1) → Q .none ⟨h', g, d, t, os⟩) :
    wpAny (model P w) A (call (.ref u) rest) Q E ⟨h, g, d, t, os⟩ := by
  refine wpAny_call (codeAny_of_tree ?_)
  show wpAny _ A.in1 (callAny (.ref u) ⟨rest, []⟩) _ _ _
  simp only [callAny]
  refine wpAny_bind (wpAny_load hu ?_)
  simp only [kxs_mw, show (Value.type "method-wrapper" == Value.type "method" || Value.type "method-wrapper" == Value.type "builtin_function_or_method" || Value.type "method-wrapper" == Value.type "method-wrapper") = true by decide, if_true]
  refine W.KFB.if_so (by decide) ?_
  refine wpAny_bind (ESX.check_bound F.excBase_ValueError hC he rfl ?_)
  refine wpAny_bind (wpAny_pure (wpAny_pure ?_))
  refine ⟨Code.quiet_builtin _ (by decide +kernel), codeAny_builtin F.excBase_ValueError.initEntry ?_⟩
  rw [Around.under_plainId F.excBase_ValueError.init.plain _]
  wp_walk
  refine hq _ h.objs.size (fun b o hb ho => ?_) ?_
  · rw [Heap.get?_update_other _ _ (Ne.symm hb)]
    exact Heap.get?_push_of_some _ ho
  · rw [Heap.get?_update_self _ (Heap.get?_push_of_some _ he) rfl]
    rfl
end
/-- an own class whose __init__ says super().__init__(text), then self.f = x .. -/
structure SupC (P : Program) (K : PySem.W.Frag) (mg : Str → Option Value) (C fI cc cda : Addr) (name qual : Str) (params : Arguments) (body : List Stmt) (scope : Scope) : Prop where
  T : OexC K C
  iC : PySem.W.findIn K (.ref C) "__init__" = some (some (.ref fI))
  tI : PySem.W.typeIn K (.ref fI) = some (.type "function")
  fn : ∃ (oc kV doc pm ct : Value) (an od : Option Addr) (osl : Array (Option Value)), K.lookup fI = some ⟨oc, od, .func (PySem.W.ksFn name qual params body scope .none kV doc pm an (.ref cda) ct cc), osl⟩
  hcd : PySem.W.codeIn K (.ref cda) qual = true
  hcode : ∃ (ccl : Value) (cdd : Option Addr) (vs : Array Value) (ccs : Array (Option Value)) (file : Str) (tf : Tok), K.lookup cda = some ⟨ccl, cdd, .fields vs, ccs⟩ ∧ vs[2]? = some (.str file tf) ∧ ((P.main.file : Str) == file) = true
  hcell : ∃ (cl : Value) (cld : Option Addr) (csl : Array (Option Value)), K.lookup cc = some ⟨cl, cld, .cell (some (.ref C)), csl⟩
  hm : PySem.W.ks_superIn K C C "__init__" = some (some (.builtin "ValueError.__init__"))
  ho : PySem.W.nsIn K PySem.cStatics "thirdparty.any" = some none
  hsub : PySem.W.mroIn K C (.ref C) = some true
  hB : PySem.W.subIn K (.ref C) (.type "ValueError") = some true
  hsup : mg "super" = none
  htop : (P.main.scope.names.lookup ("super" : Str)).isSome = false
section
variable {CX : CXT} {P : Program} {w : World} {K : PySem.W.Frag} {mg : Str → Option Value} {base : Heap} {N ps : List Str} {k : Nat}
theorem init_run {C fI cc cda : Addr} {name qual : Str} {params : Arguments} {scope : Scope} {p0 p1 p2 p3 p4 p5 : Pos} {msg : Str} {j : Nat} {ar : Arg} {rest : List Stmt} {t : TS}
    (F : SupC P K mg C fI cc cda name qual params (.Expr (.Call (.Attribute (.Call (.Name "super" p0) [] [] p1) "__init__" p2) [.Constant (.str msg) j p3] [] p4) p5 :: rest) scope)
    (S : NScope N ps ["__class__"] scope) (hp : (params.posonlyargs ++ params.args).head? = some ar) (hps : ps.head? = some ar.arg) (hks : scope.names.lookup ("super" : Str) = some .globalImplicit)
    (hb : ∀ (kV doc pm ctv : Value) (an : Option Addr) (us : List Value), us.length = ps.length → bindArgs (PySem.W.ksFn name qual params (.Expr (.Call (.Attribute (.Call (.Name "super" p0) [] [] p1) "__init__" p2) [.Constant (.str msg) j p3] [] p4) p5 :: rest) scope .none kV doc pm an (.ref cda) ctv cc) ⟨us, []⟩ = pure (ps.zip us))
    (hbody : ∀ (A : Around) (outer : List PySem.Env) (s : Shared) (H : Hp) (E : XK), Room k (A.deeper (envF ⟨name, qual, params, .Expr (.Call (.Attribute (.Call (.Name "super" p0) [] [] p1) "__init__" p2) [.Constant (.str msg) j p3] [] p4) p5 :: rest, scope, [("__class__", cc)], cda⟩ fI s.heap.objs.size)) →
      PSs (ncx CX P w K mg base N ⟨name, qual, params, .Expr (.Call (.Attribute (.Call (.Name "super" p0) [] [] p1) "__init__" p2) [.Constant (.str msg) j p3] [] p4) p5 :: rest, scope, [("__class__", cc)], cda⟩ fI A outer s H E) rest t)
    {pl : PySem.Env → Sem Bool} (he : ∀ env : PySem.Env, eval (.Call (.Attribute (.Call (.Name "super" p0) [] [] p1) "__init__" p2) [.Constant (.str msg) j p3] [] p4) env = (do
      let ov ← attributeBase (.Call (.Name "super" p0) [] [] p1) "__init__" env (eval (.Call (.Name "super" p0) [] [] p1) env)
      standAt p2.atName
      let (f, first) ← holding [ov] (getMethod ov "__init__" (pl env))
      callWith p4 f first (backTo p4 (starEach [.Constant (.str msg) j p3] env)) []))
    (hi : ∀ env : PySem.Env, env.scope = scope → interactive env = false)
    {A : Around} {outer : List PySem.Env} {s : Shared} {H : Hp} {us : List Value} {vs ws : List V} {a : Addr} {Q : VK} {E : XK} (hr : Room (k + 1) A) (e0 : Env0 P w K mg base A outer s H) (r : Vals vs us) (hl : vs.length = ps.length) (hv : vs = .ref a :: ws) (ha : H a = some (exo a C none))
    (hq : t { nx := fun _ H' => Q .non H', rt := Q } (startF N vs [some (.ref C)]) H) : codeAny (model P w) A (.call (.ref fI) ⟨us, []⟩) (CR CX outer P w H s Q E) s := by
  subst hv
  obtain ⟨oc, kV, doc, pm, ct, an, od, osl, lk⟩ := F.fn
  obtain ⟨ccl, cdd, fvs, ccs, file, tf, hco, hfv, hfile⟩ := F.hcode
  obtain ⟨cl, cld, csl, hce⟩ := F.hcell
  have KB := e0.mod.kin
  have up : ∀ b o, base.get? b = some o → s.heap.get? b = some o := fun b o e => (e0.bs b o e).1
  have KX : K.In s.heap := KB.keeps up
  have lim : s.heap.NoLimit := e0.mod.nolimit.keeps up
  have hHc : H cc = none := (e0.bs _ _ (KB _ _ hce)).2
  have C1 : CellsAt [("__class__", cc)] ["__class__"] [some (V.ref C)] s.heap H := by
    refine ⟨rfl, fun y c e => ?_, fun x y c e1 e2 => ?_, fun i y e => ?_⟩
    · have := PySem.mem_of_lookup e
      simp only [List.mem_singleton, Prod.mk.injEq] at this
      rw [this.2]
      exact ⟨hHc, _, _, KX _ _ hce, rfl⟩
    · have h1 := PySem.mem_of_lookup e1
      have h2 := PySem.mem_of_lookup e2
      simp only [List.mem_singleton, Prod.mk.injEq] at h1 h2
      rw [h1.1, h2.1]
    · match i, e with
      | 0, e =>
        cases e
        exact ⟨cc, rfl, fun v ev => by cases ev; exact ⟨.ref C, rfl, _, KX _ _ hce, rfl⟩⟩
  have hlu : us.length = ps.length := by rw [← r.length]; exact hl
  have hC := F.T.cls
  obtain ⟨nm, q, NC, bs, bm, sn, sub, ab, col, dd, k0, k1, k2, k3, k5, hC, hbm⟩ := hC
  have hcl : PySem.W.clsIn K C = some { name := nm, bases := bs, mro := .ref C :: bm, ns := NC, qualname := q, hasDict := true, slotNames := sn, subclasses := sub, abstract := ab, collection := col, hasDel := false } := by unfold PySem.W.clsIn; rw [hC] <;> rfl
  obtain ⟨t1, hoa⟩ := exo_at e0.hok ha
  have hzl : ∀ x ∈ ps, scope.names.lookup x = some .local := S.par
  refine PySem.ks_codeAny_call_defAt (fd := PySem.W.ksFn name qual params _ scope .none kV doc pm an (.ref cda) ct cc) (binds := ps.zip us) hr.depth (KX _ _ lk) rfl lim (PySem.W.codeRec_of KX F.hcd) rfl ?_ S.nocell (fun ⟨n, _⟩ hy => hzl n (List.of_mem_zip hy).1) (fun h₁ hns kp => ?_) S.co S.gen S.kind
  · intro M A E Q hQ
    rw [hb kV doc pm ct an us hlu]
    exact wpAny_pure hQ
  have I := inv_startN (CX := CX) (P := P) (w := w) (mg := mg) (base := base) (E := E) (f := fI) (tk := s.toks + (ps.zip us).length) (F := ⟨name, qual, params, .Expr (.Call (.Attribute (.Call (.Name "super" p0) [] [] p1) "__init__" p2) [.Constant (.str msg) j p3] [] p4) p5 :: rest, scope, [("__class__", cc)], cda⟩) S hr.hd e0 hl r C1 hns kp
  obtain ⟨hp0, g, d, tk, os⟩ := s
  have X1 : K.In h₁ := KX.keeps kp
  obtain ⟨mb, hb1, hb2⟩ := e0.mod.blt
  have hC1 : h₁.get? C = some (excClassObj nm q C NC bs bm true sn sub ab col dd k0 k1 k2 k3 k5 "ValueError.__new__") := X1 _ _ hC
  have ha1 : h₁.get? a = some (HandSPX.excO C t1) := kp _ _ hoa
  have hlk : (ps.zip us).reverse.lookup ar.arg = some (.ref a) := by
    cases us with
    | nil => cases r
    | cons u us =>
      cases r with
      | cons r1 r2 =>
        obtain rfl : u = Value.ref a := r1
        cases ps with
        | nil => simp at hps
        | cons y ps =>
          simp only [List.head?_cons, Option.some.injEq] at hps
          subst hps
          have ndP : (ar.arg :: ps).Nodup := by
            have z := S.nd.sublist (List.take_sublist ((ar.arg :: ps).length + 1) N)
            rw [show N.take ((ar.arg :: ps).length + 1) = _ from S.pre] at z
            exact (List.nodup_append.mp z).1
          exact zip_look ndP (i := 0) rfl rfl
  have hne : a ≠ C := fun z => by
    rw [z] at ha1
    rw [ha1] at hC1
    cases hC1
  refine PySem.ks_wpAt_execs_cons (PySem.ks_wpAt_Expr_any (PySem.ks_wpAt_MethodCall (he := he _) (PySem.ks_wpAt_super_base (show scope.names.lookup ("super" : Str) = some .globalImplicit from hks) (show scope.names.lookup ("__class__" : Str) = some .free from S.frk _ (by simp)) rfl rfl (X1 _ _ lk) rfl hp rfl (X1 _ _ hco) rfl hfv hfile F.htop ?_)) (hi := hi _ rfl))
  refine PySem.W.ks_loadName_global S.kind hks (PySem.Calls.loadGlobal_builtin ((e0.mod.glob.keeps up).keeps kp) F.hsup ((hb1.keeps up).keeps kp) ((hb2 _ (by decide)).trans (by rfl)) ⟨rfl, ?_⟩)
  refine wpAny_loadName_free S.kind (S.frk _ (by simp)) rfl ⟨_, X1 _ _ hce, rfl⟩ ?_
  refine wpAny_loadName_local S.kind (hzl _ (List.mem_of_mem_head? hps)) hns hlk ?_
  refine PySem.ks_wpAny_isType_cls hC1 rfl ⟨rfl, ?_⟩
  refine PySem.ks_wpAny_call_super hC1 rfl ha1 rfl (fun c z => by cases z) (PySem.W.looks_mroIn X1 F.hsub) (fun h' e k => ?_)
  have X2 : K.In h' := X1.keeps k
  have ha2 := k _ _ ha1
  have IA : PySem.W.InstAt h' a (HandSPX.excO C t1) C none := ⟨ha2, rfl, rfl, trivial⟩
  have hf := F.hm
  unfold PySem.W.ks_superIn at hf
  rw [hcl] at hf
  refine PySem.W.kxs_getMethod PySem.W.kxs_ValueError e (PySem.W.looks_opaque X2 F.ho) (l₀ := .ref C :: bm) (fun A Q E s k q => wpAny_bind ((PySem.W.looks_clsIn X2 hcl) A _ E s k (wpAny_pure q))) rfl X2 hf (IA.type.andThen (PySem.W.looks_subIn X2 F.hB)) hne rfl ?_
  refine PySem.W.kxs_callWith (i := "ValueError.__init__") (x := a) rfl (PySem.Calls.evalArgs_plain (PySem.Calls.spliced_cons (PySem.Calls.Constant_str (k := j) (pos := p3) (PySem.Calls.spliced_nil ⟨Heap.get?_push_size _ rfl, ?_⟩))))
  refine call_mw (PySem.HandSPX.refsVE_contains · bm hbm) (Heap.get?_push_of_some _ (k _ _ hC1)) (Heap.get?_push_of_some _ ha2) (Heap.get?_push_size _ rfl) (by show 1 ≤ sizeLine; rw [sizeLine_eq]; omega) fun h2 t2 k2 e2 => ?_
  have I2 := I.kept (h' := h'.push (PySem.W.kxs_mw "ValueError.__init__" a)) (t' := tk + (ps.zip us).length + 1) fun b o z => Heap.get?_push_of_some _ (k b o z)
  have J := I2.write (t' := tk + (ps.zip us).length + 1 + 1) (x := a) (e := a) (o := exo a C none) (h' := h2) (by rw [ha]; exact True.intro) (.inl rfl) k2 ⟨_, e2⟩ (exo_ok e2)
  have eu : upd H a (exo a C none) = H := by
    funext b
    by_cases hb : b = a
    · rw [hb, upd_same, ha]
    · rw [upd_ne hb]
  rw [eu] at J
  refine PySem.wpAt_of_wpAny ?_
  have hb2 := hbody A outer ⟨hp0, g, d, tk, os⟩ H E (hr.deeper _)
  refine wpAny_mono (hb2.run [] _ _ H _ J hq) (fun fl s' hs => ?_) fun e s' hs => hs
  have fin : ∀ {σ' : L2.St} {H' : Hp} {v : V} {u : Value}, Inv (ncx CX P w K mg base N ⟨name, qual, params, .Expr (.Call (.Attribute (.Call (.Name "super" p0) [] [] p1) "__init__" p2) [.Constant (.str msg) j p3] [] p4) p5 :: rest, scope, [("__class__", cc)], cda⟩ fI A outer ⟨hp0, g, d, tk, os⟩ H E) [] σ' H' s' → L2.RelV v u → Q v H' → CE outer P w H ⟨hp0, g, d, tk, os⟩ Q u s' :=
    fun {σ' H' v u} J rv q => ⟨v, H', J.os, J.bare, J.base, J.hok, rv, q⟩
  cases fl with
  | ret u =>
    obtain ⟨v, σ', H', J, rv, q⟩ := hs
    exact fin J rv q
  | next =>
    obtain ⟨σ', H', J, q⟩ := hs
    exact fin (v := V.non) (u := Value.none) J rfl q
  | brk =>
    obtain ⟨_, _, _, q⟩ := hs
    exact False.elim q
  | cont =>
    obtain ⟨_, _, _, q⟩ := hs
    exact False.elim q
end
end M
namespace M
open PySem PySem.Spec L2 NdefX PyProof.Rows
/-- what __init__ leaves: the fields fs in a new dict; no field, no dict -/
def IniPost (a C : Addr) (H : Hp) (fs : List (Str × V)) (H' : Hp) : Prop := match fs with
  | [] => H' = H
  | _ => ∃ dx, H dx = none ∧ dx ≠ a ∧ H' a = some (exo a C (some dx)) ∧ H' dx = some (exd dx fs) ∧ ∀ b, b ≠ a → b ≠ dx → H' b = H b
/-- the promise of an __init__ -/
def IniOk (P : Program) (w : World) (K : PySem.W.Frag) (mg : Str → Option Value) (base : Heap) (CX : CXT) (k : Nat) (C fI : Addr) (n : Nat) (fl : List V → List (Str × V)) : Prop :=
  ∀ (A : Around) (outer : List PySem.Env) (s : Shared) (H : Hp) (us : List Value) (a : Addr) (ws : List V) (Q : VK) (E : XK), Room k A → Env0 P w K mg base A outer s H → Vals (.ref a :: ws) us → ws.length = n → H a = some (exo a C none) →
    (∀ H', IniPost a C H (fl ws) H' → Q .non H') → codeAny (model P w) A (.call (.ref fI) ⟨us, []⟩) (CR CX outer P w H s Q E) s
theorem IniOk.mono {P : Program} {w : World} {K : PySem.W.Frag} {mg : Str → Option Value} {base : Heap} {CX : CXT} {j k : Nat} {C fI : Addr} {n : Nat} {fl : List V → List (Str × V)} (h : IniOk P w K mg base CX j C fI n fl) (e : j ≤ k) : IniOk P w K mg base CX k C fI n fl :=
  fun A outer s H us a ws Q E hr => h A outer s H us a ws Q E (hr.mono e)
section
variable {X : Cx} {C fI : Addr} {k n : Nat} {fl : List V → List (Str × V)}
/-- the end of C(..) where no field was written -/
theorem mk_end1 {pins : List (Addr × Obj)} {σ : L2.St} {H1 : Hp} {hp hp2 h2 : Heap} {g1 g2 : Array GenState} {d1 d2 : Drawn} {t1 t2 : Nat} {os1 os2 : OsState} {a C : Addr} (I1 : Inv X pins σ H1 ⟨hp, g1, d1, t1, os1⟩)
    (ha : hp.objs.size ≤ a) (k : ∀ b o, hp.get? b = some o → hp2.get? b = some o) (un : Un (frs X.stack) [] (upd H1 a (exo a C none)) (upd H1 a (exo a C none)) hp2 h2) (hok : HOk X.prog X.w (upd H1 a (exo a C none)) h2) (ho : os2 = os1) (hb : AllBare g2) :
    ∃ (t0 : Addr) (G : Heap), Inv X pins σ H1 ⟨G, g2, d2, t2, os2⟩ ∧ (∀ b o, G.get? b = some o → h2.get? b = some o) ∧ G.get? a = none ∧
      h2.get? a = some ({ cls := .ref C, dict := none, data := .fields #[.ref t0, .none, .none, .none, .bool false, .none] } : Obj) := by
  obtain ⟨t0, hoe⟩ := exo_at hok upd_same
  have hn : H1 a = none := I1.hok.fresh ha
  obtain ⟨G, g1', g2'⟩ := restrict h2 fun b => decide (b ≠ a)
  have gk : ∀ b, b ≠ a → G.get? b = h2.get? b := fun b hb => g1' b (decide_eq_true hb)
  have ge : G.get? a = none := g2' a (by simp)
  have nha : ∀ {b : Addr} {o : Obj}, hp.get? b = some o → b ≠ a := fun {b o} z => Nat.ne_of_lt (Nat.lt_of_lt_of_le (Heap.lt_size z) ha)
  have up : ∀ {b : Addr}, b ≠ a → H1 b = none → upd H1 a (exo a C none) b = none := fun {b} hb n => by rw [upd_ne hb]; exact n
  have U : Un (frs X.stack) [] H1 H1 hp G := {
    keep := fun b o z n hf hx => by
      rw [gk b (nha z)]
      exact un.keep b o (k b o z) (up (nha z) n) hf hx
    slot := fun b o z n hf hx => by
      rw [gk b (nha z)]
      exact un.slot b o (k b o z) (up (nha z) n) hf hx
    free := fun b o z n hx => n
    there := fun b o z hx => by
      rw [gk b (nha z)]
      exact un.there b o (k b o z) hx
    tups := fun b xs z => z
    frzs := fun b o v z => z
    tbls := fun b ps z => ⟨#[], by rw [z]; simp⟩ }
  have hok3 : HOk X.prog X.w H1 G := fun b o z => by
    have hba : b ≠ a := fun e => by rw [e, hn] at z; cases z
    have z2 : upd H1 a (exo a C none) b = some o := by rw [upd_ne hba]; exact z
    have noa : ∀ {c : Addr}, upd H1 a (exo a C none) c = some (.own b) → c ≠ a := fun {c} hc => at_ne upd_same hc exo_own
    exact (hok b o z2).stay (fun c v hc y => by
        have hca : c ≠ a := by
          rcases hc with hc | hc
          · rw [hc]
            exact hba
          · exact noa hc
        rw [gk c hca]
        exact y)
      (fun c hc => by have := noa hc; rw [upd_ne this] at hc; exact hc) (fun c xs hc => by
        have : c ≠ a := at_ne upd_same hc exo_tup
        rw [upd_ne this] at hc
        exact hc)
  exact ⟨t0, G, I1.call' (ch := []) ho U hok3 hb (fun b z => absurd z (by simp)), fun b o z => by
    by_cases hba : b = a
    · rw [hba, ge] at z
      cases z
    · exact (gk b hba).symm.trans z, ge, hoe⟩
/-- C(..), its fields -/
def tMkS (C : Addr) (n : Nat) (fl : List V → List (Str × V)) (ta : TA) : L2.St → Hp → XK → Prop := fun σ H Q => ta σ H fun vs H1 => vs.length = n ∧
  (fl vs = [] → Q (.ref C) none H1) ∧ (fl vs ≠ [] → ∀ d, H1 d = none → Q (.ref C) (some d) (upd H1 d (.xd (fl vs))))
theorem mk_call {pins : List (Addr × Obj)} {σ : L2.St} {H1 : Hp} {s1 : Shared} {us : List Value} {vs : List V} {Q : XK} (T : OexC X.K C) (iC : PySem.W.findIn X.K (.ref C) "__init__" = some (some (.ref fI))) (tI : PySem.W.typeIn X.K (.ref fI) = some (.type "function"))
    (F1 : IniOk X.prog X.w X.K X.mg X.base (fun _ _ _ _ _ _ => False) k C fI n fl) (hr : Room (k + 1) X.A) (hn9 : n ≤ 1000) (I1 : Inv X pins σ H1 s1) (r1 : Vals vs us) (hl : vs.length = n)
    (q1 : fl vs = [] → Q (.ref C) none H1) (q2 : fl vs ≠ [] → ∀ d, H1 d = none → Q (.ref C) (some d) (upd H1 d (.xd (fl vs)))) : wpAny (model X.prog X.w) X.A (call (.ref C) us) (L2N.MkP X pins σ Q) X.xe s1 := by
  obtain ⟨nm, q, N, bs, bm, sn, sub, ab, col, dd, k0, k1, k2, k3, k5, hC, hbm⟩ := T.cls
  obtain ⟨hp, g, dr, tk, os⟩ := s1
  have hsz : hp.objs.size ≤ hp.objs.size + 1 := Nat.le_succ _
  have hn : H1 (hp.objs.size + 1) = none := I1.hok.fresh hsz
  have kk : ∀ b o, hp.get? b = some o → ((hp.push (PySem.W.kdv_tup us)).push (PySem.HandSPX.excO C hp.objs.size)).get? b = some o := fun b o e => Heap.get?_push_of_some _ (Heap.get?_push_of_some _ e)
  have hget : ((hp.push (PySem.W.kdv_tup us)).push (PySem.HandSPX.excO C hp.objs.size)).get? (hp.objs.size + 1) = some (PySem.HandSPX.excO C hp.objs.size) := by heap_get
  have I2 : Inv X pins σ (upd H1 (hp.objs.size + 1) (exo (hp.objs.size + 1) C none)) ⟨(hp.push (PySem.W.kdv_tup us)).push (PySem.HandSPX.excO C hp.objs.size), g, dr, tk, os⟩ :=
    I1.laid (t' := tk) (a := hp.objs.size + 1) (o := exo (hp.objs.size + 1) C none) (h' := (hp.push (PySem.W.kdv_tup us)).push (PySem.HandSPX.excO C hp.objs.size)) kk hsz (exo_ok hget)
  have hus : us.length ≤ sizeLine := by
    rw [← Paired.length r1, sizeLine_eq]
    omega
  refine wpAny_call (PySem.HandSPX.call_own F.excBase_ValueError (fun Y => PySem.HandSPX.refsVE_contains Y bm hbm) (I1.kIn _ _ hC) (PySem.W.looks_findIn I1.kIn iC) (fun self => PySem.W.bind_fn I1.kIn self tI) hus
    (codeAny_mono (F1 _ X.stack _ _ (Value.ref (hp.objs.size + 1) :: us) (hp.objs.size + 1) vs (fun v H2 => v = .non ∧ IniPost (hp.objs.size + 1) C (upd H1 (hp.objs.size + 1) (exo (hp.objs.size + 1) C none)) (fl vs) H2) (fun _ _ _ => False) (hr.make C us []) (I2.env0.make C us []) (.cons rfl r1) hl upd_same fun H' h => ⟨rfl, h⟩) fun r s' hq' => ?_))
  cases r with
  | error er => exact (show False from hq').elim
  | ok fl2 =>
    cases fl2 with
    | ret u =>
      obtain ⟨v, H2, os2, bare2, un2, hok2, rv, ev, post⟩ := hq'
      subst ev
      obtain ⟨h2, g2, d2, t2, os'⟩ := s'
      refine ⟨rv, ?_⟩
      cases hf : fl vs with
      | nil =>
        rw [hf] at post
        have e2 : H2 = upd H1 (hp.objs.size + 1) (exo (hp.objs.size + 1) C none) := post
        subst e2
        obtain ⟨t0, G, J, kG, ge, hoe⟩ := mk_end1 (d2 := d2) (t2 := t2) I1 hsz kk un2 hok2 os2 bare2
        exact ⟨hp.objs.size + 1, _, _, ⟨G, g2, d2, t2, os'⟩, _, .ref C, none, rfl, J, kG, ge, hoe, ⟨rfl, rfl, fun vs hv => by cases hv; rfl⟩, rfl, rfl, hn, rfl, bare2, raises_own T.exC T.tyC, q1 hf⟩
      | cons x xs =>
        rw [hf] at post
        obtain ⟨d, hd0, hda, ea, ed, hrest⟩ := post
        have hd1 : H1 d = none := by rw [upd_ne hda] at hd0; exact hd0
        obtain ⟨t0, G, J, kG, ge, hoe, na⟩ := mk_end0 (d2 := d2) (t2 := t2) I1 hsz kk un2 hok2 os2 bare2 ea ed hd1
        have eH : upd (del H2 (hp.objs.size + 1)) d (.xd (x :: xs)) = upd H1 d (.xd (x :: xs)) := by
          funext b
          by_cases hbd : b = d
          · rw [hbd, upd_same, upd_same]
          · rw [upd_ne hbd, upd_ne hbd]
            by_cases hba : b = hp.objs.size + 1
            · rw [hba, del_same, hn]
            · rw [del_ne hba, hrest b hba hbd, upd_ne hba]
        rw [eH] at J na
        refine ⟨hp.objs.size + 1, _, _, ⟨G, g2, d2, t2, os'⟩, _, .ref C, some d, rfl, J, kG, ge, hoe, ⟨rfl, rfl, fun vs hv => by cases hv; rfl⟩, rfl, rfl, na, rfl, bare2, raises_own T.exC T.tyC, ?_⟩
        have := q2 (by rw [hf]; simp) d hd1
        rw [hf] at this
        exact this
    | next => exact False.elim hq'
    | brk => exact False.elim hq'
    | cont => exact False.elim hq'
theorem pmk_sup {x : Str} {e : Expr} {es : List Expr} {ta : TA} {p pos : Pos} (T : OexC X.K C) (iC : PySem.W.findIn X.K (.ref C) "__init__" = some (some (.ref fI))) (tI : PySem.W.typeIn X.K (.ref fI) = some (.type "function"))
    (F1 : IniOk X.prog X.w X.K X.mg X.base (fun _ _ _ _ _ _ => False) k C fI n fl) (hr : Room (k + 1) X.A) (hn9 : n ≤ 1000) (hm : X.mg x = some (.ref C)) (ha : PA X (e :: es) ta) (hg : Gl X x := by rfl)
    (hdb : (x == ("__debug__" : Str)) = false := by decide) (he : starEach (e :: es) X.env = (false, eval e X.env) :: starEach es X.env := by rfl) (hpl : (backTo pos (starEach es X.env)).any (·.1) = false := by rfl) :
    L2N.PMk X (.Call (.Name x p) (e :: es) [] pos) (tMkS C n fl ta) := by
  intro pins s σ H Q I h
  refine wpAny_Call_Name_kw (ld_glob I hg hm ?_ hdb)
  exact PySem.W.callWith_K (h₀ := X.base) I.ok.mod.kin T.kC (thn (ha.run pos pins s σ H _ I h) fun us s1 ⟨vs, H1, I1, r1, hl, q1, q2⟩ => ⟨I1.kIn, mk_call T iC tI F1 hr hn9 I1 r1 hl q1 q2⟩) he hpl
end
section
variable {P : Program} {w : World} {K : PySem.W.Frag} {mg : Str → Option Value} {base : Heap} {N : List Str} {k : Nat} {C fI cc cda : Addr} {name qual : Str} {params : Arguments} {scope : Scope} {p0 p1 p2 p3 p4 p5 q1 q2 q3 q4 r1 r2 r3 r4 : Pos} {msg f1 f2 x1 x2 : Str} {j : Nat} {ar : Arg}
  {pl : PySem.Env → Sem Bool}
abbrev supS (p0 p1 p2 p3 p4 p5 : Pos) (msg : Str) (j : Nat) : Stmt := .Expr (.Call (.Attribute (.Call (.Name "super" p0) [] [] p1) "__init__" p2) [.Constant (.str msg) j p3] [] p4) p5
abbrev SupEv (p0 p1 p2 p3 p4 : Pos) (msg : Str) (j : Nat) (pl : PySem.Env → Sem Bool) : Prop := ∀ env : PySem.Env, eval (.Call (.Attribute (.Call (.Name "super" p0) [] [] p1) "__init__" p2) [.Constant (.str msg) j p3] [] p4) env = (do
      let ov ← attributeBase (.Call (.Name "super" p0) [] [] p1) "__init__" env (eval (.Call (.Name "super" p0) [] [] p1) env)
      standAt p2.atName
      let (f, first) ← holding [ov] (getMethod ov "__init__" (pl env))
      callWith p4 f first (backTo p4 (starEach [.Constant (.str msg) j p3] env)) [])
theorem ini0 (F : SupC P K mg C fI cc cda name qual params [supS p0 p1 p2 p3 p4 p5 msg j] scope) (S : NScope N ["self"] ["__class__"] scope) (hp : (params.posonlyargs ++ params.args).head? = some ar) (har : ar.arg = "self") (hks : scope.names.lookup ("super" : Str) = some .globalImplicit)
    (hb : ∀ (kV doc pm ctv : Value) (an : Option Addr) (us : List Value), us.length = (["self"] : List Str).length → bindArgs (PySem.W.ksFn name qual params [supS p0 p1 p2 p3 p4 p5 msg j] scope .none kV doc pm an (.ref cda) ctv cc) ⟨us, []⟩ = pure ((["self"] : List Str).zip us))
    (he : SupEv p0 p1 p2 p3 p4 msg j pl) (hi : ∀ env : PySem.Env, env.scope = scope → interactive env = false) : IniOk P w K mg base (fun _ _ _ _ _ _ => False) (k + 1) C fI 0 fun _ => [] := by
  intro A outer s H us a ws Q E hr e0 r hw ha q
  have hws : ws = [] := List.length_eq_zero_iff.mp hw
  subst hws
  exact init_run (t := fun D σ H => D.nx σ H) F S hp (by rw [har]; rfl) hks hb (fun A outer s H E hr2 => pss_nil) he hi hr e0 r rfl rfl ha (q H rfl)
abbrev fldS (f x : Str) (q1 q2 q3 q4 : Pos) : Stmt := .Assign [.Attribute (.Name "self" q1) f q2] (.Name x q3) q4
abbrev FldSw (scope : Scope) (f x : Str) (q1 q2 q3 q4 : Pos) : Prop := ∀ env : PySem.Env, env.scope = scope → swapsWith (.Name x q3) (some (.Attribute (.Name "self" q1) f q2)) q4.line env = pure false
theorem ini1 (F : SupC P K mg C fI cc cda name qual params [supS p0 p1 p2 p3 p4 p5 msg j, fldS f1 x1 q1 q2 q3 q4] scope) (S : NScope ["self", x1, "__class__"] ["self", x1] ["__class__"] scope) (hp : (params.posonlyargs ++ params.args).head? = some ar) (har : ar.arg = "self") (hks : scope.names.lookup ("super" : Str) = some .globalImplicit)
    (hb : ∀ (kV doc pm ctv : Value) (an : Option Addr) (us : List Value), us.length = (["self", x1] : List Str).length → bindArgs (PySem.W.ksFn name qual params [supS p0 p1 p2 p3 p4 p5 msg j, fldS f1 x1 q1 q2 q3 q4] scope .none kV doc pm an (.ref cda) ctv cc) ⟨us, []⟩ = pure ((["self", x1] : List Str).zip us))
    (he : SupEv p0 p1 p2 p3 p4 msg j pl) (hi : ∀ env : PySem.Env, env.scope = scope → interactive env = false) (hs1 : FldSw scope f1 x1 q1 q2 q3 q4) (hno1 : PySem.W.findIn K (.ref C) f1 = some none)
    (hd1 : (x1 == ("__debug__" : Str)) = false) (hc1 : (x1 == ("__classdict__" : Str)) = false) : IniOk P w K mg base (fun _ _ _ _ _ _ => False) (k + 1) C fI 1 fun vs => [(f1, vs.getD 0 .non)] := by
  intro A outer s H us a ws Q E hr e0 r hw ha q
  match ws, hw with
  | [y], _ =>
    refine init_run (k := k) (t := tOst K f1 (tVar 0) (tVar 1)) F S hp (by rw [har]; rfl) hks hb (fun A outer s H E hr2 => by
      refine pss_one (ps_ost (to := tVar 0) (te := tVar 1) ?_ ?_ (hs := hs1 _ ?_))
      · exact pe_var (i := 0) rfl (.inl (S.par "self" (by simp)))
      · exact pe_var (i := 1) rfl (.inl (S.par x1 (by simp))) hd1 hc1
      · rfl) he hi hr e0 r rfl rfl ha ?_
    refine ⟨y, rfl, .ref a, rfl, a, C, rfl, F.T, hno1, .inl ⟨ha, fun dx n ne => q _ ?_⟩⟩
    exact ⟨dx, n, ne, upd_same, by rw [upd_ne ne, upd_same]; rfl, fun b h1 h2 => by rw [upd_ne h1, upd_ne h2]⟩
theorem ini2 (F : SupC P K mg C fI cc cda name qual params [supS p0 p1 p2 p3 p4 p5 msg j, fldS f1 x1 q1 q2 q3 q4, fldS f2 x2 r1 r2 r3 r4] scope) (S : NScope ["self", x1, x2, "__class__"] ["self", x1, x2] ["__class__"] scope) (hp : (params.posonlyargs ++ params.args).head? = some ar) (har : ar.arg = "self") (hks : scope.names.lookup ("super" : Str) = some .globalImplicit)
    (hb : ∀ (kV doc pm ctv : Value) (an : Option Addr) (us : List Value), us.length = (["self", x1, x2] : List Str).length → bindArgs (PySem.W.ksFn name qual params [supS p0 p1 p2 p3 p4 p5 msg j, fldS f1 x1 q1 q2 q3 q4, fldS f2 x2 r1 r2 r3 r4] scope .none kV doc pm an (.ref cda) ctv cc) ⟨us, []⟩ = pure ((["self", x1, x2] : List Str).zip us))
    (he : SupEv p0 p1 p2 p3 p4 msg j pl) (hi : ∀ env : PySem.Env, env.scope = scope → interactive env = false) (hs1 : FldSw scope f1 x1 q1 q2 q3 q4) (hs2 : FldSw scope f2 x2 r1 r2 r3 r4) (hno1 : PySem.W.findIn K (.ref C) f1 = some none) (hno2 : PySem.W.findIn K (.ref C) f2 = some none)
    (hd1 : (x1 == ("__debug__" : Str)) = false) (hc1 : (x1 == ("__classdict__" : Str)) = false) (hd2 : (x2 == ("__debug__" : Str)) = false) (hc2 : (x2 == ("__classdict__" : Str)) = false) : IniOk P w K mg base (fun _ _ _ _ _ _ => False) (k + 1) C fI 2 fun vs => [(f2, vs.getD 1 .non), (f1, vs.getD 0 .non)] := by
  intro A outer s H us a ws Q E hr e0 r hw ha q
  match ws, hw with
  | [y, z], _ =>
    refine init_run (k := k) (t := tSeq (tOst K f1 (tVar 0) (tVar 1)) (tOst K f2 (tVar 0) (tVar 2))) F S hp (by rw [har]; rfl) hks hb (fun A outer s H E hr2 => by
      refine pss_cons (ps_ost (to := tVar 0) (te := tVar 1) ?_ ?_ (hs := hs1 _ ?_)) (pss_one (ps_ost (to := tVar 0) (te := tVar 2) ?_ ?_ (hs := hs2 _ ?_)))
      · exact pe_var (i := 0) rfl (.inl (S.par "self" (by simp)))
      · exact pe_var (i := 1) rfl (.inl (S.par x1 (by simp))) hd1 hc1
      · rfl
      · exact pe_var (i := 0) rfl (.inl (S.par "self" (by simp)))
      · exact pe_var (i := 2) rfl (.inl (S.par x2 (by simp))) hd2 hc2
      · rfl) he hi hr e0 r rfl rfl ha ?_
    refine ⟨y, rfl, .ref a, rfl, a, C, rfl, F.T, hno1, .inl ⟨ha, fun dx n ne => ?_⟩⟩
    refine ⟨z, rfl, .ref a, rfl, a, C, rfl, F.T, hno2, .inr ⟨dx, [(f1, y)], upd_same, by rw [upd_ne ne, upd_same], by simp, q _ ?_⟩⟩
    exact ⟨dx, n, ne, by rw [upd_ne (Ne.symm ne), upd_same], upd_same, fun b h1 h2 => by rw [upd_ne h2, upd_ne h1, upd_ne h2]⟩
end
end M
namespace M
open PySem PySem.Spec L2
/-! ### raise -/
def flV (fl : List (Str × Nat)) (vs : List V) : List (Str × V) := fl.map fun p => (p.1, vs.getD p.2 .non)
def flD (fl : List (Str × Nat)) (ds : List D) : List (Str × D) := fl.map fun p => (p.1, ds.getD p.2 .non)
/-- an own exception class that may be raised -/
structure MExc (P : Program) (w : World) (K : PySem.W.Frag) (mg : Str → Option Value) (base : Heap) (G : Wd) (k : Nat) (c : Str) (n : Nat) (fl : List (Str × Nat)) : Prop where
  ex : ∃ C fI : Addr, OexC K C ∧ PySem.W.findIn K (.ref C) "__init__" = some (some (.ref fI)) ∧ PySem.W.typeIn K (.ref fI) = some (.type "function") ∧ IniOk P w K mg base (fun _ _ _ _ _ _ => False) k C fI n (flV fl) ∧ mg c = some (.ref C) ∧ G.cls c = some C
  small : n ≤ 1000
@[simp] def sRaise (c : Str) (n : Nat) (fl : List (Str × Nat)) (f : DenL) : SDen := fun ρ st => sOf f (fun ds ρ st => if ds.length = n then .exc c (flD fl ds) ρ st else .stuck) ρ st
section
variable {G : Wd} {W : WX} {X : Cx} {Z : Zone} {H : Hp} {L : List Addr} {st : Sto}
theorem Reps.getD {ds : List D} {vs : List V} (r : Reps G Z H ds vs) (i : Nat) : Rep G Z H (ds.getD i .non) (vs.getD i .non) := by
  rw [List.getD_eq_getElem?_getD, List.getD_eq_getElem?_getD]
  cases e : ds[i]? with
  | none =>
    rw [r.none_of e]
    exact .non
  | some d =>
    obtain ⟨v, e2, rv⟩ := r.get e
    rw [e2]
    exact rv
theorem repF_fl {ds : List D} {vs : List V} (r : Reps G Z H ds vs) : ∀ fl : List (Str × Nat), RepF G Z H (flD fl ds) (flV fl vs)
  | [] => .nil
  | (f, i) :: fl => .cons (r.getD i) (repF_fl r fl)
theorem StOk.fresh_out (S : StOk G Z L st H) {p : Addr} (h : H p = none) : ¬ Zof Z L st p := fun z => by
  rcases z with z | ⟨n, o, e, _⟩
  · exact S.z0 p z h
  · exact S.lh p (List.mem_of_getElem? e) h
theorem ms_raise {k n : Nat} {c : Str} {fl : List (Str × Nat)} {p pos pos' : Pos} {e : Expr} {es : List Expr} {f : DenL} (hc : X.calm = true) (m : MExc X.prog X.w X.K X.mg X.base G k c n fl) (hr : Room (k + 1) X.A) (tk : L2N.Takes X W) (ha : MA G W X (e :: es) f) (hg : Gl X c := by rfl)
    (hdb : (c == ("__debug__" : Str)) = false := by decide) (he : starEach (e :: es) X.env = (false, eval e X.env) :: starEach es X.env := by rfl) (hpl : (backTo pos (starEach es X.env)).any (·.1) = false := by rfl) :
    MS G W X (.Raise (some (.Call (.Name c p) (e :: es) [] pos)) none pos') (sRaise c n fl f) := by
  obtain ⟨C, fI, T, iC, tI, ini, hm, hC⟩ := m.ex
  refine PS.imp (L2N.ps_raise hc tk (pmk_sup T iC tI ini hr m.small hm ha hg hdb he hpl)) fun E σ H q => ?_
  obtain ⟨Z, ρ, st, L, S, q⟩ := q
  refine ⟨Z, ρ, st, L, S, PostR.bindS S q fun ds st1 vs H1 L1 e1 f1 S1 r1 q1 => ?_⟩
  have q1 : PostS G Z W L1 st1 H1 (if ds.length = n then .exc c (flD fl ds) ρ st1 else .stuck) E := q1
  by_cases hn : ds.length = n
  · rw [if_pos hn] at q1
    refine ⟨by rw [← r1.length]; exact hn, fun e0 => ?_, fun e0 d hd => ?_⟩
    · have ef : fl = [] := by
        cases fl with
        | nil => rfl
        | cons _ _ => cases e0
      subst ef
      exact q1 σ H1 L1 C none [] Fw.refl S1 hC rfl .nil
    · have sm := same_new (o := .xd (flV fl vs)) hd
      have f2 : Fw Z L1 st1 H1 L1 st1 (upd H1 d (.xd (flV fl vs))) := Fw.same sm
      exact q1 σ _ L1 C (some d) (flV fl vs) f2 (S1.to f2 (S1.ok.same sm)) hC ⟨upd_same, S1.ok.fresh_out hd⟩ (repF_fl (r1.mono f2.keeps) fl)
  · rw [if_neg hn] at q1
    exact q1.elim
end
end M
/-! ### isinstance of an exception that has its dict -/
namespace PySem.W
open PySem PySem.Spec PySem.Calls PyProof.Rows
section
variable {prog : Program} {w : World} {A : Around} {E : Value → Shared → Prop} {s : Shared} {K : Frag} {x D : Addr} {ox : Obj} {od : Option Obj}
theorem mfind_data {C : Addr} {name : Str} {a g : Value} (hc : (clsIn K C).isSome = true) (ha : findIn K (.ref C) name = some (some a)) (hg : specialIn K a "__get__" = some (some g)) (ht : takesIn K a = some true) : findObj K C od name = some (.bind g a) := by
  obtain ⟨cd, hc⟩ := Option.isSome_iff_exists.mp hc
  unfold findObj
  rw [hc, Option.bind_some, ha, Option.bind_some]
  simp [hg, ht]
theorem mkin_class {Q : Option Value → Shared → Prop} (C : L2.ExcC K D)
    (X : K.In s.heap) (I : InstAt s.heap x ox D od) (h : Q (some (.ref D)) { s with toks := s.toks + 1 }) : wpAny (model prog w) A (getAttr? (.ref x) "__class__") Q E s := by
  have hf : findObj K D od "__class__" = some (.bind (.builtin "getset_descriptor.__get__") (.builtin "object.__class__")) := mfind_data (by obtain ⟨cd, hc, _⟩ := any_some C.hd; rw [hc]; rfl) C.ha C.hn C.ht
  obtain ⟨hp, g, d, t, os⟩ := s
  have L0 := I.type (M := model prog w)
  have L1 := looks_findIn (M := model prog w) X C.hg
  have L2 := looks_findIn (M := model prog w) X C.hk
  have L3 := looks_find (M := model prog w) X I hf
  have sub : Looks (model prog w) hp (isInstance (.ref x) (.type "BaseException")) true := L0.andThen (looks_subIn X C.hs)
  have hx0 : (false && onTheHeap (Value.builtin "BaseException.__getattribute__")) = false := rfl
  have hx2 : (Value.builtin "BaseException.__getattribute__" == Value.builtin "object.__getattribute__") = false := by decide +kernel
  have hx1 : (onTheHeap (Value.ref D) && Value.builtin "BaseException.__getattribute__" == Value.builtin "object.__getattribute__") = false := by rw [hx2]; rfl
  unfold getAttr? getAttrBy? getAttrBy
  refine wpAny_bind (wpAny_mkText (wpAny_bind (wpAny_attempt (wpAny_holding (wpAny_bind (L0.at (wpAny_bind (L1.at ?_))))))))
  show wpAny _ _ (if (onTheHeap (Value.ref D) && Value.builtin "BaseException.__getattribute__" == Value.builtin "object.__getattribute__") = true then _ else _) _ _ _
  rw [hx1, if_neg Bool.false_ne_true]
  unfold getAttrByItsOwn hookBefore
  refine wpAny_bind ?_
  rw [if_pos (show onTheHeap (Value.ref D) = true from rfl)]
  refine L2.at ?_
  refine wpAny_bind (wpAny_attempt (wpAny_holding ?_))
  unfold callGetattribute
  rw [hx0, if_neg Bool.false_ne_true]
  unfold boundAndCalled
  rw [PySem.F.excAttr_ValueError.ga.bind (.ref x)]
  refine wpAny_bind (wpAny_pure ?_)
  show wpAny _ _ (call (.builtin "BaseException.__getattribute__") [.ref x, .str "__class__" t]) _ _ _
  refine wpAny_call (codeAny_call_builtin PySem.F.excAttr_ValueError.ga.plain PySem.F.entry_bexc_ga ?_)
  refine @check_slot (model prog w) _ _ ⟨hp, g, d, t + 1, os⟩ "BaseException.__getattribute__" "BaseException" "__getattribute__" (.ref x) [.str "__class__" t] [] _ (by decide +kernel) (by decide +kernel) sub (PySem.F.args_bexc_ga (.ref x) (.str "__class__" t)) ?_
  unfold Builtin.«object.__getattribute__»
  refine wpAny_bind (wpAny_of_eq (a := ((Value.ref x : Value), [Value.str "__class__" t])) (by first | rfl | (simp only [slotArgs]; rfl)) ?_)
  refine wpAny_bind (wpAny_pure (wpAny_bind (L0.at (wpAny_bind (L3.at ?_)))))
  show wpAny _ _ (holding [Value.builtin "object.__class__"] (call (.builtin "getset_descriptor.__get__") [.builtin "object.__class__", .ref x, .ref D]) >>= ret) _ _ _
  refine wpAny_bind (wpAny_holding (wpAny_call (class_get (s := ⟨hp, g, d, t + 1, os⟩) (ox := ox) (od := od) X I C.hm ?_)))
  refine wpAny_pure ?_
  show wpAny _ _ (handedOut (.ref D)) _ _ _
  rw [handedOut_of (v := .ref D) rfl]
  first
    | exact wpAny_pure (wpAny_pure h)
    | exact wpAny_pure h
    | exact wpAny_pure (wpAny_bind (wpAny_pure (wpAny_pure h)))
theorem mkitx_exc (C : L2.ExcC K D) : KitX K (.ref x) (.ref D) (fun h => InstAt h x ox D od) where
  ty := fun _ _ _ I => I.type
  it := fun _ _ X _ => by
    obtain ⟨cdD, hcD, _⟩ := any_some C.hd
    unfold clsIn at hcD
    split at hcD
    · rename_i c' d' cd' sl' ho
      intro A' Q' E' s' k q
      unfold isType loadHead
      exact wpAny_bind (wpAny_loadPart (k _ _ (X _ _ ho)) (wpAny_pure q))
    · cases hcD
  ne := fun h tp dd its n sl X htp => by
    obtain ⟨cdD, hcD, _⟩ := any_some C.hd
    refine Bool.eq_false_iff.mpr fun q => ?_
    have e : D = tp := Value.ref.inj (beq_iff_eq.mp q)
    subst e
    unfold clsIn at hcD
    split at hcD
    · rename_i c' d' cd' sl' ho
      have z := (X _ _ ho).symm.trans htp
      cases z
    · cases hcD
  ca := fun X I k => mkin_class C X I k
end
end PySem.W
namespace M
open PySem PySem.Spec L2
/-! ### worlds that differ in what they pin -/
structure Like (G G' : Wd) : Prop where
  K : G'.K = G.K
  cls : G'.cls = G.cls
  fn : G'.fn = G.fn
section
variable {G G' : Wd} {Z : Zone} {H : Hp}
mutual
theorem Rep.conv (g : Like G G') : ∀ {d : D} {v : V}, Rep G Z H d v → Rep G' Z H d v
  | _, _, .non => .non
  | _, _, .bl b => .bl b
  | _, _, .int i => .int i
  | _, _, .str x => .str x
  | _, _, .tup r z h => .tup r z (Reps.conv g h)
  | _, _, .tupK r h => .tupK (g.K ▸ r) (Reps.conv g h)
  | _, _, .lst r z h => .lst r z (Reps.conv g h)
  | _, _, .dK r z h => .dK r z (RepK.conv g h)
  | _, _, .dT r z h => .dT r z (RepT.conv g h)
  | _, _, .ins e z c h => .ins e z (g.cls ▸ c) (RepF.conv g h)
  | _, _, .fn e => .fn (g.fn ▸ e)
  | _, _, .scr r z => .scr r z
  | _, _, .scrK h => .scrK (g.K ▸ h)
  | _, _, .tupX e c n z h => .tupX e c n z (Reps.conv g h)
theorem Reps.conv (g : Like G G') : ∀ {d : List D} {v : List V}, Reps G Z H d v → Reps G' Z H d v
  | _, _, .nil => .nil
  | _, _, .cons h t => .cons (Rep.conv g h) (Reps.conv g t)
theorem RepK.conv (g : Like G G') : ∀ {d : List (D × D)} {v : List (Key × V)}, RepK G Z H d v → RepK G' Z H d v
  | _, _, .nil => .nil
  | _, _, .int h t => .int (Rep.conv g h) (RepK.conv g t)
  | _, _, .str h t => .str (Rep.conv g h) (RepK.conv g t)
theorem RepT.conv (g : Like G G') : ∀ {d : List (D × D)} {v : List (List Key × V)}, RepT G Z H d v → RepT G' Z H d v
  | _, _, .nil => .nil
  | _, _, .cons e h t => .cons (Reps.conv g e) (Rep.conv g h) (RepT.conv g t)
theorem RepF.conv (g : Like G G') : ∀ {d : List (Str × D)} {v : List (Str × V)}, RepF G Z H d v → RepF G' Z H d v
  | _, _, .nil => .nil
  | _, _, .cons h t => .cons (Rep.conv g h) (RepF.conv g t)
end
theorem Like.symm (g : Like G G') : Like G' G := ⟨g.K.symm, g.cls.symm, g.fn.symm⟩
theorem StOk.nil_of (z : ∀ a, Z a → H a ≠ none) (n : ∀ a, Z a → ∀ xs, H a ≠ some (.tup xs)) (t : TabZ G'.T Z H) : StOk G' Z [] [] H := ⟨rfl, .nil, fun n a o e => by simp at e, z, fun a h => by simp at h, fun a h => by simp at h, t.zone fun a z => zof_nil.mp z, n⟩
end
/-- the world where p's object is the exception that is handled -/
abbrev gx (G : Wd) (p : Addr × Obj) (C : Addr) : Wd := { G with exc := some (p.1, C, p.2.dict) }
theorem like_gx {G : Wd} {p : Addr × Obj} {C : Addr} : Like G (gx G p C) := ⟨rfl, rfl, rfl⟩
/-- the context bears the world's exception -/
def HotX (G : Wd) (X : Cx) : Prop := ∃ (a C : Addr) (dd : Option Addr) (oe : Obj) (vs : Array Value), G.exc = some (a, C, dd) ∧ (a, oe) ∈ X.pn ∧ oe.cls = .ref C ∧ oe.dict = dd ∧ oe.data = .fields vs
section
variable {G : Wd} {W : WX} {X : Cx}
/-- isinstance(e, D), e the caught exception; sub: whether a class is below D -/
@[simp] def eIsX (i : Nat) (sub : Str → Option Bool) : Den := fun ρ st => match ρ[i]? with
  | some (some (.x c _)) => (match sub c with | some b => .ok (.bl b) st | none => .stuck)
  | _ => .stuck
theorem inst_pin {pins : List (Addr × Obj)} {σ : St} {H : Hp} {s : Shared} {a C : Addr} {dd : Option Addr} {oe : Obj} {vs : Array Value} {vfs : List (Str × V)} {Z : Zone} (I : Inv X pins σ H s) (hp : (a, oe) ∈ X.pn) (hc : oe.cls = .ref C) (hd : oe.dict = dd) (hv : oe.data = .fields vs) (x : XdAt Z H dd vfs) :
    ∃ od, PySem.W.InstAt s.heap a oe C od := by
  obtain ⟨hget, _⟩ := I.pin (a, oe) (List.mem_append.mpr (.inl hp))
  obtain ⟨oc, odc, oda, osl⟩ := oe
  dsimp only at hc hd hv
  subst hc hd hv
  cases odc with
  | none => exact ⟨none, hget, rfl, rfl, trivial⟩
  | some d =>
    have hx : ObjOk X.prog X.w H s.heap d (.xd vfs) := I.hok d _ x.1
    obtain ⟨mA, ⟨od, es, ep, ho, hr⟩, _⟩ := hx
    exact ⟨some od, hget, rfl, rfl, ho⟩
/-- what isinstance asks of the classes -/
structure XCls (G : Wd) (K : PySem.W.Frag) : Prop where
  exc : ∀ c C, G.cls c = some C → ExcC K C
  fld : ∀ c C, G.cls c = some C → XfC K C
def rIsX (X : Cx) : List V → Hp → VK → Prop := fun xs H Q => ∃ (a C : Addr) (dd : Option Addr) (oe : Obj) (vs : Array Value) (vfs : List (Str × V)) (Z : Zone) (c : V) (cv : Value) (b : Bool), xs = [.ref a, c] ∧ (a, oe) ∈ X.pn ∧ oe.cls = .ref C ∧ oe.dict = dd ∧ oe.data = .fields vs ∧ XdAt Z H dd vfs ∧ ExcC X.K C ∧
  (∀ u, RelV c u → u = cv) ∧ PySem.W.kitOne X.K (.ref C) cv = some b ∧ Q (.bl b) H
theorem call_isX : CallR X (.builtin "isinstance") (rIsX X) := by
  intro pins s σ H xs us Q I r h
  obtain ⟨a, C, dd, oe, vs, vfs, Z, c, cv, b, rfl, hp, hc, hd, hv, hx, hE, hcv, e, q⟩ := h
  cases r with
  | cons rx rr =>
    cases rr with
    | cons rt rr =>
      cases rr
      cases rx
      have ec := hcv _ rt
      subst ec
      obtain ⟨od, J⟩ := inst_pin I hp hc hd hv hx
      exact PySem.W.kia_one (PySem.W.mkitx_exc hE) I.kIn J e (fun z => nomatch z) fun tk => ⟨.bl b, H, I.kept (t' := tk) fun _ _ z => z, rfl, q⟩
theorem me_isx1 (i : Nat) {x y : Str} {v : V} {cv : Value} {sub : Str → Option Bool} {p px py pos : Pos} (hx : HotX G X) (hE : XCls G X.K) (hs : ∀ c C b, G.cls c = some C → sub c = some b → PySem.W.kitOne X.K (.ref C) cv = some b) (hcv : ∀ u, RelV v u → u = cv) (hm : X.mg "isinstance" = none) (h0 : PE X (.Name x px) (tVar i)) (h1 : PE X (.Name y py) (tC v)) (hg : Gl X "isinstance" := by rfl)
    (hst : starEach [.Name x px, .Name y py] X.env = (false, eval (.Name x px) X.env) :: starEach [.Name y py] X.env := by rfl) (hs2 : starEach [.Name y py] X.env = (false, eval (.Name y py) X.env) :: starEach [] X.env := by rfl) (hpl : (backTo pos (starEach [.Name y py] X.env)).any (·.1) = false := by rfl) :
    ME G W X (.Call (.Name "isinstance" p) [.Name x px, .Name y py] [] pos) (eIsX i sub) :=
  PE.imp (pe_callB call_isX hg hm (by decide +kernel) (pa_cons h0 (pa_cons h1 pa_nil hs2) hst) (by decide) (by decide) hst hpl) fun σ H Q q => by
    obtain ⟨Z, ρ, st, L, S, q⟩ := q
    unfold eIsX at q
    split at q
    · rename_i c fs er
      split at q
      · rename_i b eb
        obtain ⟨v0, ev, r⟩ := S.env.2 i _ er
        cases r with
        | x e1 e2 e3 e4 =>
          obtain ⟨a, C, dd, oe, vs, f1, f2, f3, f4, f5⟩ := hx
          rw [f1] at e1
          cases e1
          exact ⟨_, ev, _, _, _, oe, vs, _, _, v, cv, b, rfl, f2, f3, f4, f5, e3, hE.exc _ _ e2, hcv, hs _ _ _ e2 eb, q (.bl b) H L Fw.refl S.ok (.bl b)⟩
      · exact q.elim
    · exact q.elim
/-- e.f, e the caught exception -/
@[simp] def eXf (i : Nat) (f : Str) : Den := fun ρ st => match ρ[i]? with
  | some (some (.x _ fs)) => (match fs.lookup f with | some d => .ok d st | none => .stuck)
  | _ => .stuck
theorem RepF.look {Z : Zone} {H : Hp} {f : Str} : ∀ {fs : List (Str × D)} {vfs : List (Str × V)} {d : D}, RepF G Z H fs vfs → fs.lookup f = some d → ∃ v, vfs.lookup f = some v ∧ Rep G Z H d v
  | _, _, _, .nil, e => by simp at e
  | _, _, d, .cons (x := x) r t, e => by
    rw [List.lookup_cons] at e ⊢
    split at e
    · cases e
      exact ⟨_, rfl, r⟩
    · exact RepF.look t e
theorem SRep.x_inv {Z : Zone} {H : Hp} {L : List Addr} {c : Str} {fs : List (Str × D)} {v : V} (r : SRep G Z H L (.x c fs) v) : ∃ (a C : Addr) (dd : Option Addr) (vfs : List (Str × V)), v = .ref a ∧ G.exc = some (a, C, dd) ∧ G.cls c = some C ∧ XdAt Z H dd vfs ∧ RepF G Z H fs vfs := by
  cases r with
  | x e1 e2 e3 e4 => exact ⟨_, _, _, _, rfl, e1, e2, e3, e4⟩
theorem me_xf (i : Nat) {x f : Str} {px pos : Pos} (hx : HotX G X) (hE : XCls G X.K) (hno : ∀ c C, G.cls c = some C → PySem.W.findIn X.K (.ref C) f = some none) (h0 : PE X (.Name x px) (tVar i)) (hb : attributeBase (.Name x px) f X.env (eval (.Name x px) X.env) = eval (.Name x px) X.env := by rfl) :
    ME G W X (.Attribute (.Name x px) f pos) (eXf i f) := by
  refine ⟨fun pins s σ H Q I q => ?_⟩
  obtain ⟨Z, ρ, st, L, S, q⟩ := q
  unfold eXf at q
  split at q
  · rename_i c fs er
    split at q
    · rename_i d ed
      obtain ⟨v0, ev, r⟩ := S.env.2 i _ er
      obtain ⟨a1, C1, dd1, vfs, rfl, e1, e2, e3, e4⟩ := r.x_inv
      obtain ⟨a, C, dd, oe, vs, f1, f2, f3, f4, f5⟩ := hx
      rw [f1] at e1
      obtain ⟨rfl, rfl, rfl⟩ : a = a1 ∧ C = C1 ∧ dd = dd1 := by simpa using e1
      obtain ⟨v, el, rv⟩ := e4.look ed
      refine attr_of hb (thn (h0.run pins s σ H (fun x H1 => x = .ref a ∧ H1 = H) I ⟨_, ev, rfl, rfl⟩) fun u s1 hh => ?_)
      obtain ⟨x, H1, I1, rx, ex, eH⟩ := hh
      subst ex
      subst eH
      obtain rfl : u = Value.ref a := rx
      cases dd with
      | none =>
        have e3 : vfs = [] := e3
        subst e3
        cases el
      | some dd =>
        obtain ⟨ha, _⟩ := I1.pin (a, oe) (List.mem_append_left _ f2)
        have hx : ObjOk X.prog X.w H1 s1.heap dd (.xd vfs) := I1.hok dd _ e3.1
        obtain ⟨mA, hns, hr⟩ := hx
        obtain ⟨od, ho, hl⟩ := lookIn_ns hns
        obtain ⟨u, hu, ru⟩ := RelO.some_of (v := v) (o := mA f) (by rw [← el]; exact hr f)
        have T := hE.fld _ _ e2
        have J : PySem.W.InstAt s1.heap a oe C (some od) := ⟨ha, f3, by unfold PySem.W.notCls; rw [f5] <;> rfl, by rw [f4]; exact ho⟩
        exact PySem.HandSPX.exc_get I1.kIn J T.ga T.gg T.exC (PySem.W.findObj_own T.hdC (hno _ _ e2) rfl (by rw [hl, hu])) (handed_of ru) ⟨v, H1, I1.tok _, ru, q v H1 L Fw.refl S.ok rv⟩
    · exact q.elim
  · exact q.elim
end
end M
namespace M
open PySem PySem.Spec L2 L2H PyProof.Rows
/-! ### a def that is called in an except suite with the exception -/
structure FnHE (P : Program) (w : World) (K : PySem.W.Frag) (mg : Str → Option Value) (base : Heap) (CX : CXT) (k : Nat) (f : Addr) (fd : FuncData) (ps : List Str) (sp : (Addr × Obj) → Sp) : Prop where
  len : ∀ p vs H Q E, sp p vs H Q E → vs.length = ps.length
  run : ∀ (A : Around) (outer : List PySem.Env) (s : Shared) (H : Hp) (args : Args) (us : List Value) (vs : List V) (Q : VK) (E : XK) (p : Addr × Obj), RoomH k A → Hot1 A p → PinOk outer H s p → Env0 P w K mg base A outer s H → BindsTo s fd args (ps.zip us) → Vals vs us → sp p vs H Q E →
    codeAny (model P w) A (.call (.ref f) args) (CR CX outer P w H s Q E) s
theorem fn_ofHE {CX : CXT} {P : Program} {w : World} {K : PySem.W.Frag} {mg : Str → Option Value} {base : Heap} {k : Nat} {f : Addr} {name qual : Str} {params : Arguments} {body : List Stmt} {scope : Scope} {dV kV doc pm cdv ct oc : Value} {an od : Option Addr}
    {osl : Array (Option Value)} {N ps : List Str} {sp : (Addr × Obj) → Sp} (lk : K.lookup f = some ⟨oc, od, .func (PySem.W.fnOf name qual params body scope dV kV doc pm an cdv ct), osl⟩) (hcd : PySem.W.codeIn K cdv qual = true) (S : FnScope N ps scope)
    (len : ∀ p vs H Q E, sp p vs H Q E → vs.length = ps.length)
    (hbody : ∀ (A : Around) (outer : List PySem.Env) (s : Shared) (H : Hp) (vs : List V) (Q : VK) (E : XK) (p : Addr × Obj), Hot1 A p → RoomH k (A.deeper (envOfC qual scope s.heap.objs.size f cdv)) → sp p vs H Q E →
      ∃ t, PSs (cxH CX P w K mg base N qual scope f cdv A outer s H E p) body t ∧ t { nx := fun _ H' => Q .non H', rt := Q } (L2.start N vs) H) :
    FnHE P w K mg base CX (k + 1) f (PySem.W.fnOf name qual params body scope dV kV doc pm an cdv ct) ps sp := by
  refine ⟨len, fun A outer s H args us vs Q E p hr hot hpin e0 hb r hsp => ?_⟩
  have hl := len _ _ _ _ _ hsp
  have KX : K.In s.heap := e0.mod.kin.keeps fun b o e => (e0.bs b o e).1
  have lim : s.heap.NoLimit := e0.mod.nolimit.keeps fun b o e => (e0.bs b o e).1
  have hkind : ∀ y ∈ ps.zip us, scope.names.lookup y.1 = some .local ∨ (scope.names.lookup y.1 = some .cell ∧ ((cellsFrom (s.heap.objs.size + 1) scope.names []).lookup y.1).isSome = true) := fun ⟨n, v⟩ hy => by
    rcases S.par n (List.of_mem_zip hy).1 with q | q
    · exact .inl q
    · exact .inr ⟨q, PySem.W.cellsFrom_some _ _ _ (.inl q)⟩
  refine codeAny_call_function hr.depth (KX _ _ lk) rfl S.co S.gen rfl (PySem.W.codeRec_of KX hcd) (hb _ _ _ _ ?_)
  refine wpAny_newFunctionEnv_cells S.kind hkind fun env he s1 x => ?_
  subst he
  refine ⟨lim.keeps x.toInCall.keep, codeAny_func ?_⟩
  obtain ⟨t, ht, hq⟩ := hbody A outer s H vs Q E p hot (hr.deeper _) hsp
  have I : Inv (cxH CX P w K mg base N qual scope f cdv A outer s H E p) [] (L2.start N vs) H s1 := inv_startH S hpin e0 hl r x
  refine wpAny_mono (ht.run [] s1 (L2.start N vs) H _ I hq) (fun fl s' hs => ?_) fun e s' hs => hs
  have fin : ∀ {σ' : L2.St} {H' : Hp} {v : V} {u : Value}, Inv (cxH CX P w K mg base N qual scope f cdv A outer s H E p) [] σ' H' s' → RelV v u → Q v H' → CE outer P w H s Q u s' :=
    fun {σ' H' v u} J rv q => ⟨v, H', J.os, J.bare, J.base, J.hok, rv, q⟩
  cases fl with
  | ret u =>
    obtain ⟨v, σ', H', J, rv, q⟩ := hs
    exact fin J rv q
  | next =>
    obtain ⟨σ', H', J, q⟩ := hs
    exact fin (v := V.non) (u := Value.none) J rfl q
  | brk =>
    obtain ⟨_, _, _, q⟩ := hs
    exact False.elim q
  | cont =>
    obtain ⟨_, _, _, q⟩ := hs
    exact False.elim q
def spMX (G : Wd) (dn : FD) (p : Addr × Obj) : Sp := fun vs H Q E => ∃ (C : Addr) (c : Str) (fs : List (Str × D)) (vfs : List (Str × V)) (Z : Zone) (dvs : Array Value), vs = [.ref p.1] ∧ p.2.cls = .ref C ∧ p.2.data = .fields dvs ∧ G.cls c = some C ∧ ((∀ a, Z a → H a ≠ none) ∧ ∀ a, Z a → ∀ xs, H a ≠ some (.tup xs)) ∧ TabZ G.T Z H ∧
  XdAt Z H p.2.dict vfs ∧ RepF G Z H fs vfs ∧ match dn [.x c fs] [] with
    | .ok d [] => ∀ v H', Fw Z [] [] H [] [] H' → TabZ G.T Z H' → Rep G Z H' d v → Q v H'
    | _ => False
section
variable {P : Program} {w : World} {K : PySem.W.Frag} {mg : Str → Option Value} {base : Heap} {G : Wd}
theorem fn_MH {x qual : Str} {s : Stmt} {f : Addr} {fd : FuncData} {N ps : List Str} {k : Nat} {fb : SDen} (F : Fun K x qual s f fd) (S : FnScope N ps (defScope s)) (hn : ps.length = 1) (hN : 1 ≤ N.length)
    (hbody : ∀ (cdv : Value) (A : Around) (outer : List PySem.Env) (sh : Shared) (H : Hp) (E : XK) (p : Addr × Obj) (C : Addr), RoomH k (A.deeper (envOfC qual (defScope s) sh.heap.objs.size f cdv)) →
      L2N.Takes (cxH (L2N.CX P w) P w K mg base N qual (defScope s) f cdv A outer sh H E p) (WD E) → PassesOwn (model P w) (A.deeper (envOfC qual (defScope s) sh.heap.objs.size f cdv)) (envOfC qual (defScope s) sh.heap.objs.size f cdv) (cxH (L2N.CX P w) P w K mg base N qual (defScope s) f cdv A outer sh H E p).xe →
      HotX (gx G p C) (cxH (L2N.CX P w) P w K mg base N qual (defScope s) f cdv A outer sh H E p) → MSs (gx G p C) (WD E) (cxH (L2N.CX P w) P w K mg base N qual (defScope s) f cdv A outer sh H E p) (defBody s) fb) :
    FnHE P w K mg base (L2N.CX P w) (k + 1) f fd ps (spMX G (dFn 1 N.length fb)) := by
  obtain ⟨oc, od, kV, doc, pm, an, cdv, ct, osl, rfl, lk, hcd⟩ := F.ex
  refine fn_ofHE lk hcd S (fun p vs H Q E h => by obtain ⟨C, c, fs, vfs, Z, dvs, rfl, _⟩ := h; exact hn.symm) fun A outer sh H vs Q E p hot hr hsp => ?_
  obtain ⟨C, c, fs, vfs, Z, dvs, rfl, hc, hd, hC, hz, ht, hx, hf, q⟩ := hsp
  refine ⟨_, hbody cdv A outer sh H E p C hr (L2N.takes_of rfl rfl rfl rfl) (passes_of rfl) ⟨p.1, C, p.2.dict, p.2, dvs, rfl, List.mem_singleton.mpr rfl, hc, rfl, hd⟩, ?_⟩
  have z0 : ∀ {a}, Zof Z [] [] a → Z a := fun h => zof_nil.mp h
  refine ⟨Z, ([.x c fs] : List M.S).map some ++ List.replicate (N.length - 1) none, [], [], ⟨StOk.nil_of hz.1 hz.2 ht, ?_⟩, ?_⟩
  · have hf2 : RepF (gx G p C) (Zof Z [] []) H fs vfs := (RepF.conv like_gx hf).mono fun a o e z => ⟨.of e, fun q => z (z0 q)⟩
    have hx2 : XdAt (Zof Z [] []) H p.2.dict vfs := hx.zone fun a z => z0 z
    have r1 : SRep (gx G p C) (Zof Z [] []) H [] (.x c fs) (.ref p.1) := SRep.x (G := gx G p C) rfl hC hx2 hf2
    exact env_start (G := gx G p C) (.cons r1 .nil) hN
  · unfold dFn at q
    rw [if_pos (by rfl)] at q
    revert q
    cases fb (([.x c fs] : List M.S).map some ++ List.replicate (N.length - 1) none) [] with
    | stuck => exact fun q => q.elim
    | brk ρ s => exact fun q => q.elim
    | cont ρ s => exact fun q => q.elim
    | next ρ s' =>
      intro q σ' H' L' f' S'
      unfold cutOff at q
      simp only [List.length_nil, List.take_zero, List.all_nil, if_true] at q
      obtain ⟨f2, e⟩ := f'.cut (StOk.nil_of (G' := G) hz.1 hz.2 ht)
      simp only [List.length_nil, List.take_zero] at f2
      exact q .non H' f2 (S'.ok.tb.zone fun a z => .inl z) .non
    | ret d s' =>
      intro q v H' L' f' o' r'
      unfold cutOff at q
      simp only [List.length_nil, List.take_zero, List.all_nil, if_true] at q
      obtain ⟨f2, e⟩ := f'.cut (StOk.nil_of (G' := G) hz.1 hz.2 ht)
      simp only [List.length_nil, List.take_zero] at f2
      exact q v H' f2 (o'.tb.zone fun a z => .inl z) ((r'.zone fun a z => .inl z).conv like_gx.symm)
    | exc c fs ρ s' =>
      intro q
      unfold cutOff at q
      simp only [List.length_nil, List.take_zero, List.all_nil, if_true] at q
end
end M
namespace M
open PySem PySem.Spec L2 LamX PyProof.Rows
/-! ### a lambda is made: what becomes of the heap -/
/-- from H to H1: the table at P may grow, a code object may be new -/
structure TabTo (P : Addr) (H H1 : Hp) : Prop where
  keep : ∀ b o, H b = some o → b ≠ P → H1 b = some o
  there : ∀ b, H b ≠ none → H1 b ≠ none
  tab : ∀ ps, H P = some (.tbl ps) → ∃ ps', H1 P = some (.tbl ps')
theorem TabTo.refl {P : Addr} {H : Hp} : TabTo P H H := ⟨fun _ _ e _ => e, fun _ e => e, fun ps e => ⟨ps, e⟩⟩
section
variable {X : Cx} {pins : List (Addr × Obj)} {σ : L2.St} {H : Hp} {s : Shared}
theorem lam_new {T : List (Addr × Str)} {c P : Addr} {Zz : Zone} {params : Arguments} {body : Expr} {scope : Scope} {pos : Pos} {E : Value → Shared → Prop} {Q : Value → Shared → Prop} (I : Inv X pins σ H s) (TB : TabB X.base X.mg c P) (hcode : X.env.code = .ref c)
    (hm : (P, X.env.qual ++ "<lambda>") ∈ T) (hu : ∀ p ∈ T, p.1 = P → p.2 = X.env.qual ++ "<lambda>") (hT : TabZ T Zz H) (hz : ∀ a, Zz a → H a ≠ none) (hdef : defaultsOf params X.env = ([], [])) (hfree : ∀ y ∈ scope.names, y.2 = .free → ∃ c, X.env.cells.lookup y.1 = some c)
    (h : ∀ (f c' : Addr) (pm ctv : Value) (H1 : Hp) (s' : Shared), Inv X pins σ H1 s' → TabTo P H H1 → TabZ T Zz H1 →
      s'.heap.get? f = some (PySem.W.kla_obj "<lambda>" (X.env.qual ++ "<lambda>") params body scope (cloFrom X.env.cells scope.names []) pm c' ctv) → H1 f = none → f ∉ frs X.stack → H1 c' = some (CodeO c' (X.env.qual ++ "<lambda>")) → ¬ Zz c' → Q (.ref f) s') :
    wpAny (model X.prog X.w) X.A (eval (.Lambda params body scope pos) X.env) Q E s := by
  obtain ⟨hPz, ps, hP, ht, ha⟩ := hT _ hm
  have bP : s.heap.BuiltinsAt X.mg P := TB.bm.keeps I.bk
  have hP' : s.heap.get? P = some { cls := .none, data := .fields ps } := I.hok P _ hP
  have out : ∀ f, s.heap.objs.size ≤ f → f ∉ frs X.stack := fun f hf z => (List.mem_cons.mp (I.stkSub _ z)).elim (fun e => Nat.lt_irrefl _ (Nat.lt_of_lt_of_le (e ▸ I.lt) hf)) (I.nofs hf)
  refine PySem.W.kla_eval hdef ?_
  cases hc : codeAmong pos ps.toList with
  | some cv =>
    obtain ⟨c', e, hco, hcz⟩ := ha pos cv hc
    subst e
    refine PySem.W.kla_makeFunctionHit (mg := X.mg) (c := c) (P := P) (ps := ps) (closure_ok hfree) I.ok.glob (I.mod.glob.keeps I.bk) hcode (TB.code.keeps I.bk) hP' ht hc bP fun ctv h' tk hx hsz => ?_
    exact h h'.objs.size c' _ ctv H _ (I.kept (t' := tk) fun b o e => Heap.get?_push_of_some _ (hx b o e)) .refl hT (Heap.get?_push_size _ rfl) (I.hok.fresh hsz) (out _ hsz) hco hcz
  | none =>
    refine PySem.W.kla_makeFunction (mg := X.mg) (c := c) (P := P) (ps := ps) (closure_ok hfree) I.ok.glob (I.mod.glob.keeps I.bk) hcode (TB.code.keeps I.bk) hP' ht hc TB.gP bP fun c' ctv h' tk hx hge hlt hrec htb => ?_
    obtain ⟨c2, oc, vs, t, e2, hoc, hd, hv⟩ := hrec
    cases e2
    have nC : H c' = none := I.hok.fresh hge
    have hsz : s.heap.objs.size ≤ h'.objs.size := Nat.le_trans hge (Nat.le_of_lt hlt)
    have J := inv_table (t' := tk) (more := #[rawInt pos.line, rawInt pos.col, .ref c']) (h' := h'.push (PySem.W.kla_obj "<lambda>" (X.env.qual ++ "<lambda>") params body scope (cloFrom X.env.cells scope.names []) ((X.mg "__name__").getD .none) c' ctv)) I hP
      (fun b o hb e => Heap.get?_push_of_some _ (hx b o hb e)) (Heap.get?_push_of_some _ htb) hge ⟨oc, vs, t, Heap.get?_push_of_some _ hoc, hd, hv⟩
    have nPc : P ≠ c' := ne_of_none hP nC
    have kp : ∀ b o, H b = some o → b ≠ P → upd (upd H P (.tbl (ps ++ #[rawInt pos.line, rawInt pos.col, .ref c']))) c' (CodeO c' (X.env.qual ++ "<lambda>")) b = some o := fun b o e n => by rw [upd_ne (ne_of_none e nC), upd_ne n]; exact e
    have atP : upd (upd H P (.tbl (ps ++ #[rawInt pos.line, rawInt pos.col, .ref c']))) c' (CodeO c' (X.env.qual ++ "<lambda>")) P = some (.tbl (ps ++ #[rawInt pos.line, rawInt pos.col, .ref c'])) := by rw [upd_ne nPc, upd_same]
    have czn : ¬ Zz c' := fun z => hz c' z nC
    have codeP : ∀ {c0 : Addr} {q : Str}, H c0 = some (CodeO c0 q) → c0 ≠ P := fun {c0 q} e z => by
      rw [z, hP] at e
      exact codeO_ne ps (Option.some.inj e).symm
    refine h h'.objs.size c' _ ctv _ _ J ⟨kp, fun b e => ?_, fun _ _ => ⟨_, atP⟩⟩ (fun p hp => ?_) (Heap.get?_push_size _ rfl) ?_ (out _ hsz) upd_same czn
    · cases e1 : H b with
      | none => exact absurd e1 e
      | some o =>
        by_cases hb : b = P
        · rw [hb, atP]; simp
        · rw [kp b o e1 hb]; simp
    · obtain ⟨z0, ps', a1, a2, a3⟩ := hT p hp
      by_cases hb : p.1 = P
      · refine ⟨z0, _, by rw [hb]; exact atP, ?_, fun p' cv hcv => ?_⟩
        · simpa using PySem.TriplesOk_snoc _ _ _ _ ht
        · have hcv : codeAmong p' (ps.toList ++ [rawInt pos.line, rawInt pos.col, .ref c']) = some cv := by simpa using hcv
          rcases among_app _ ht hcv with z | z
          · obtain ⟨c0, e1, e2, e3⟩ := ha p' cv z
            exact ⟨c0, e1, kp _ _ (by rw [hu p hp hb]; exact e2) (codeP e2), e3⟩
          · exact ⟨c', z, by rw [hu p hp hb]; exact upd_same, czn⟩
      · refine ⟨z0, ps', kp _ _ a1 hb, a2, fun p' cv hcv => ?_⟩
        obtain ⟨c0, e1, e2, e3⟩ := a3 p' cv hcv
        exact ⟨c0, e1, kp _ _ e2 (codeP e2), e3⟩
    · have n1 : h'.objs.size ≠ c' := Nat.ne_of_gt hlt
      have n2 : h'.objs.size ≠ P := Nat.ne_of_gt (Nat.lt_of_lt_of_le (Heap.lt_size hP') hsz)
      rw [upd_ne n1, upd_ne n2]
      exact I.hok.fresh hsz
end
section
variable {G : Wd} {Z : Zone} {L : List Addr} {st : Sto} {H H1 : Hp} {P : Addr}
theorem Fw.tab {ps : Array Value} (hz : ¬ Zof Z L st P) (hP : H P = some (.tbl ps)) (t : TabTo P H H1) : Fw Z L st H L st H1 := by
  obtain ⟨ps', h1⟩ := t.tab ps hP
  refine ⟨⟨[], by simp, by simp⟩, fun a o e _ => ?_, t.there, fun a o z e => t.keep a o e fun y => hz (.inl (y ▸ z)), fun n o' _ e l => ⟨o', e, l⟩⟩
  by_cases ha : a = P
  · subst ha
    rw [hP] at e
    cases e
    exact ⟨_, h1, .inr (.inr (.inr ⟨_, _, rfl, rfl⟩))⟩
  · exact .of (t.keep a o e ha)
theorem StOk.tab {ps : Array Value} (S : StOk G Z L st H) (hz : ¬ Zof Z L st P) (hP : H P = some (.tbl ps)) (t : TabTo P H H1) (tz : TabZ G.T (Zof Z L st) H1) : StOk G Z L st H1 := by
  have f := Fw.tab hz hP t
  refine ⟨S.len, S.nd, fun n a o e1 e2 => ?_, fun a z => t.there a (S.z0 a z), S.zl, fun a m => t.there a (S.lh a m), tz, nt_zk S.z0 S.nt fun a o z e => t.keep a o e fun y => hz (.inl (y ▸ z))⟩
  refine OOk.zk (fun b hb => ?_) f (fun l => ⟨n, o, e1, e2, l⟩) (S.obj n a o e1 e2)
  obtain ⟨u, e⟩ : ∃ u, H b = some u := by
    obtain ⟨n, o', e1, _⟩ := hb
    exact Option.ne_none_iff_exists'.mp (S.lh b (List.mem_of_getElem? e1))
  rw [e]
  exact t.keep b u e fun y => hz (.inr (y ▸ hb))
end
end M
namespace M
open PySem PySem.Spec L2 PyProof.Rows
/-! ### xs.count(y), xs.index(y) -/
def cntB (f : PyData → Bool) : List PyData → Nat
  | [] => 0 | d :: r => (if f d = true then 1 else 0) + cntB f r
def rCountD (K : PySem.W.Frag) : V → List V → Hp → VK → Prop := fun x xs H Q => ∃ (a : Addr) (y : V) (d : PyData) (ds : List PyData), x = V.ref a ∧ xs = [y] ∧ Dp K H (V.ref a) (.list ds) ∧ Dp K H y d ∧ SeqAt.shaped (.list ds) = true ∧ SeqAt.shaped d = true ∧
  Q (.int (ds.countP fun z => PyData.eqv z d : Nat)) H
section
variable {G : Wd} {W : WX} {X : Cx}
theorem mt_countD (hu : X.A.units + 65 < cLine) : MtR X "list.count" (rCountD X.K) := by
  intro pins s σ H x xs v us Q I rx rxs h
  obtain ⟨a, y, d, ds, rfl, rfl, hl, hy, sl, sd, q⟩ := h
  cases rx
  cases rxs with
  | cons ry rt =>
    rename_i uy ut
    cases rt
    obtain ⟨bs, r1⟩ := Dp.reads I d y uy hy ry
    have hxs : PyData.canLayAll0 ds = true := SeqAt.canLay_of_shaped sl
    have hroom : X.A.units + 1 + min (PyData.depthAll ds) d.depth < cLine := room_in_shaped sd hu
    cases hl with
    | lst hs ha =>
      obtain ⟨its, rv, ⟨⟨cls, dd, data, sls⟩, n, ho, hc, hdn, hdt⟩, hlen⟩ := I.list hs
      simp only at hc hdt
      subst hc hdt
      obtain ⟨as, h4⟩ := Dp.readsAll I ds _ its ha rv
      have hmap : its.map (SeqAt.readOf s.heap) = ds := SeqAt.readsAll_map ds its as hxs h4
      refine call_meets PySem.F.slot_list_count ⟨_, ho, rfl⟩ PySem.F.entry_list_count (PySem.F.args_list_count_2 _ _)
        (SeqAt.list_countAt a its.toArray n dd sls uy fun u => PyData.eqv (SeqAt.readOf s.heap u) d) ⟨ho, SeqAt.items_eqAt (vs := its.toArray) (show ReadsAll s.heap its.toArray.toList ds as from h4) r1 hxs (SeqAt.canLay_of_shaped sd) hroom, ?_⟩
      refine ⟨.int (ds.countP fun z => PyData.eqv z d : Nat), H, I.tok _, ⟨s.toks, ?_⟩, q⟩
      show Value.int ((its.countP fun u => PyData.eqv (SeqAt.readOf s.heap u) d : Nat) : Int) s.toks = _
      rw [← hmap, List.countP_map]
      rfl
def dCount (c d : D) : Option D := match c with
  | .lst ds => if (D.flat 60 d && D.flats 59 ds) = true then some (.int (ds.countP fun z => D.eqv z d : Nat)) else none
  | _ => none
def dIndex (c d : D) : Option D := match c with
  | .lst ds => if (D.flat 60 d && D.flats 59 ds) = true then (ds.findIdx? fun z => D.eqv z d).map fun j => .int (j : Nat) else none
  | _ => none
/-- o.m(e), o a list -/
@[simp] def eLm (g : D → D → Option D) (f h : Den) : Den := fun ρ st => (f ρ st).bind fun d st => match d with
  | .lst ds => (h ρ st).bind fun e st2 => match g (.lst ds) e with | some z => .ok z st2 | none => .stuck
  | _ => .stuck
theorem me_lm {g : D → D → Option D} {r : V → List V → Hp → VK → Prop} {id : String} {name : Str} {o e : Expr} {f h : Den} {apos cpos : Pos} (slot : Slot "list" name id) (hty : typeOf (.builtin id) = pure (.type "method_descriptor")) (hm : MtR X id r)
    (sm : ∀ Z H ds e x y z Q, In Z H → Rep G Z H (.lst ds) x → Rep G Z H e y → g (.lst ds) e = some z → (∀ v, Rep G Z H z v → Q v H) → r x [y] H Q) (ho : ME G W X o f) (he : ME G W X e h)
    (hbase : attributeBase o name X.env (eval o X.env) = eval o X.env := by rfl)
    (hfew : ((backTo cpos (starEach [e] X.env)).all (fun x => !x.1) && (backToKw cpos (keywordEach [] X.env)).all (fun x => x.1.isSome)
      && decide (([e] : List Expr).length + ([] : List Keyword).length + (if ([] : List Keyword).isEmpty then 0 else 1) < 30)) = true := by rfl)
    (hline : (apos.endLine == cpos.line) = true := by rfl) (hs : starEach [e] X.env = (false, eval e X.env) :: starEach [] X.env := by rfl) (hplain : (backTo cpos (starEach [] X.env)).any (·.1) = false := by rfl) :
    ME G W X (.Call (.Attribute o name apos) [e] [] cpos) (eLm g f h) :=
  PE.imp (pe_bm PySem.F.plainAttrs_list slot hty hm ho (pa_cons he pa_nil hs) hbase hfew hline hs hplain) fun σ H Q q => by
    obtain ⟨Z, ρ, st, L, S, q⟩ := q
    refine ⟨Z, ρ, st, L, S, PostR.bind q fun d st1 x H1 L1 e1 f1 o1 r1 q1 => ?_⟩
    cases d with
    | lst ds =>
      refine ⟨?_, Z, ρ, st1, L1, S.to f1 o1, PostR.bind q1 fun d2 st2 y H2 L2 e2 f2 o2 r2 q2 => ?_⟩
      · cases r1 with
        | lst r z h => exact .inl ⟨rfl, _, .inl r⟩
      · have r1' := r1.mono f2.keeps
        split at q2
        · rename_i z ez
          exact sm _ _ _ _ _ _ z _ o2.inn r1' r2 ez fun v rv => q2 v H2 L2 Fw.refl o2 rv
        · exact q2.elim
    | _ => exact q1.elim
theorem sm_count (hK : G.K = X.K) : ∀ Z H ds e x y z Q, In Z H → Rep G Z H (.lst ds) x → Rep G Z H e y → dCount (.lst ds) e = some z → (∀ v, Rep G Z H z v → Q v H) → rCountD X.K x [y] H Q := by
  intro Z H ds e x y z Q hi rx ry ez q
  simp only [dCount] at ez
  split at ez
  · rename_i hf
    rw [Bool.and_eq_true] at hf
    have hl : D.flat 60 (.lst ds) = true := hf.2
    cases ez
    have d1 := hK ▸ rx.dp hl
    have d2 := hK ▸ ry.dp hf.1
    have e1 : D.py (.lst ds) = .list (D.pys ds) := by unfold D.py; rfl
    rw [e1] at d1
    obtain ⟨a, rfl⟩ : ∃ a, x = .ref a := by cases rx with | lst r z h => exact ⟨_, rfl⟩
    refine ⟨a, y, e.py, D.pys ds, rfl, rfl, d1, d2, by rw [← e1]; exact py_shaped hl, py_shaped hf.1, ?_⟩
    have hc : ∀ l : List D, (D.pys l).countP (fun z => PyData.eqv z e.py) = l.countP fun z => D.eqv z e := by
      intro l
      induction l with
      | nil => rfl
      | cons z l ih => unfold D.pys; rw [List.countP_cons, List.countP_cons, ih]; rfl
    rw [hc ds]
    exact q _ (.int _)
  · cases ez
theorem pys_get : ∀ (l : List D) (i : Nat), (D.pys l)[i]? = l[i]?.map D.py
  | [], i => by simp [D.pys]
  | x :: l, 0 => by simp [D.pys]
  | x :: l, i + 1 => by simp only [D.pys, List.getElem?_cons_succ]; exact pys_get l i
theorem sm_index (hK : G.K = X.K) : ∀ Z H ds e x y z Q, In Z H → Rep G Z H (.lst ds) x → Rep G Z H e y → dIndex (.lst ds) e = some z → (∀ v, Rep G Z H z v → Q v H) → rIndexD X.K x [y] H Q := by
  intro Z H ds e x y z Q hi rx ry ez q
  simp only [dIndex] at ez
  split at ez
  · rename_i hf
    rw [Bool.and_eq_true] at hf
    have hl : D.flat 60 (.lst ds) = true := hf.2
    obtain ⟨j, hj, rfl⟩ := Option.map_eq_some_iff.mp ez
    obtain ⟨hjl, h1, h2⟩ := List.findIdx?_eq_some_iff_getElem.mp hj
    have d1 := hK ▸ rx.dp hl
    have d2 := hK ▸ ry.dp hf.1
    have e1 : D.py (.lst ds) = .list (D.pys ds) := by unfold D.py; rfl
    rw [e1] at d1
    obtain ⟨a, rfl⟩ : ∃ a, x = .ref a := by cases rx with | lst r z h => exact ⟨_, rfl⟩
    refine ⟨a, y, e.py, D.pys ds, j, ds[j].py, rfl, rfl, d1, d2, by rw [← e1]; exact py_shaped hl, py_shaped hf.1, by rw [pys_get, List.getElem?_eq_getElem hjl]; rfl, h1, fun m z' hm hz => ?_, q _ (.int _)⟩
    rw [pys_get, List.getElem?_eq_getElem (by omega)] at hz
    cases hz
    have := h2 m hm
    simpa [D.eqv] using this
  · cases ez
end
end M
/-! ### a lambda with defaults is made -/
namespace PySem.W
open PySem PySem.Spec PySem.Calls PyProof.Rows
abbrev dla_fn (name qual : Str) (params : Arguments) (body : Expr) (scope : Scope) (cl : List (Str × Addr)) (dV pm cdv ct : Value) : FuncData :=
  { kla_fn name qual params body scope cl pm cdv ct with defaults := dV }
abbrev dla_obj (name qual : Str) (params : Arguments) (body : Expr) (scope : Scope) (clos : List (Str × Addr)) (dV pm : Value) (c' : Addr) (ctv : Value) : Obj :=
  { cls := .type "function", data := .func (dla_fn name qual params body scope clos dV pm (.ref c') ctv) }
section
variable {M : Model} {A : Around} {E : Value → Shared → Prop} {s : Shared} {name qual : Str} {params : Arguments} {body : Expr} {scope : Scope} {env : Env} {c P : Addr} {ps : Array Value} {pos : Pos} {firstLine : Nat} {mg : Str → Option Value}
  {clos : List (Str × Addr)} {dV : Value} {Q : Value → Shared → Prop}
theorem dla_tail (hcl : closureFor scope env = pure clos) (hge0 : env.globals = mainGlobals) (hg : s.heap.Ns mainGlobals mg) (hcode : env.code = .ref c) (C : CodeHd s.heap c P) (hP : s.heap.get? P = some { cls := .none, data := .fields ps }) (ht : TriplesOk ps.toList)
    (hnf : codeAmong pos ps.toList = none) (hgP : mainGlobals ≠ P) (hb : s.heap.BuiltinsAt mg P)
    (h : ∀ c' ctv h' tk, Heap.ExtBut P s.heap h' → s.heap.objs.size ≤ c' → c' < h'.objs.size → h'.CodeRec (.ref c') qual → h'.get? P = some { cls := .none, data := .fields (ps ++ #[rawInt pos.line, rawInt pos.col, .ref c']) } →
      Q (.ref h'.objs.size) { s with heap := h'.push (dla_obj name qual params body scope clos dV ((mg "__name__").getD .none) c' ctv), toks := tk }) :
    wpAny M A (makeTail name qual params (.expr body) scope env dV .none none pos firstLine) Q E s := by
  obtain ⟨bm, ob, hbm, hne0, _, hneP, hbo, hcls, hdict, hdata⟩ := hb
  unfold makeTail
  rw [hcl, hge0]
  refine wpAny_bind (wpAny_pure ?_)
  cases clos with
  | nil =>
    simp only [List.isEmpty_nil, if_true]
    refine wpAny_bind (wpAny_pure (wpAny_bind (wpAny_functionCodeX hcode (C.code hP ht) (C.tab hP) hnf fun c' h' tk hx hge hlt _ hrec htb _ => ?_)))
    have hg' := hg.extBut hx hgP
    exact wpAny_bind (wpAny_builtinsFor hg' hbm hne0 (hx _ _ hneP hbo) hcls hdict hdata (wpAny_bind (wpAny_nsGet hg' (wpAny_bind (wpAny_pure (wpAny_newObj_type (h c' .none h' tk hx hge hlt hrec htb.2) (by size_fits)))))))
  | cons q r =>
    simp only [List.isEmpty_cons, Bool.false_eq_true, if_false]
    refine wpAny_bind (wpAny_newTextTuple ?_)
    refine wpAny_bind (wpAny_functionCodeX hcode ((C.keeps fun b o e => Heap.get?_push_of_some _ e).code (Heap.get?_push_of_some _ hP) ht) ((C.keeps fun b o e => Heap.get?_push_of_some _ e).tab (Heap.get?_push_of_some _ hP)) hnf fun c' h' tk hx hge hlt _ hrec htb _ => ?_)
    have hg' := (hg.push _).extBut hx hgP
    have hx' : Heap.ExtBut P s.heap h' := fun b o hb' e => hx b o hb' (Heap.get?_push_of_some _ e)
    exact wpAny_bind (wpAny_builtinsFor hg' hbm hne0 (hx' _ _ hneP hbo) hcls hdict hdata (wpAny_bind (wpAny_nsGet hg' (wpAny_bind (wpAny_pure (wpAny_newObj_type (h c' _ h' tk hx' (Nat.le_trans (by rw [Heap.size_push]; omega) hge) hlt hrec htb.2) (by size_fits)))))))
theorem dla_tailHit {cv : Value} (hcl : closureFor scope env = pure clos) (hge0 : env.globals = mainGlobals) (hg : s.heap.Ns mainGlobals mg) (hcode : env.code = .ref c) (C : CodeHd s.heap c P) (hP : s.heap.get? P = some { cls := .none, data := .fields ps }) (ht : TriplesOk ps.toList)
    (hf : codeAmong pos ps.toList = some cv) (hb : s.heap.BuiltinsAt mg P)
    (h : ∀ (ctv : Value) (h' : Heap) (tk : Tok), (∀ b o, s.heap.get? b = some o → h'.get? b = some o) → s.heap.objs.size ≤ h'.objs.size →
      Q (.ref h'.objs.size) { s with heap := h'.push { cls := .type "function", data := .func (dla_fn name qual params body scope clos dV ((mg "__name__").getD .none) cv ctv) }, toks := tk }) :
    wpAny M A (makeTail name qual params (.expr body) scope env dV .none none pos firstLine) Q E s := by
  obtain ⟨bm, ob, hbm, hne0, _, hneP, hbo, hcls, hdict, hdata⟩ := hb
  unfold makeTail
  rw [hcl, hge0]
  refine wpAny_bind (wpAny_pure ?_)
  cases clos with
  | nil =>
    simp only [List.isEmpty_nil, if_true]
    refine wpAny_bind (wpAny_pure (wpAny_bind (wpAny_functionCode_hit hcode (C.code hP ht) hf ?_)))
    exact wpAny_bind (wpAny_builtinsFor hg hbm hne0 hbo hcls hdict hdata (wpAny_bind (wpAny_nsGet hg (wpAny_bind (wpAny_pure (wpAny_newObj_type (h .none s.heap s.toks (fun _ _ e => e) (Nat.le_refl _)) (by size_fits)))))))
  | cons q r =>
    simp only [List.isEmpty_cons, Bool.false_eq_true, if_false]
    refine wpAny_bind (wpAny_newTextTuple (wpAny_bind (wpAny_functionCode_hit hcode ((C.keeps fun b o e => Heap.get?_push_of_some _ e).code (Heap.get?_push_of_some _ hP) ht) hf ?_)))
    refine wpAny_bind (wpAny_builtinsFor (hg.push _) hbm hne0 (Heap.get?_push_of_some _ hbo) hcls hdict hdata (wpAny_bind (wpAny_nsGet (hg.push _) ?_)))
    exact wpAny_bind (wpAny_pure (wpAny_newObj_type (h _ _ s.toks (fun b o e => Heap.get?_push_of_some _ e) (by rw [Heap.size_push]; omega)) (by size_fits)))
/-- lambda x=e: .. -/
theorem dla_eval {x1 : Sem Value} (hdef : defaultsOf params env = ([x1], [])) (h : wpAny M A x1 (fun v s1 => wpAny M A (newTextTuple [v]) (fun dv s2 => wpAny M A (makeTail "<lambda>" (env.qual ++ "<lambda>") params (.expr body) scope env dv .none none pos pos.line) Q E s2) E s1) E s) :
    wpAny M A (eval (.Lambda params body scope pos) env) Q E s := by
  rw [arm_eval_Lambda, hdef]
  show wpAny M A (do let dv ← evalAll [x1]; let kdv ← holding dv (evalAllOpt []); makeFunction "<lambda>" (env.qual ++ "<lambda>") params (.expr body) scope env dv kdv [] pos pos.line) Q E s
  refine wpAny_bind ?_
  simp only [evalAll]
  refine wpAny_bind (wpAny_mono h (fun v s1 h1 => ?_) fun _ _ z => z)
  refine wpAny_bind (wpAny_holding (wpAny_pure (wpAny_pure ?_)))
  refine wpAny_bind (wpAny_holding (wpAny_pure ?_))
  rw [makeFunction_eq]
  simp only [List.zip_nil_right, List.filterMap_nil, List.isEmpty_nil, List.isEmpty_cons, Bool.false_eq_true, if_true, if_false, pure_bind]
  exact wpAny_bind h1
end
end PySem.W
namespace M
open PySem PySem.Spec L2 LamX PyProof.Rows
/-! ### lambdas with parameters, with defaults -/
theorem lookup_nodup {β : Type} : ∀ {l : List (Str × β)} {x : Str} {b : β}, (l.map (·.1)).Nodup → (x, b) ∈ l → l.lookup x = some b
  | (k, v) :: r, x, b, hn, hm => by
    rw [List.lookup_cons]
    rcases List.mem_cons.mp hm with e | e
    · cases e
      simp
    · have hk : x ≠ k := fun z => by
        have := (List.nodup_cons.mp (show (k :: r.map (·.1)).Nodup from hn)).1
        exact this (List.mem_map.mpr ⟨(x, b), e, z⟩)
      have : (x == k) = false := by simpa using hk
      rw [this]
      exact lookup_nodup (List.nodup_cons.mp (show (k :: r.map (·.1)).Nodup from hn)).2 e
theorem zip_fst_sub : ∀ (ps : List Str) (us : List Value), ((ps.zip us).map (·.1)).Sublist ps
  | [], _ => by simp
  | _ :: _, [] => by simp
  | p :: ps, u :: us => by
    rw [List.zip_cons_cons, List.map_cons]
    exact (zip_fst_sub ps us).cons₂ p
theorem lookup_zip_rev {ps : List Str} {us : List Value} {j : Nat} {y : Str} {u : Value} (hn : ps.Nodup) (hp : ps[j]? = some y) (hu : us[j]? = some u) : (ps.zip us).reverse.lookup y = some u := by
  refine lookup_nodup ?_ ?_
  · rw [List.map_reverse]
    refine List.pairwise_reverse.mpr ?_
    have h2 : ((ps.zip us).map (·.1)).Nodup := hn.sublist (zip_fst_sub ps us)
    exact h2.imp fun h => Ne.symm h
  · refine List.mem_reverse.mpr ?_
    refine List.mem_iff_getElem?.mpr ⟨j, ?_⟩
    rw [List.getElem?_zip_eq_some]
    exact ⟨hp, hu⟩
section
variable {X : Cx} {pins : List (Addr × Obj)} {σ : L2.St} {H HZ : Hp} {s s1 : Shared}
theorem lam_tail {dV : Value} {T : List (Addr × Str)} {c P : Addr} {Zz : Zone} {params : Arguments} {body : Expr} {scope : Scope} {pos : Pos} {E : Value → Shared → Prop} {Q : Value → Shared → Prop} (I : Inv X pins σ H s) (TB : TabB X.base X.mg c P) (hcode : X.env.code = .ref c)
    (hm : (P, X.env.qual ++ "<lambda>") ∈ T) (hu : ∀ p ∈ T, p.1 = P → p.2 = X.env.qual ++ "<lambda>") (hT : TabZ T Zz H) (hz : ∀ a, Zz a → H a ≠ none) (hfree : ∀ y ∈ scope.names, y.2 = .free → ∃ c, X.env.cells.lookup y.1 = some c)
    (h : ∀ (f c' : Addr) (pm ctv : Value) (H1 : Hp) (s' : Shared), Inv X pins σ H1 s' → TabTo P H H1 → TabZ T Zz H1 → (∀ b o, b ≠ P → s.heap.get? b = some o → s'.heap.get? b = some o) → (∀ b o, H b = none → s.heap.get? b = some o → H1 b = none) →
      s'.heap.get? f = some (PySem.W.dla_obj "<lambda>" (X.env.qual ++ "<lambda>") params body scope (cloFrom X.env.cells scope.names []) dV pm c' ctv) → H1 f = none → f ∉ frs X.stack → H1 c' = some (CodeO c' (X.env.qual ++ "<lambda>")) → ¬ Zz c' → Q (.ref f) s') :
    wpAny (model X.prog X.w) X.A (makeTail "<lambda>" (X.env.qual ++ "<lambda>") params (.expr body) scope X.env dV .none none pos pos.line) Q E s := by
  obtain ⟨hPz, ps, hP, ht, ha⟩ := hT _ hm
  have bP : s.heap.BuiltinsAt X.mg P := TB.bm.keeps I.bk
  have hP' : s.heap.get? P = some { cls := .none, data := .fields ps } := I.hok P _ hP
  have out : ∀ f, s.heap.objs.size ≤ f → f ∉ frs X.stack := fun f hf z => (List.mem_cons.mp (I.stkSub _ z)).elim (fun e => Nat.lt_irrefl _ (Nat.lt_of_lt_of_le (e ▸ I.lt) hf)) (I.nofs hf)
  cases hc : codeAmong pos ps.toList with
  | some cv =>
    obtain ⟨c', e, hco, hcz⟩ := ha pos cv hc
    subst e
    refine PySem.W.dla_tailHit (mg := X.mg) (c := c) (P := P) (ps := ps) (closure_ok hfree) I.ok.glob (I.mod.glob.keeps I.bk) hcode (TB.code.keeps I.bk) hP' ht hc bP fun ctv h' tk hx hsz => ?_
    exact h h'.objs.size c' _ ctv H _ (I.kept (t' := tk) fun b o e => Heap.get?_push_of_some _ (hx b o e)) .refl hT (fun b o _ e => Heap.get?_push_of_some _ (hx b o e)) (fun b o e _ => e) (Heap.get?_push_size _ rfl) (I.hok.fresh hsz) (out _ hsz) hco hcz
  | none =>
    refine PySem.W.dla_tail (mg := X.mg) (c := c) (P := P) (ps := ps) (closure_ok hfree) I.ok.glob (I.mod.glob.keeps I.bk) hcode (TB.code.keeps I.bk) hP' ht hc TB.gP bP fun c' ctv h' tk hx hge hlt hrec htb => ?_
    obtain ⟨c2, oc, vs, t, e2, hoc, hd, hv⟩ := hrec
    cases e2
    have nC : H c' = none := I.hok.fresh hge
    have hsz : s.heap.objs.size ≤ h'.objs.size := Nat.le_trans hge (Nat.le_of_lt hlt)
    have J := inv_table (t' := tk) (more := #[rawInt pos.line, rawInt pos.col, .ref c']) (h' := h'.push (PySem.W.dla_obj "<lambda>" (X.env.qual ++ "<lambda>") params body scope (cloFrom X.env.cells scope.names []) dV ((X.mg "__name__").getD .none) c' ctv)) I hP
      (fun b o hb e => Heap.get?_push_of_some _ (hx b o hb e)) (Heap.get?_push_of_some _ htb) hge ⟨oc, vs, t, Heap.get?_push_of_some _ hoc, hd, hv⟩
    have nPc : P ≠ c' := ne_of_none hP nC
    have kp : ∀ b o, H b = some o → b ≠ P → upd (upd H P (.tbl (ps ++ #[rawInt pos.line, rawInt pos.col, .ref c']))) c' (CodeO c' (X.env.qual ++ "<lambda>")) b = some o := fun b o e n => by rw [upd_ne (ne_of_none e nC), upd_ne n]; exact e
    have atP : upd (upd H P (.tbl (ps ++ #[rawInt pos.line, rawInt pos.col, .ref c']))) c' (CodeO c' (X.env.qual ++ "<lambda>")) P = some (.tbl (ps ++ #[rawInt pos.line, rawInt pos.col, .ref c'])) := by rw [upd_ne nPc, upd_same]
    have czn : ¬ Zz c' := fun z => hz c' z nC
    have codeP : ∀ {c0 : Addr} {q : Str}, H c0 = some (CodeO c0 q) → c0 ≠ P := fun {c0 q} e z => by
      rw [z, hP] at e
      exact codeO_ne ps (Option.some.inj e).symm
    refine h h'.objs.size c' _ ctv _ _ J ⟨kp, fun b e => ?_, fun _ _ => ⟨_, atP⟩⟩ (fun p hp => ?_) (fun b o hb e => Heap.get?_push_of_some _ (hx b o hb e)) (fun b o e1 e2 => ?_) (Heap.get?_push_size _ rfl) ?_ (out _ hsz) upd_same czn
    · cases e1 : H b with
      | none => exact absurd e1 e
      | some o =>
        by_cases hb : b = P
        · rw [hb, atP]; simp
        · rw [kp b o e1 hb]; simp
    · obtain ⟨z0, ps', a1, a2, a3⟩ := hT p hp
      by_cases hb : p.1 = P
      · refine ⟨z0, _, by rw [hb]; exact atP, ?_, fun p' cv hcv => ?_⟩
        · simpa using PySem.TriplesOk_snoc _ _ _ _ ht
        · have hcv : codeAmong p' (ps.toList ++ [rawInt pos.line, rawInt pos.col, .ref c']) = some cv := by simpa using hcv
          rcases among_app _ ht hcv with z | z
          · obtain ⟨c0, e1, e2, e3⟩ := ha p' cv z
            exact ⟨c0, e1, kp _ _ (by rw [hu p hp hb]; exact e2) (codeP e2), e3⟩
          · exact ⟨c', z, by rw [hu p hp hb]; exact upd_same, czn⟩
      · refine ⟨z0, ps', kp _ _ a1 hb, a2, fun p' cv hcv => ?_⟩
        obtain ⟨c0, e1, e2, e3⟩ := a3 p' cv hcv
        exact ⟨c0, e1, kp _ _ e2 (codeP e2), e3⟩
    · have n1 : b ≠ c' := fun z => by
        rw [z] at e2
        exact Nat.lt_irrefl _ (Nat.lt_of_lt_of_le (Heap.lt_size e2) hge)
      have n2 : b ≠ P := fun z => by
        rw [z, hP] at e1
        cases e1
      rw [upd_ne n1, upd_ne n2]
      exact e1
    · have n1 : h'.objs.size ≠ c' := Nat.ne_of_gt hlt
      have n2 : h'.objs.size ≠ P := Nat.ne_of_gt (Nat.lt_of_lt_of_le (Heap.lt_size hP') hsz)
      rw [upd_ne n1, upd_ne n2]
      exact I.hok.fresh hsz
/-- what the evaluation of a lambda gives: a function that, called with m arguments, binds ps to them and then to vs -/
def LamMk (X : Cx) (T : List (Addr × Str)) (P : Addr) (params : Arguments) (body : Expr) (scope : Scope) (lpos : Pos) (ps : List Str) (m : Nat) (vs : List V) : Prop :=
  ∀ (Zz : Zone) (pins : List (Addr × Obj)) (σ : L2.St) (H : Hp) (s : Shared) (E : Value → Shared → Prop) (Q : Value → Shared → Prop), Inv X pins σ H s → TabZ T Zz H → (∀ a, Zz a → H a ≠ none) →
    (∀ (f c' : Addr) (dV pm ctv : Value) (H1 : Hp) (s' : Shared), Inv X pins σ H1 s' → TabTo P H H1 → TabZ T Zz H1 →
      s'.heap.get? f = some (PySem.W.dla_obj "<lambda>" (X.env.qual ++ "<lambda>") params body scope (cloFrom X.env.cells scope.names []) dV pm c' ctv) → H1 f = none → f ∉ frs X.stack → H1 c' = some (CodeO c' (X.env.qual ++ "<lambda>")) → ¬ Zz c' →
      (∀ (H2 : Hp) (s2 : Shared), Un (frs X.stack) [] H1 H2 s'.heap s2.heap → ∃ us : List Value, Vals vs us ∧ ∀ us0 : List Value, us0.length = m → BindsTo s2 (PySem.W.dla_fn "<lambda>" (X.env.qual ++ "<lambda>") params body scope (cloFrom X.env.cells scope.names []) dV pm (.ref c') ctv) ⟨us0, []⟩ (ps.zip (us0 ++ us))) →
      Q (.ref f) s') →
    wpAny (model X.prog X.w) X.A (eval (.Lambda params body scope lpos) X.env) Q E s
theorem lamMk_plain {T : List (Addr × Str)} {c P : Addr} {params : Arguments} {body : Expr} {scope : Scope} {lpos : Pos} {ps : List Str} {m : Nat} (TB : TabB X.base X.mg c P) (hcode : X.env.code = .ref c)
    (hm : (P, X.env.qual ++ "<lambda>") ∈ T) (hu : ∀ p ∈ T, p.1 = P → p.2 = X.env.qual ++ "<lambda>") (hfree : X.Ok → ∀ y ∈ scope.names, y.2 = .free → ∃ c, X.env.cells.lookup y.1 = some c) (hdef : defaultsOf params X.env = ([], []))
    (hbind : ∀ (q : Str) (cl : List (Str × Addr)) (pm cv ctv : Value) (us : List Value), us.length = m → bindArgs (PySem.W.kla_fn "<lambda>" q params body scope cl pm cv ctv) ⟨us, []⟩ = pure (ps.zip us)) :
    LamMk X T P params body scope lpos ps m [] := by
  intro Zz pins σ H s E Q I hT hz h
  refine PySem.W.kla_eval hdef ?_
  rw [makeFunction_eq]
  simp only [List.zip_nil_right, List.filterMap_nil, List.isEmpty_nil, if_true, pure_bind]
  refine lam_tail (dV := .none) I TB hcode hm hu hT hz (hfree I.ok) fun f c' pm ctv H1 s' I1 tt T1 _ _ hf hfn hfr hco hcz => ?_
  exact h f c' .none pm ctv H1 s' I1 tt T1 hf hfn hfr hco hcz fun H2 s2 un => ⟨[], .nil, fun us0 hl => by rw [List.append_nil]; exact .of_eq (hbind _ _ _ _ _ us0 hl)⟩
theorem lamMk_int {n : Int} {jd : Nat} {dp : Pos} {x : Str} {T : List (Addr × Str)} {c P : Addr} {params : Arguments} {body : Expr} {scope : Scope} {lpos : Pos} (TB : TabB X.base X.mg c P) (hcode : X.env.code = .ref c)
    (hm : (P, X.env.qual ++ "<lambda>") ∈ T) (hu : ∀ p ∈ T, p.1 = P → p.2 = X.env.qual ++ "<lambda>") (hfree : X.Ok → ∀ y ∈ scope.names, y.2 = .free → ∃ c, X.env.cells.lookup y.1 = some c) (hdef : defaultsOf params X.env = ([eval (.Constant (.int n) jd dp) X.env], []))
    (hbind : ∀ (q : Str) (cl : List (Str × Addr)) (pm cv ctv dV : Value), ∃ k : Option (Array Value) → Sem (List (Str × Value)), bindArgs (PySem.W.dla_fn "<lambda>" q params body scope cl dV pm cv ctv) ⟨[], []⟩ = seqItems? dV >>= k ∧ ∀ u, k (some #[u]) = pure [(x, u)]) :
    LamMk X T P params body scope lpos [x] 0 [.int n] := by
  intro Zz pins σ H s E Q I hT hz h
  refine PySem.W.dla_eval hdef (thn ((pe_int (i := n) (j := jd) (pos := dp)).run pins s σ H (fun v H1 => v = .int n ∧ H1 = H) I ⟨rfl, rfl⟩) fun u s1 ⟨v, H1, I1, r1, q1⟩ => ?_)
  obtain ⟨rfl, rfl⟩ := q1
  refine wpAny_newTextTuple ?_
  have out : ∀ f, s1.heap.objs.size ≤ f → f ∉ frs X.stack := fun f hf z => (List.mem_cons.mp (I1.stkSub _ z)).elim (fun e => Nat.lt_irrefl _ (Nat.lt_of_lt_of_le (e ▸ I1.lt) hf)) (I1.nofs hf)
  have hne : s1.heap.objs.size ≠ P := fun z => by
    obtain ⟨_, ps, hP, _⟩ := hT _ hm
    have := I1.hok.fresh (Nat.le_refl s1.heap.objs.size)
    rw [z] at this
    rw [this] at hP
    cases hP
  have I2 := I1.kept (t' := s1.toks) (h' := s1.heap.push { cls := .type "tuple", data := .seq [u].toArray }) fun b o e => Heap.get?_push_of_some _ e
  refine lam_tail (dV := .ref s1.heap.objs.size) I2 TB hcode hm hu hT hz (hfree I.ok) fun f c' pm ctv H2 s' I3 tt T1 kp kn hf hfn hfr hco hcz => ?_
  have hd0 : (s1.heap.push { cls := .type "tuple", data := .seq [u].toArray }).get? s1.heap.objs.size = some { cls := .type "tuple", data := .seq [u].toArray } := Heap.get?_push_size _ rfl
  have hd1 : s'.heap.get? s1.heap.objs.size = some { cls := .type "tuple", data := .seq [u].toArray } := kp _ _ hne hd0
  have hn1 : H2 s1.heap.objs.size = none := kn _ _ (I1.hok.fresh (Nat.le_refl _)) hd0
  refine h f c' (.ref s1.heap.objs.size) pm ctv H2 s' I3 tt T1 hf hfn hfr hco hcz fun H3 s3 un => ⟨[u], .cons r1 .nil, fun us0 hl => ?_⟩
  have e0 : us0 = [] := List.length_eq_zero_iff.mp hl
  subst e0
  obtain ⟨k, k1, k2⟩ := hbind (X.env.qual ++ "<lambda>") (cloFrom X.env.cells scope.names []) pm (.ref c') ctv (.ref s1.heap.objs.size)
  exact .of_defaults rfl (un.keep _ _ hd1 hn1 (out _ (Nat.le_refl _)) (fun z => nomatch (show s1.heap.objs.size ∈ ([] : List Addr) from z))) rfl k1 (k2 u)
/-- parameters, captured names and globals -/
structure LamP (sc : Scope) (ps : List Str) (scope : Scope) : Prop where
  kind : scope.kind = .function
  co : scope.isCoroutine = false
  gen : scope.isGenerator = false
  own : ∀ y ∈ scope.names, y.2 ≠ .cell ∧ (y.2 = .local → y.1 ∈ ps)
  free : ∀ y ∈ scope.names, y.2 = .free → sc.names.lookup y.1 = some .cell ∨ sc.names.lookup y.1 = some .free
  par : ∀ n ∈ ps, scope.names.lookup n = some .local
  nd : ps.Nodup
  no : scope.names.lookup ("" : Str) = none
def lamPB (sc : Scope) (ps : List Str) (scope : Scope) : Bool :=
  decide (scope.kind = .function) && !scope.isCoroutine && !scope.isGenerator && (scope.names.all fun y => !decide (y.2 = .cell) && (!decide (y.2 = .local) || decide (y.1 ∈ ps)) && (!decide (y.2 = .free) || decide (sc.names.lookup y.1 = some .cell) || decide (sc.names.lookup y.1 = some .free)))
   && (ps.all fun n => decide (scope.names.lookup n = some .local)) && decide ps.Nodup && decide (scope.names.lookup ("" : Str) = none)
theorem lamP_by {sc scope : Scope} {ps : List Str} (h : lamPB sc ps scope = true) : LamP sc ps scope := by
  unfold lamPB at h
  simp only [Bool.and_eq_true, Bool.or_eq_true, Bool.not_eq_true', decide_eq_true_eq, decide_eq_false_iff_not, List.all_eq_true] at h
  obtain ⟨⟨⟨⟨⟨⟨h1, h2⟩, h3⟩, h4⟩, h5⟩, h6⟩, h7⟩ := h
  refine ⟨h1, h2, h3, fun y hy => ⟨(h4 y hy).1.1, fun e => ?_⟩, fun y hy e => ?_, h5, h6, h7⟩
  · rcases (h4 y hy).1.2 with z | z
    · exact absurd e z
    · exact z
  · rcases (h4 y hy).2 with (z | z) | z
    · exact absurd e z
    · exact .inl z
    · exact .inr z
theorem LamP.has {ps : List Str} {scope : Scope} (L : LamP X.env.scope ps scope) (ok : X.Ok) : ∀ y ∈ scope.names, y.2 = .free → ∃ c, X.env.cells.lookup y.1 = some c := fun y hy e => by
  rcases L.free y hy e with k | k
  · exact ok.has _ (.inl k)
  · exact ok.has _ (.inr k)
abbrev hideN (ps N : List Str) : List Str := N.map (fun y => if y ∈ ps then ("" : Str) else y)
abbrev lamCxP (X : Cx) (A : Around) (outer : List PySem.Env) (s : Shared) (H : Hp) (E : XK) (scope : Scope) (NN : List Str) (f c' : Addr) : Cx := { lamCx X A outer s H E scope f c' with N := NN }
theorem lam_startP {A : Around} {outer : List PySem.Env} {E : XK} {scope : Scope} {ps NN : List Str} (hNN : NN = hideN ps X.N ++ ps) {us : List Value} {vs : List V} {f c' : Addr} {h₁ : Heap} {tk : Nat} (I : Inv X pins σ H s) (L : LamP X.env.scope ps scope) (e0 : Env0 X.prog X.w X.K X.mg X.base A outer s1 HZ) (hd : A.handled = none)
    (un : Un (frs X.stack) [] H HZ s.heap s1.heap) (hr : Vals vs us) (hl : vs.length = ps.length) (hns : h₁.Ns s1.heap.objs.size fun y => (ps.zip us).reverse.lookup y) (kp : ∀ b o, s1.heap.get? b = some o → h₁.get? b = some o) :
    Inv (lamCxP X A outer s1 HZ E scope NN f c') [] (σ ++ vs.map some) HZ { s1 with heap := h₁, toks := tk } := by
  have hfree := L.has I.ok
  have cm : ∀ {y c}, (cloFrom X.env.cells scope.names []).lookup y = some c → X.env.cells.lookup y = some c := fun {y c} e => by
    rcases cloFrom_mem (PySem.mem_of_lookup e) with hm | ⟨h1, h2⟩
    · cases hm
    · obtain ⟨c1, hc⟩ := hfree _ h1 rfl
      have hc : X.env.cells.lookup y = some c1 := hc
      have e2 : c = c1 := by
        rw [h2, hc] <;> rfl
      rw [e2]
      exact hc
  have look : ∀ {y}, scope.names.lookup y = some .free → ∃ c, (cloFrom X.env.cells scope.names []).lookup y = some c := fun {y} hl => by
    have hy : (y, NameKind.free) ∈ scope.names := PySem.mem_of_lookup hl
    exact mem_lookup (cloFrom_has (cells := X.env.cells) (acc := []) hy)
  have cellK : ∀ {c : Addr} {v : Option Value}, H c = none → s.heap.IsCell c v → h₁.IsCell c v := fun {c v} n ⟨o, ho, hd⟩ => by
    obtain ⟨sl, q⟩ := un.any ho n (by simp)
    exact ⟨_, kp _ _ q, hd⟩
  have noA : ∀ b : Addr, b ∉ (lamCxP X A outer s1 HZ E scope NN f c').ex := fun b z => absurd (show b ∈ ([] : List Addr) from z) (by simp)
  refine ⟨⟨e0.mod, L.kind, rfl, rfl, Nat.le_refl _, fun y z c e1 e2 => I.ok.inj y z c (cm e1) (cm e2), fun y hy => ?_, fun y c z _ => ?_, fun _ => hd, Around.frames_deeper e0.frames, .inr ⟨rfl, rfl⟩, fun b z => absurd z (noA b), e0.bs, e0.bsz, fun b _ _ => noA b,
      fun b z => absurd z (noA b), e0.funs, e0.frf⟩,
    rfl, e0.bare, Un.kept kp, ⟨_, hns, fun i y v e1 e2 e3 => ?_⟩, fun y c e => ?_, e0.hok.fresh (Nat.le_refl _), fun y c e => ?_, fun q hq => absurd (show q ∈ ([] : List (Addr × Obj)) ++ [] from hq) (by simp), e0.hok.kept kp, ?_⟩
  · have hy : scope.names.lookup y = some .cell ∨ scope.names.lookup y = some .free := hy
    rcases hy with hy | hy
    · exact absurd rfl (L.own _ (PySem.mem_of_lookup hy)).1
    · exact look hy
  · have z : false = true := z
    cases z
  · have e3 : Vis scope y := e3
    have e1 : NN[i]? = some y := e1
    rw [hNN] at e1
    by_cases hi : i < X.N.length
    · rw [List.getElem?_append_left (by simpa using hi), List.getElem?_map] at e1
      rw [List.getElem?_append_left (by rw [I.len]; exact hi)] at e2
      cases eN : X.N[i]? with
      | none => rw [eN] at e1; cases e1
      | some y0 =>
        rw [eN] at e1
        have e1 : (if y0 ∈ ps then ("" : Str) else y0) = y := Option.some.inj e1
        by_cases hy0 : y0 ∈ ps
        · rw [if_pos hy0] at e1
          subst e1
          unfold Vis at e3
          rw [L.no] at e3
          rcases e3 with z | z | z <;> cases z
        · rw [if_neg hy0] at e1
          subst e1
          rcases e3 with k | k | k
          · exact absurd ((L.own _ (PySem.mem_of_lookup k)).2 rfl) hy0
          · exact absurd rfl (L.own _ (PySem.mem_of_lookup k)).1
          · obtain ⟨m, hn, hl⟩ := I.loc
            have hvis : Vis X.env.scope y0 := (L.free _ (PySem.mem_of_lookup k) rfl).elim (fun k => .inr (.inl k)) (fun k => .inr (.inr k))
            obtain ⟨w', r, q⟩ := hl i y0 v eN e2 hvis
            obtain ⟨c2, h2⟩ := look k
            refine ⟨w', r, .inr ⟨.inr k, c2, h2, ?_⟩⟩
            have c1 := cm h2
            rcases q with ⟨k', _⟩ | ⟨_, c3, e', z⟩
            · have k' : X.env.scope.names.lookup y0 = some .local := k'
              rcases L.free _ (PySem.mem_of_lookup k) rfl with k2 | k2 <;> rw [show X.env.scope.names.lookup y0 = _ from k2] at k' <;> cases k'
            · rw [c1] at e'
              cases e'
              exact cellK (I.freeC y0 _ c1) z
    · have hlN : (hideN ps X.N).length = X.N.length := by simp
      rw [List.getElem?_append_right (by rw [hlN]; omega), hlN] at e1
      rw [List.getElem?_append_right (by rw [I.len]; omega), I.len, List.getElem?_map] at e2
      cases ev : vs[i - X.N.length]? with
      | none => rw [ev] at e2; cases e2
      | some v0 =>
        rw [ev] at e2
        cases e2
        obtain ⟨u, hu, rv⟩ := hr.get ev
        exact ⟨u, rv, .inl ⟨L.par _ (List.mem_of_getElem? e1), lookup_zip_rev L.nd e1 hu⟩⟩
  · obtain ⟨w', z⟩ := I.cell y c (cm e)
    exact ⟨w', cellK (I.freeC y c (cm e)) z⟩
  · obtain ⟨v, o, ho, hd⟩ := I.cell y c (cm e)
    exact un.free c o ho (I.freeC y c (cm e)) (by simp)
  · show (σ ++ vs.map some).length = NN.length
    rw [hNN]
    simp [I.len, hl]
/-- the context of its body; what it lets out is L2N's -/
abbrev lamNP (X : Cx) (A : Around) (outer : List PySem.Env) (s : Shared) (H : Hp) (E : XK) (scope : Scope) (NN : List Str) (f c' : Addr) : Cx :=
  (lamCxP X A outer s H E scope NN f c').tr [] fun e s' => wpAny (model X.prog X.w) (A.deeper (lamEnv X scope s.heap.objs.size f c')) (leaving (lamEnv X scope s.heap.objs.size f c') e) (fun _ s'' => L2N.CX X.prog X.w outer H s E e s'') (fun e' s'' => L2N.CX X.prog X.w outer H s E e' s'') s'
/-- the function itself is called, by whom it be -/
theorem lam_code {A : Around} {outer : List PySem.Env} {f c' : Addr} {dV pm ctv : Value} {params : Arguments} {body : Expr} {scope : Scope} {ps NN : List Str} {us0 us : List Value} {vs0 vs : List V} {k : Nat} {E : XK} {Q : VK} {tb : TE} (hNN : NN = hideN ps X.N ++ ps)
    (I : Inv X pins σ H s) (L : LamP X.env.scope ps scope) (at1 : s1.heap.get? f = some (PySem.W.dla_obj "<lambda>" (X.env.qual ++ "<lambda>") params body scope (cloFrom X.env.cells scope.names []) dV pm c' ctv))
    (e0 : Env0 X.prog X.w X.K X.mg X.base A outer s1 HZ) (un : Un (frs X.stack) [] H HZ s.heap s1.heap) (hc : HZ c' = some (CodeO c' (X.env.qual ++ "<lambda>"))) (hr : Room (k + 1) A)
    (hb : BindsTo s1 (PySem.W.dla_fn "<lambda>" (X.env.qual ++ "<lambda>") params body scope (cloFrom X.env.cells scope.names []) dV pm (.ref c') ctv) ⟨us0, []⟩ (ps.zip (us0 ++ us)))
    (r0 : Vals vs0 us0) (r : Vals vs us) (hl : vs0.length + vs.length = ps.length)
    (hbody : Room k (A.deeper (lamEnv X scope s1.heap.objs.size f c')) → PE (lamNP X A outer s1 HZ E scope NN f c') body tb) (ht : tb (σ ++ (vs0 ++ vs).map some) HZ Q) :
    codeAny (model X.prog X.w) A (.call (.ref f) ⟨us0, []⟩) (CR (L2N.CX X.prog X.w) outer X.prog X.w HZ s1 Q E) s1 := by
  obtain ⟨⟨oc, ovs, t, hoc, hdc, hvc⟩, _, _⟩ := e0.hok c' _ hc
  refine PySem.W.kla_callFunE hr.depth at1 rfl L.co L.gen rfl ⟨c', oc, ovs, t, rfl, hoc, hdc, hvc⟩ ?_
  have lim : s1.heap.NoLimit := e0.mod.nolimit.keeps fun b o e => (e0.bs b o e).1
  refine hb _ _ _ _ (wpAny_newFunctionEnv (fun y hy => (L.own y hy).1) (fun y hy => L.par _ (List.of_mem_zip hy).1) (fun h₁ hns hsb => ⟨lim.fresh _ hsb, ?_⟩) L.kind)
  show codeAny _ _ (.expr body (lamEnv X scope s1.heap.objs.size f c')) _ _
  have kp : ∀ b o, s1.heap.get? b = some o → h₁.get? b = some o := fun b o e => hsb.extBut b o (Nat.ne_of_lt (Heap.lt_size e)) (Heap.get?_push_of_some _ e)
  have rr : Vals (vs0 ++ vs) (us0 ++ us) := by
    clear hb hns hl ht
    induction r0 with
    | nil => exact r
    | cons a b ih => exact .cons a ih
  have J := lam_startP (E := E) (f := f) (c' := c') (h₁ := h₁) (tk := s1.toks + (ps.zip (us0 ++ us)).length) hNN I L e0 hr.hd un rr (by rw [List.length_append]; exact hl) hns kp
  have J2 := J.toTry (fun e s' => wpAny (model X.prog X.w) (A.deeper (lamEnv X scope s1.heap.objs.size f c')) (leaving (lamEnv X scope s1.heap.objs.size f c') e) (fun _ s'' => L2N.CX X.prog X.w outer HZ s1 E e s'') (fun e' s'' => L2N.CX X.prog X.w outer HZ s1 E e' s'') s')
  refine PySem.W.kla_codeExpr (wpAny_mono ((hbody (hr.deeper _)).run [] _ _ HZ Q J2 ht) (fun v s' hq => ?_) fun e s' hq => hq)
  obtain ⟨w', H', J', rv, q⟩ := hq
  exact ⟨w', H', J'.os, J'.bare, J'.base, J'.hok, rv, q⟩
end
end M
namespace M
open PySem PySem.Spec L2 L2H LamX PyProof.Rows
section
variable {X : Cx} {pins : List (Addr × Obj)} {σ : L2.St} {H : Hp} {s : Shared}
/-- a() : what the def got is called without arguments -/
theorem pe_actP {CXg : CXT} {Eg : XK} {Ng : List Str} {qg : Str} {sg : Scope} {g f c' : Addr} {cdg dV pm ctv : Value} {params : Arguments} {body : Expr} {scope : Scope} {ps NN : List Str} {vs : List V} {k i : Nat} {a : Str} {pn : List (Addr × Obj)} {xe : Value → Shared → Prop} {W : WX} {E : XK} {tb : TE} {p1 p2 : Pos}
    (hNN : NN = hideN ps X.N ++ ps) (I : Inv X pins σ H s) (L : LamP X.env.scope ps scope) (hf : s.heap.get? f = some (PySem.W.dla_obj "<lambda>" (X.env.qual ++ "<lambda>") params body scope (cloFrom X.env.cells scope.names []) dV pm c' ctv)) (hfn : H f = none) (hfr : f ∉ frs X.stack)
    (hbind : ∀ (H2 : Hp) (s2 : Shared), Un (frs X.stack) [] H H2 s.heap s2.heap → ∃ us : List Value, Vals vs us ∧ ∀ us0 : List Value, us0.length = 0 → BindsTo s2 (PySem.W.dla_fn "<lambda>" (X.env.qual ++ "<lambda>") params body scope (cloFrom X.env.cells scope.names []) dV pm (.ref c') ctv) ⟨us0, []⟩ (ps.zip (us0 ++ us)))
    (hl : vs.length = ps.length) (tk : L2N.Takes ((cxOf CXg X.prog X.w X.K X.mg X.base Ng qg sg g cdg X.A X.stack s H Eg).tr pn xe) W) (hW : ∀ (cls : Value) (d : Option Addr) (σ' : L2.St) (H' : Hp), σ'.length = Ng.length → E cls d H' → W cls d σ' H') (hr : Room (k + 1) (X.A.deeper (envOfC qg sg s.heap.objs.size g cdg)))
    (hbody : ∀ (A : Around) (outer : List PySem.Env) (s : Shared) (H : Hp), Room k (A.deeper (lamEnv X scope s.heap.objs.size f c')) → PE (lamNP X A outer s H E scope NN f c') body tb)
    (hN : Ng[i]? = some a) (hv : Vis sg a) (hd : (a == ("__debug__" : Str)) = false := by decide) (hcd : (a == ("__classdict__" : Str)) = false := by decide) :
    PE ((cxOf CXg X.prog X.w X.K X.mg X.base Ng qg sg g cdg X.A X.stack s H Eg).tr pn xe) (.Call (.Name a p1) [] [] p2)
      (fun σZ HZ Q => σZ[i]? = some (some (.ref f)) ∧ HZ c' = some (CodeO c' (X.env.qual ++ "<lambda>")) ∧ tb (σ ++ vs.map some) HZ Q) := by
  refine ⟨fun pinsZ sZ σZ HZ Q IZ h => ?_⟩
  obtain ⟨hs, hc, ht⟩ := h
  refine wpAny_Call_Name_kw (thn ((pe_var (pos := p1) (i := i) hN hv hd hcd).run pinsZ sZ σZ HZ (fun v H1 => v = .ref f ∧ H1 = HZ) IZ ⟨.ref f, hs, rfl, rfl⟩) fun u s1 ⟨v, H1, I1, r1, q1⟩ => ?_)
  obtain ⟨ev, eH⟩ := q1
  subst ev
  rw [eH] at I1
  obtain rfl : u = Value.ref f := r1
  have un : Un (frs X.stack) [] H HZ s.heap s1.heap := I1.base
  have at1 : s1.heap.get? f = some (PySem.W.dla_obj "<lambda>" (X.env.qual ++ "<lambda>") params body scope (cloFrom X.env.cells scope.names []) dV pm c' ctv) := un.keep f _ hf hfn hfr (fun z => nomatch (show f ∈ ([] : List Addr) from z))
  refine PySem.W.callWith_F0 ⟨_, _, _, _, at1⟩ ?_
  obtain ⟨us, ru, hb⟩ := hbind HZ s1 un
  have rc : codeAny (model X.prog X.w) (X.A.deeper (envOfC qg sg s.heap.objs.size g cdg)) (.call (.ref f) ⟨[], []⟩) (CR (L2N.CX X.prog X.w) (envOfC qg sg s.heap.objs.size g cdg :: X.stack) X.prog X.w HZ s1 Q E) s1 :=
    lam_code (us0 := []) (us := us) (vs0 := []) (vs := vs) hNN I L at1 I1.env0 un hc hr (hb [] rfl) .nil ru (by simpa using hl) (hbody _ _ s1 HZ) ht
  have hx : Passes (L2N.CX X.prog X.w) ((cxOf CXg X.prog X.w X.K X.mg X.base Ng qg sg g cdg X.A X.stack s H Eg).tr pn xe) E := fun _ σ _ _ e s' I c => tk e s' (L2N.XE.of_call I (fun cls d H' h => hW cls d σ H' I.len h) c)
  refine wpAny_call (codeAny_mono rc fun r s' hq => ?_)
  cases r with
  | error e => exact hx pinsZ σZ HZ s1 e s' I1 hq
  | ok fl =>
    cases fl with
    | ret u => exact I1.after hq
    | next => exact False.elim hq
    | brk => exact False.elim hq
    | cont => exact False.elim hq
end
theorem pe_callHE {X : Cx} {p : Addr × Obj} {k : Nat} {f : Addr} {fd : FuncData} {ps : List Str} {sp : (Addr × Obj) → Sp} {x : Str} {q pos : Pos} {e : Expr} {es : List Expr} {t : TA} (F : FnHE X.prog X.w X.K X.mg X.base (L2N.CX X.prog X.w) k f fd ps sp) (hr : RoomH k X.A) (hot : Hot1 X.A p) (hp : p ∈ X.pn) (hm : X.mg x = some (.ref f)) (hk : PySem.W.keepIn X.K (.ref f) = true) (hb : Binds X.K fd ps [])
    (ha : PA X (e :: es) t) (hg : Gl X x) (hdb : (x == ("__debug__" : Str)) = false) (he : starEach (e :: es) X.env = (false, eval e X.env) :: starEach es X.env := by rfl) (hpl : (backTo pos (starEach es X.env)).any (·.1) = false := by rfl) :
    PE X (.Call (.Name x q) (e :: es) [] pos) (fun σ H Q => t σ H fun vs H1 => sp p vs H1 Q fun _ _ _ => False) := by
  refine ⟨fun pins s σ H Q I h => ?_⟩
  refine wpAny_Call_Name_kw (ld_glob I hg hm ?_ hdb)
  refine PySem.W.callWith_K (h₀ := X.base) I.ok.mod.kin hk (thn (ha.run pos pins s σ H _ I h) fun us s1 ⟨vs, H1, I1, r, q⟩ => ⟨I1.kIn, ?_⟩) he hpl
  have hl : us.length = ps.length := by rw [← r.length]; exact F.len _ _ _ _ _ q
  have b := hb s1 us I1.kIn (by rw [List.append_nil]; exact hl)
  rw [List.append_nil] at b
  have P1 := I1.pin p (List.mem_append_left _ hp)
  have hpin : PinOk X.stack H1 s1 p := ⟨P1.1, P1.2.1, fun hm => (List.mem_cons.mp (I1.stkSub p.1 hm)).elim P1.2.2.1 P1.2.2.2.1, P1.2.2.2.2⟩
  refine wpAny_call (codeAny_mono (F.run X.A X.stack s1 H1 ⟨us, []⟩ us vs Q (fun _ _ _ => False) p hr hot hpin I1.env0 b r q) fun r s' hq => ?_)
  cases r with
  | error e =>
    obtain ⟨_, _, _, _, _, _, _, _, _, _, _, _, z⟩ := (show L2N.CX X.prog X.w X.stack H1 s1 (fun _ _ _ => False) e s' from hq)
    exact z.elim
  | ok fl =>
    cases fl with
    | ret u => exact I1.after hq
    | next => exact False.elim hq
    | brk => exact False.elim hq
    | cont => exact False.elim hq
/-- x(lambda: ..), x: try: return (w, call()) / except C as e: return ref(e) -/
def plainE (ρ : Env) : Env := ρ.map fun s => match s with | some (.p d) => some (.p d) | _ => none
@[simp] def eTold (w : Str) (sub : Str → Option Bool) (ref : FD) (ds : List D) (fe : Den) : Den := fun ρ st => match fe (plainE ρ ++ ds.map fun d => some (.p d)) [] with
  | .ok d [] => .ok (.tup [.str w, d]) st
  | .exc c fs [] => (match sub c with
    | some true => (match ref [.x c fs] [] with | .ok d [] => .ok d st | _ => .stuck)
    | _ => .stuck)
  | _ => .stuck
theorem plainE_ok {G : Wd} {Z : Zone} {H : Hp} {L : List Addr} {st : Sto} {ρ : Env} {σ : L2.St} (E : EnvOk G (Zof Z L st) H L ρ σ) : EnvOk G (Zof (Zof Z L st) [] []) H [] (plainE ρ) σ := by
  refine ⟨by unfold plainE; rw [List.length_map]; exact E.1, fun i s e => ?_⟩
  unfold plainE at e
  rw [List.getElem?_map] at e
  cases er : ρ[i]? with
  | none => rw [er] at e; cases e
  | some o =>
    rw [er] at e
    cases o with
    | none => cases e
    | some u =>
      cases u with
      | p d =>
        cases e
        obtain ⟨v, ev, r⟩ := E.2 i _ er
        cases r with
        | p r => exact ⟨v, ev, .p (r.zone fun a z => zof_nil.mp z)⟩
      | r n => cases e
      | x c fs => cases e
abbrev toldS (w a ce ee rf : Str) (j kt : Nat) (q1 q2 q3 p1 p2 p4 p5 p6 p7 p8 p9 p10 : Pos) : Stmt :=
  .Try [.Return (some (.Tuple [.Constant (.str w) j q1, .Call (.Name a p1) [] [] p2] kt q2)) q3] [.ExceptHandler (some (.Name ce p4)) (some ee) [.Return (some (.Call (.Name rf p5) [.Name ee p6] [] p7)) p8] p9] [] [] p10
theorem envOk_app {G : Wd} {Z : Zone} {H : Hp} {L : List Addr} {ρ : Env} {σ : L2.St} {ds : List D} {vs : List V} (E : EnvOk G Z H L ρ σ) (r : Reps G Z H ds vs) : EnvOk G Z H L (ρ ++ ds.map fun d => some (.p d)) (σ ++ vs.map some) := by
  have hl := r.length
  refine ⟨by simp [E.1, hl], fun i s e => ?_⟩
  by_cases hi : i < ρ.length
  · rw [List.getElem?_append_left hi] at e
    rw [List.getElem?_append_left (by rw [← E.1]; exact hi)]
    exact E.2 i s e
  · rw [List.getElem?_append_right (by omega), List.getElem?_map] at e
    rw [List.getElem?_append_right (by rw [← E.1]; omega), List.getElem?_map, ← E.1]
    cases ed : ds[i - ρ.length]? with
    | none => rw [ed] at e; cases e
    | some d =>
      rw [ed] at e
      cases e
      obtain ⟨v, ev, rv⟩ := r.get ed
      exact ⟨v, by rw [ev]; rfl, .p rv⟩
section
variable {G : Wd} {W : WX} {X : Cx}
theorem me_told {x a w ce ee rf : Str} {j kt : Nat} {q1 q2 q3 p1 p2 p4 p5 p6 p7 p8 p9 p10 : Pos} {g P CE fr : Addr} {k : Nat} {pg : Arguments} {sg : Scope} {kV doc pm cdv ct oc dV : Value} {an od : Option Addr} {osl : Array (Option Value)} {fdr : FuncData} {psr : List Str}
    {params : Arguments} {body : Expr} {scope : Scope} {lps NN : List Str} {lvs : List V} {ds : List D} {fe : Den} {refd : FD} {sub : Str → Option Bool} {p lpos pos : Pos} (hm : X.mg x = some (.ref g)) (hk : PySem.W.keepIn X.K (.ref g) = true)
    (lk : X.K.lookup g = some ⟨oc, od, .func (PySem.W.fnOf x x pg [toldS w a ce ee rf j kt q1 q2 q3 p1 p2 p4 p5 p6 p7 p8 p9 p10] sg dV kV doc pm an cdv ct), osl⟩) (hcg : PySem.W.codeIn X.K cdv x = true)
    (hb : L2.Binds X.K (PySem.W.fnOf x x pg [toldS w a ce ee rf j kt q1 q2 q3 p1 p2 p4 p5 p6 p7 p8 p9 p10] sg dV kV doc pm an cdv ct) [a] []) (Sg : FnScope [a, ee] [a] sg) (hva : Vis sg a) (hee : sg.names.lookup ee = some .local)
    (hce : sg.names.lookup ce = some .globalImplicit) (hrf : sg.names.lookup rf = some .globalImplicit) (hmc : X.mg ce = some (.ref CE)) (hmr : X.mg rf = some (.ref fr)) (hkr : PySem.W.keepIn X.K (.ref fr) = true) (hbr : L2.Binds X.K fdr psr [])
    (F : FnHE X.prog X.w X.K X.mg X.base (L2N.CX X.prog X.w) k fr fdr psr (spMX G refd)) (hs : ∀ c C b, G.cls c = some C → sub c = some b → PySem.W.exmOne X.K (.ref C) (.ref CE) = some b)
    (hmk : LamMk X G.T P params body scope lpos lps 0 lvs) (hll : lvs.length = lps.length) (hds : ∀ (Z : Zone) (H : Hp), Reps G Z H ds lvs) (hmT : (P, X.env.qual ++ "<lambda>") ∈ G.T) (hr : Room (k + 3) X.A) (hNN : NN = hideN lps X.N ++ lps) (Ls : LamP X.env.scope lps scope)
    (hbody : ∀ (A : Around) (outer : List PySem.Env) (s : Shared) (H : Hp) (E : XK) (f c' : Addr), Room k (A.deeper (lamEnv X scope s.heap.objs.size f c')) → L2N.Takes (lamNP X A outer s H E scope NN f c') (WD E) → ME G (WD E) (lamNP X A outer s H E scope NN f c') body fe)
    (hg : Gl X x := by rfl) (hdb : (x == ("__debug__" : Str)) = false := by decide) (hd : (a == ("__debug__" : Str)) = false := by decide) (hcd : (a == ("__classdict__" : Str)) = false := by decide)
    (hde : (ee == ("__debug__" : Str)) = false := by decide) (hce2 : (ee == ("__classdict__" : Str)) = false := by decide) (hdc : (ce == ("__debug__" : Str)) = false := by decide) (hdr : (rf == ("__debug__" : Str)) = false := by decide) :
    ME G W X (.Call (.Name x p) [.Lambda params body scope lpos] [] pos) (eTold w sub refd ds fe) := by
  refine ⟨fun pins s σ H Q I q => ?_⟩
  obtain ⟨Z, ρ, st, L, S, q⟩ := q
  obtain ⟨hPz, ps, hP, _⟩ := S.ok.tb _ hmT
  refine wpAny_Call_Name_kw (ld_glob I hg hm ?_ hdb)
  refine PySem.W.callWith_K (h₀ := X.base) I.ok.mod.kin hk ?_ (by rfl) (by rfl)
  show wpAny _ _ (spliced ((false, eval (.Lambda params body scope lpos) X.env) :: backTo pos (starEach [] X.env))) _ _ s
  refine Calls.spliced_cons (hmk _ _ _ _ _ _ _ I S.ok.tb S.ok.inn fun f c' dV' pm' ctv H1 s' I1 tt T1 hf hfn hfr hco hcz hbd => ?_)
  refine Calls.spliced_nil ⟨I1.kIn, ?_⟩
  have f1 : Fw Z L st H L st H1 := Fw.tab hPz hP tt
  have o1 : StOk G Z L st H1 := S.ok.tab hPz hP tt T1
  have S1 : Stt G Z ρ st L σ H1 := S.to f1 o1
  have zz : ∀ a, Zof (Zof Z L st) [] [] a → Zof Z L st a := fun a z => zof_nil.mp z
  have SE : Stt G (Zof Z L st) (plainE ρ ++ ds.map fun d => some (.p d)) [] [] (σ ++ lvs.map some) H1 := ⟨o1.empty, envOk_app (plainE_ok S1.env) (hds _ _)⟩
  have rc : codeAny (model X.prog X.w) X.A (.call (.ref g) ⟨[.ref f], []⟩) (CR C8.CX0 X.stack X.prog X.w H1 s' Q C8.E0) s' := by
    refine run_ofS (k := k + 2) (N := [a, ee]) (ps := [a]) (us := [.ref f]) (vs := [.ref f]) lk hcg Sg (hr.mono (by omega)) I1.env0 (hb s' [.ref f] I1.kIn rfl) (.cons rfl .nil) rfl fun hr' => ?_
    refine ⟨_, (pss_one (L2N.ps_try_as (X := (cxOf C8.CX0 X.prog X.w X.K X.mg X.base [a, ee] x sg g cdv X.A X.stack s' H1 C8.E0).nox) (i := 1) (c := .ref CE) (Wout := fun _ _ _ _ => False)
      (tb := fun W En σ' H' => ∃ Ech : XK, (∀ (cls : Value) (d : Option Addr) (σ2 : L2.St) (H2 : Hp), σ2.length = ([a, ee] : List Str).length → Ech cls d H2 → W cls d σ2 H2) ∧ σ'[0]? = some (some (.ref f)) ∧ H' c' = some (CodeO c' (X.env.qual ++ "<lambda>")) ∧ tM G (WD Ech) fe (σ ++ lvs.map some) H' fun v H2 => ([V.str w, v] : List V).length ≤ sizeLine ∧ ∀ q, H2 q = none → En.rt (.ref q) (upd H2 q (.tup [.str w, v])))
      (ts := fun a' cls d En σ' H' => σ'[1]? = some (some (.ref a')) ∧ ∃ (C : Addr) (c0 : Str) (fs : List (Str × M.D)) (vfs : List (Str × V)), cls = .ref C ∧ G.cls c0 = some C ∧ ((∀ b, Zof Z L st b → H' b ≠ none) ∧ ∀ b, Zof Z L st b → ∀ xs, H' b ≠ some (.tup xs)) ∧ TabZ G.T (Zof Z L st) H' ∧
        XdAt (Zof Z L st) H' d vfs ∧ RepF G (Zof Z L st) H' fs vfs ∧ match refd [.x c0 fs] [] with
          | .ok dd [] => ∀ v H2, Fw (Zof Z L st) [] [] H' [] [] H2 → TabZ G.T (Zof Z L st) H2 → Rep G (Zof Z L st) H2 dd v → En.rt v H2
          | _ => False)
      rfl rfl Sg.nd rfl hee ⟨hce, hdc, .inl hmc⟩ takes0N (fun W pn xe tk _ => ?_) (fun a' oe cls d pn hz hfd => ?_))).nox, ?_⟩
    · refine ⟨fun pins s2 σ2 H2 En I2 h => ?_⟩
      obtain ⟨Ech, hW, h1, h2, h3⟩ := h
      have act := pe_actP (CXg := C8.CX0) (Eg := C8.E0) (i := 0) (E := Ech) (tb := tM G (WD Ech) fe) (k := k + 1) (p1 := p1) (p2 := p2) hNN I1 Ls hf hfn hfr hbd hll tk hW hr' (fun A outer s H hr2 => hbody A outer s H Ech f c' (hr2.mono (by omega)) (L2N.takes_of rfl rfl rfl rfl)) rfl hva hd hcd
      have hq := pss_one (ps_ret (pos := q3) (pe_tup (x1 := kt) (pos := q2) (pa_cons (pe_str (x := w) (j := j) (pos := q1)) (pa_cons act pa_nil rfl) rfl)))
      exact hq.run pins s2 σ2 H2 En I2 ⟨h1, h2, h3⟩
    · refine pss_one (PS.imp (ps_ret (pe_callHE (p := (a', oe)) F (by exact ⟨(hr'.mono (Nat.le_add_right k 2)).dp, (hr'.mono (Nat.le_add_right k 2)).un⟩) ⟨rfl, ?_⟩ List.mem_cons_self hmr hkr hbr (pa_cons (pe_var (i := 1) rfl (.inl hee) hde hce2) pa_nil rfl) hrf hdr rfl rfl)) fun En σ' H' h => ?_)
      · obtain ⟨vs, hv⟩ := hfd
        exact ⟨vs, hv, hz.2.2 vs hv⟩
      · obtain ⟨h1, C, c0, fs, vfs, e1, e2, e3, e4, e5, e6, e7⟩ := h
        obtain ⟨vs, hv⟩ := hfd
        refine ⟨_, h1, C, c0, fs, vfs, Zof Z L st, vs, rfl, hz.1.trans e1, hv, e2, e3, e4, ?_, e6, e7⟩
        show XdAt (Zof Z L st) H' oe.dict vfs
        rw [hz.2.1]
        exact e5
    · refine ⟨fun cls d H2 => ∃ (C : Addr) (c0 : Str) (fs : List (Str × M.D)) (vfs : List (Str × V)), cls = .ref C ∧ G.cls c0 = some C ∧ Fw (Zof Z L st) [] [] H1 [] [] H2 ∧ StOk G (Zof Z L st) [] [] H2 ∧ XdAt (Zof Z L st) H2 d vfs ∧ RepF G (Zof Z L st) H2 fs vfs ∧ fe (plainE ρ ++ ds.map fun d => some (.p d)) [] = .exc c0 fs [], ?_, rfl, hco, ?_⟩
      · rintro cls d σ2 H2 hlen ⟨C, c0, fs, vfs, rfl, e2, e3, e4, e5, e6, e7⟩
        simp only [eTold, e7] at q
        cases hsub : sub c0 with
        | none => rw [hsub] at q; exact q.elim
        | some b =>
          cases b with
          | false => rw [hsub] at q; exact q.elim
          | true =>
            rw [hsub] at q
            refine ⟨true, hs _ _ _ e2 hsub, fun _ a' ha' => ⟨?_, C, c0, fs, vfs, rfl, e2, ⟨e4.z0, e4.nt⟩, e4.tb.zone fun a z => zof_nil.mpr z, e5, e6, ?_⟩, fun h => by cases h⟩
            · exact List.getElem?_set_self (by rw [hlen]; show 1 < 2; omega)
            · revert q
              dsimp only
              cases refd [.x c0 fs] [] with
              | stuck => exact fun q => q.elim
              | exc _ _ _ => exact fun q => q.elim
              | ok dd st2 =>
                cases st2 with
                | cons _ _ => exact fun q => q.elim
                | nil =>
                  intro q v H3 f3 t3 r3
                  have f13 := e3.trans f3
                  exact q v H3 L (f1.trans (Fw.fromEmpty o1 f13)) (o1.fromEmpty f13 (t3.zone zz)) r3
      · refine ⟨Zof Z L st, plainE ρ ++ ds.map (fun d => some (.p d)), [], [], SE, ?_⟩
        cases hfe : fe (plainE ρ ++ ds.map fun d => some (.p d)) [] with
        | stuck => simp only [eTold, hfe] at q; exact q
        | ok d st2 =>
          simp only [eTold, hfe] at q
          cases st2 with
          | cons _ _ => exact q.elim
          | nil =>
            intro v H2 L2 f2 o2 r2
            have := nil_of_len o2
            subst this
            refine ⟨by show 2 ≤ sizeLine; rw [sizeLine_eq]; omega, fun q0 hq0 => ?_⟩
            have g1 := f1.trans (Fw.fromEmpty o1 f2)
            have o3 := o1.fromEmpty f2 o2.tb
            have sm := same_new (o := .tup [.str w, v]) hq0
            have g2 : Fw Z L st H2 L st (upd H2 q0 (.tup [.str w, v])) := Fw.same sm
            exact q (.ref q0) _ L (g1.trans g2) (o3.same sm) (.tup (.inl upd_same) (o3.fresh_out hq0) (.cons (.str w) (.cons ((r2.zone fun a z => zof_nil.mpr z).mono g2.keeps) .nil)))
        | exc c0 fs st2 =>
          simp only [eTold, hfe] at q
          cases st2 with
          | cons _ _ => exact q.elim
          | nil =>
            intro H2 L2 C dd vfs f2 o2 hC hx hr
            have := nil_of_len o2
            subst this
            exact ⟨C, c0, fs, vfs, rfl, hC, f2, o2, hx.zone fun a z => zof_nil.mpr z, hr.mono fun a o e z => ⟨.of e, fun q => z (zof_nil.mpr q)⟩, rfl⟩
  refine wpAny_call (codeAny_mono rc fun r s2 hq => ?_)
  cases r with
  | error e => exact (show False from hq).elim
  | ok fl =>
    cases fl with
    | ret u => exact I1.after hq
    | next => exact False.elim hq
    | brk => exact False.elim hq
    | cont => exact False.elim hq
end
end M
namespace M
open PySem PySem.Spec L2 LamX PyProof.Rows
/-! ### defs that ask for repr: nothing is under way around them -/
structure FnG (P : Program) (w : World) (K : PySem.W.Frag) (mg : Str → Option Value) (base : Heap) (k : Nat) (f : Addr) (fd : FuncData) (ps : List Str) (sp : Sp) : Prop where
  len : ∀ vs H Q E, sp vs H Q E → vs.length = ps.length
  run : ∀ (A : Around) (outer : List PySem.Env) (s : Shared) (H : Hp) (args : Args) (us : List Value) (vs : List V) (Q : VK) (E : XK), Room k A → A.guards = some [] → Env0 P w K mg base A outer s H → BindsTo s fd args (ps.zip us) → Vals vs us → sp vs H Q E →
    codeAny (model P w) A (.call (.ref f) args) (CR (L2N.CX P w) outer P w H s Q E) s
structure MCalG (P : Program) (w : World) (K : PySem.W.Frag) (mg : Str → Option Value) (base : Heap) (G : Wd) (k : Nat) (x : Str) (n : Nat) (dn : FD) : Prop where
  ex : ∃ (f : Addr) (fd : FuncData) (ps : List Str), FnG P w K mg base k f fd ps (spM G n dn) ∧ mg x = some (.ref f) ∧ PySem.W.keepIn K (.ref f) = true ∧ Binds K fd ps []
section
variable {P : Program} {w : World} {K : PySem.W.Frag} {mg : Str → Option Value} {base : Heap} {G : Wd}
theorem FnG.mono {j k : Nat} {f : Addr} {fd : FuncData} {ps : List Str} {sp : Sp} (F : FnG P w K mg base j f fd ps sp) (h : j ≤ k) : FnG P w K mg base k f fd ps sp :=
  ⟨F.len, fun A outer s H args us vs Q E hr => F.run A outer s H args us vs Q E (hr.mono h)⟩
theorem fn_MG {x qual : Str} {s : Stmt} {f : Addr} {fd : FuncData} {N ps : List Str} {k n : Nat} {fb : SDen} (F : Fun K x qual s f fd) (S : FnScope N ps (defScope s)) (hn : ps.length = n) (hN : n ≤ N.length)
    (hbody : ∀ (cdv : Value) (A : Around) (outer : List PySem.Env) (sh : Shared) (H : Hp) (E : XK), Room k (A.deeper (PyProof.Rows.envOfC qual (defScope s) sh.heap.objs.size f cdv)) → (A.deeper (PyProof.Rows.envOfC qual (defScope s) sh.heap.objs.size f cdv)).guards = some [] →
      L2N.Takes (cxOf (L2N.CX P w) P w K mg base N qual (defScope s) f cdv A outer sh H E) (WD E) → PassesOwn (model P w) (A.deeper (PyProof.Rows.envOfC qual (defScope s) sh.heap.objs.size f cdv)) (PyProof.Rows.envOfC qual (defScope s) sh.heap.objs.size f cdv) (cxOf (L2N.CX P w) P w K mg base N qual (defScope s) f cdv A outer sh H E).xe →
      MSs G (WD E) (cxOf (L2N.CX P w) P w K mg base N qual (defScope s) f cdv A outer sh H E) (defBody s) fb) : FnG P w K mg base (k + 1) f fd ps (spM G n (dFn n N.length fb)) := by
  obtain ⟨oc, od, kV, doc, pm, an, cdv, ct, osl, rfl, lk, hcd⟩ := F.ex
  refine ⟨fun vs H Q E h => by rw [hn]; exact h.1, fun A outer sh H args us vs Q E hr hg e0 hb r hsp => ?_⟩
  exact run_ofS lk hcd S hr e0 hb r (by rw [hn]; exact hsp.1) fun hr' => ⟨_, hbody cdv A outer sh H E hr' hg (L2N.takes_of rfl rfl rfl rfl) (passes_of rfl), spM_body hN hsp⟩
theorem cal_MG {x : Str} {s : Stmt} {f : Addr} {fd : FuncData} {ps : List Str} {k n : Nat} {dn : FD} (F : Fun K x x s f fd) (h : FnG P w K mg base k f fd ps (spM G n dn)) (hm : mg x = some (.ref f)) (b : Binds K fd ps []) : MCalG P w K mg base G k x n dn := ⟨f, fd, ps, h, hm, F.kp, b⟩
end
section
variable {G : Wd} {W : WX} {X : Cx}
theorem pe_callG {k : Nat} {f : Addr} {fd : FuncData} {ps : List Str} {sp : Sp} {x : Str} {p pos : Pos} {e : Expr} {es : List Expr} {t : TA} {E : L2.St → XK} (F : FnG X.prog X.w X.K X.mg X.base k f fd ps sp) (hr : Room k X.A) (hgd : X.A.guards = some []) (hg : Gl X x) (hm : X.mg x = some (.ref f))
    (hk : PySem.W.keepIn X.K (.ref f) = true) (hb : Binds X.K fd ps []) (hx : ∀ σ, PassesAt (L2N.CX X.prog X.w) X σ (E σ)) (ha : PA X (e :: es) t) (hdb : (x == ("__debug__" : Str)) = false)
    (he : starEach (e :: es) X.env = (false, eval e X.env) :: starEach es X.env) (hpl : (backTo pos (starEach es X.env)).any (·.1) = false) : PE X (.Call (.Name x p) (e :: es) [] pos) (tCallS sp E t) := by
  refine ⟨fun pins s σ H Q I h => wpAny_Call_Name_kw (ld_glob I hg hm ?_ hdb)⟩
  refine PySem.W.callWith_K (h₀ := X.base) I.ok.mod.kin hk (thn (ha.run pos pins s σ H _ I h) fun us s1 hh => ?_) he hpl
  obtain ⟨vs, H1, I1, r, q⟩ := hh
  have b := hb s1 us I1.kIn (by rw [List.append_nil, ← r.length]; exact F.len _ _ _ _ q)
  rw [List.append_nil] at b
  refine ⟨I1.kIn, wpAny_call (codeAny_mono (F.run X.A X.stack s1 H1 ⟨us, []⟩ us vs Q (E σ) hr hgd I1.env0 b r q) fun r s' hq => ?_)⟩
  match r, hq with
  | .error e, hq => exact hx σ pins H1 s1 e s' I1 hq
  | .ok (.ret u), hq => exact I1.after hq
  | .ok .next, hq => exact False.elim hq
  | .ok .brk, hq => exact False.elim hq
  | .ok .cont, hq => exact False.elim hq
theorem me_callG {k : Nat} {x : Str} {n : Nat} {dn : FD} {p pos : Pos} {e : Expr} {es : List Expr} {f : DenL} (c : MCalG X.prog X.w X.K X.mg X.base G k x n dn) (hr : Room k X.A) (hgd : X.A.guards = some []) (tk : L2N.Takes X W) (ha : MA G W X (e :: es) f) (hg : Gl X x := by rfl)
    (hdb : (x == ("__debug__" : Str)) = false := by decide) (he : starEach (e :: es) X.env = (false, eval e X.env) :: starEach es X.env := by rfl) (hpl : (backTo pos (starEach es X.env)).any (·.1) = false := by rfl) :
    ME G W X (.Call (.Name x p) (e :: es) [] pos) (eCall n dn f) := by
  obtain ⟨fa, fd, ps, F, hm, kp, b⟩ := c.ex
  refine PE.imp (pe_callG (E := WE W) F hr hgd hg hm kp b (fun σ => L2N.passAt tk σ) ha hdb he hpl) fun σ H Q q => ?_
  obtain ⟨Z, ρ, st, L, S, q⟩ := q
  refine ⟨Z, ρ, st, L, S, PostR.bind q fun ds st1 vs H1 L1 ed f1 o1 r1 q1 => ?_⟩
  by_cases hn : ds.length = n
  · rw [if_pos hn] at q1
    exact me_call1 o1 r1 hn q1
  · rw [if_neg hn] at q1
    exact q1.elim
end
/-! ### repr of data -/
noncomputable def dRepr (d : D) : Option D := if (D.flat 60 d && d.py.showable) = true ∧ d.py.shown.length ≤ sizeLine then some (.str d.py.shown) else none
def dEqS : D → D → Option D
  | .str x, .str y => some (.bl (decide (x = y))) | _, _ => none
section
variable {G : Wd} {X : Cx}
def rReprD (K : PySem.W.Frag) : List V → Hp → VK → Prop := fun xs H Q => ∃ x d, xs = [x] ∧ Dp K H x d ∧ SeqAt.shaped d = true ∧ d.showable = true ∧ d.shown.length ≤ sizeLine ∧ Q (.str d.shown) H
theorem call_reprD (hgd : X.A.guards = some []) (hu : X.A.units + 65 < cLine) : CallR X (.builtin "repr") (rReprD X.K) := by
  intro pins s σ H xs us Q I r h
  obtain ⟨x, d, rfl, hx, hs, hw, hz, q⟩ := h
  obtain ⟨u, rfl, rx⟩ := vals1 r
  obtain ⟨as, rd⟩ := Dp.reads I d x u hx rx
  have hl : PyData.canLay0 d = true := SeqAt.canLay_of_shaped hs
  have hd : d.depth ≤ 64 := by
    unfold SeqAt.shaped at hs
    simp only [Bool.and_eq_true, decide_eq_true_eq] at hs
    exact hs.2
  cases rd with
  | none => exact PySem.P.repr_of_none ⟨.str _, H, I.tok _, ⟨_, rfl⟩, by simpa only [PyData.shown] using q⟩
  | bool b => exact PySem.P.repr_of_bool ⟨.str _, H, I.tok _, ⟨_, rfl⟩, by simpa only [PyData.shown] using q⟩
  | int i t => exact PySem.P.repr_of_int (by simpa [PyData.showable] using hw) ⟨.str _, H, I.tok _, ⟨_, rfl⟩, by simpa only [PyData.shown] using q⟩
  | str y t => exact PySem.P.repr_of_str ⟨.str _, H, I.tok _, ⟨_, rfl⟩, by simpa only [PyData.shown] using q⟩ (by simpa only [PyData.shown] using hz)
  | list e1 e2 e3 e4 =>
    exact repr_of_reads' (.list e1 e2 e3 e4) hw (PyData.noDict_hsm (PyData.hasDict_of_canLay _ hl)) hgd (by omega) (fun _ _ e => e) (fun h' u tk k => ⟨.str _, H, I.kept (t' := tk) k, ⟨_, rfl⟩, q⟩) hz
  | tuple e1 e2 e3 e4 =>
    exact repr_of_reads' (.tuple e1 e2 e3 e4) hw (PyData.noDict_hsm (PyData.hasDict_of_canLay _ hl)) hgd (by omega) (fun _ _ e => e) (fun h' u tk k => ⟨.str _, H, I.kept (t' := tk) k, ⟨_, rfl⟩, q⟩) hz
  | dict e1 e2 e3 e4 e5 => simp [PyData.canLay0] at hl
theorem sim_repr (hK : G.K = X.K) : SimC G dRepr (rReprD X.K) := fun Z H d x z Q i rx h q => by
  unfold dRepr at h
  split at h
  · rename_i hh
    obtain ⟨h1, h2⟩ := hh
    rw [Bool.and_eq_true] at h1
    cases h
    exact ⟨x, d.py, rfl, hK ▸ rx.dp h1.1, py_shaped h1.1, h1.2, h2, q _ H (Same.refl H) (.str _)⟩
  · cases h
theorem sim_eqS : Sim2 G dEqS rEq := fun Z H d e x y z Q i rx ry h q => by
  unfold dEqS at h
  split at h
  · cases h
    obtain rfl := rx.str'
    obtain rfl := ry.str'
    refine ⟨rfl, ?_⟩
    have := q (.bl _) H (Same.refl H) (.bl _)
    simpa using this
  · cases h
end
end M
namespace M
open PySem PySem.Spec L2 LamX PyProof.Rows
/-! ### the end of a law whose def asks for repr and makes lambdas -/
abbrev tab0 : Obj := { cls := .none, data := .fields #[] }
abbrev lst0 (vs : List Value) : Obj := { cls := .type "list", data := .seq vs.toArray }
/-- the heap at the law's call: the tables, and the script where it is no constant -/
noncomputable def hp0 (T : List Addr) (a : Addr) (own : Bool) (vs : List Value) (ns : List Int) : Hp := fun b =>
  if b ∈ T then some (.tbl #[]) else if b = a ∧ own = true then some (.frz (lst0 vs) (.lst (ns.map V.int))) else none
section
variable {P : Program} {w : World} {K : PySem.W.Frag} {mg mb : Str → Option Value} {k : Nat} {fa a : Addr} {cs : List (Addr × Addr)} {fd : FuncData} {x : Str} {sp : Sp} {s₁ : Shared} {vs : List Value} {ns : List Int} {T : List Addr} {own : Bool}
theorem hp0_T {b : Addr} (h : b ∈ T) : hp0 T a own vs ns b = some (.tbl #[]) := if_pos h
theorem hp0_cases (b : Addr) : (b ∈ T ∧ hp0 T a own vs ns b = some (.tbl #[])) ∨ (b ∉ T ∧ b = a ∧ own = true ∧ hp0 T a own vs ns b = some (.frz (lst0 vs) (.lst (ns.map V.int)))) ∨ (b ∉ T ∧ hp0 T a own vs ns b = none) := by
  by_cases h1 : b ∈ T
  · exact .inl ⟨h1, if_pos h1⟩
  · by_cases h2 : b = a ∧ own = true
    · exact .inr (.inl ⟨h1, h2.1, h2.2, (if_neg h1).trans (if_pos h2)⟩)
    · exact .inr (.inr ⟨h1, (if_neg h1).trans (if_neg h2)⟩)
/-- the promise of the law's def, at one heap -/
structure AtCall (P : Program) (w : World) (K : PySem.W.Frag) (mg : Str → Option Value) (k n : Nat) (x : Str) (fa : Addr) (h : Heap) : Prop where
  ex : ∃ (fd : FuncData) (cs : List (Addr × Addr)) (sp : Sp), (∀ p ∈ cs, h.get? p.2 = some tab0) ∧ (∀ p ∈ cs, K.lookup p.2 = none) ∧ (∀ p ∈ cs, PySem.W.CodeHd h p.1 p.2) ∧ (∀ (s : Shared) (u : Value), BindsTo s fd ⟨[u], []⟩ [(x, u)]) ∧
    (∀ (H : Hp) (a : Addr) (ns : List Int), ns.length ≤ n → (∀ z ∈ ns, Builtin.Int.intBits z ≤ 1048576) → (∀ p ∈ cs, H p.2 = some (.tbl #[])) → SqL K H a (ns.map V.int) → sp [.ref a] H (fun v _ => v = .bl true) fun _ _ _ => False) ∧
    ∀ base : Heap, K.In base → base.Ns mainGlobals mg → (∀ p ∈ cs, TabB base mg p.1 p.2) → FnG P w K mg base k fa fd [x] sp
theorem fin_key {H H' : Hp} {s' : Shared} (hT : ∀ b ∈ T, s₁.heap.get? b = some tab0) (hcT : ∀ b ∈ T, ∃ c, PySem.W.CodeHd s₁.heap c b) (ha : s₁.heap.get? a = some (lst0 vs)) (eH : H = hp0 T a own vs ns) (hok : HOk P w H s₁.heap) (un : Un (frs []) [] H H' s₁.heap s'.heap) (hok' : HOk P w H' s'.heap) : OldK s₁.heap s'.heap := by
  subst eH
  have far : ∀ b o, b ∉ T → s₁.heap.get? b = some o → s'.heap.get? b = some o := fun b o nb e => by
    rcases hp0_cases (T := T) (a := a) (own := own) (vs := vs) (ns := ns) b with ⟨h, _⟩ | ⟨_, _, _, z⟩ | ⟨_, z⟩
    · exact absurd h nb
    · have g1 : s₁.heap.get? b = some (lst0 vs) := (hok b _ z).1
      have g2 : s'.heap.get? b = some (lst0 vs) := (hok' b _ (un.frzs b _ _ z)).1
      rw [g1] at e
      cases e
      exact g2
    · exact un.keep b o e z (fun h => by cases h) (fun h => by cases h)
  have near : ∀ b ∈ T, ∃ more : Array Value, s'.heap.get? b = some { cls := .none, data := .fields more } := fun b hb => by
    obtain ⟨more, z⟩ := un.tbls b #[] (hp0_T hb)
    exact ⟨_, hok' b _ z⟩
  constructor
  · intro b o e
    by_cases hb : b ∈ T
    · obtain ⟨more, hm⟩ := near b hb
      obtain ⟨c, hc⟩ := hcT b hb
      rw [hT b hb] at e
      cases e
      exact .inr (.inl ⟨(hc.tab (hT b hb)).isCodeTable, rfl, #[], more, rfl, by rw [Array.empty_append]; exact hm⟩)
    · exact .inl (far b o hb e)
  · intro b o e
    by_cases hb : b ∈ T
    · obtain ⟨more, hm⟩ := near b hb
      exact ⟨_, hm⟩
    · exact ⟨o, far b o hb e⟩
theorem env_key (KX : K.In s₁.heap) (hns : s₁.heap.Ns mainGlobals mg) (hb : s₁.heap.Ns builtinsNs mb) (hbb : ∀ x : Str, x ≠ "__name__" → mb x = bootBuiltins x) (hlim : s₁.heap.NoLimit) (hg : s₁.gens = #[]) (hT : ∀ b ∈ T, s₁.heap.get? b = some tab0) (nT : ∀ b ∈ T, K.lookup b = none)
    (ha : s₁.heap.get? a = some (lst0 vs)) (ho : own = true → K.lookup a = none) (hok : HOk P w (hp0 T a own vs ns) s₁.heap) : Env0 P w K mg (hidT s₁.heap (hp0 T a own vs ns)) callerA [] s₁ (hp0 T a own vs ns) := by
  have away : ∀ {b : Addr} {o : Obj} {es : Array DictEntry} {ep : Nat}, s₁.heap.get? b = some o → o.data = .dict es ep → hp0 T a own vs ns b = none := fun {b o es ep} e d => by
    rcases hp0_cases (T := T) (a := a) (own := own) (vs := vs) (ns := ns) b with ⟨h, _⟩ | ⟨_, rfl, _, _⟩ | ⟨_, z⟩
    · rw [hT b h] at e
      cases e
      cases d
    · rw [ha] at e
      cases e
      cases d
    · exact z
  have ns2 : ∀ {b : Addr} {m : Str → Option Value}, s₁.heap.Ns b m → (hidT s₁.heap (hp0 T a own vs ns)).Ns b m := fun {b m} ⟨o, es, ep, e, d, r⟩ => ⟨o, es, ep, hidT_get e (away e d), d, r⟩
  have kin : K.In (hidT s₁.heap (hp0 T a own vs ns)) := fun b o e => hidT_get (KX b o e) (by
    rcases hp0_cases (T := T) (a := a) (own := own) (vs := vs) (ns := ns) b with ⟨h, _⟩ | ⟨_, rfl, h, _⟩ | ⟨_, z⟩
    · rw [nT b h] at e
      cases e
    · rw [ho h] at e
      cases e
    · exact z)
  have lm := hlim
  obtain ⟨mc, l1, l2⟩ := lm
  exact ⟨rfl, ⟨kin, ns2 hns, ⟨mb, ns2 hb, hbb⟩, ⟨mc, ns2 l1, l2⟩⟩, fun b o e => of_hidT e, Nat.le_of_eq (hidT_size _ _), trivial, fun b h => absurd (show b ∈ ([] : List Addr) from h) (by simp), hok, .of_eq hg⟩
theorem tab_key {p : Addr × Addr} (hns : s₁.heap.Ns mainGlobals mg) (hT : ∀ b ∈ T, s₁.heap.get? b = some tab0) (hp : p.2 ∈ T) (C : PySem.W.CodeHd s₁.heap p.1 p.2) (ha : s₁.heap.get? a = some (lst0 vs))
    (hbm : ∃ (bm : Addr) (ob : Obj), mg "__builtins__" = some (.ref bm) ∧ bm ≠ builtinsNs ∧ s₁.heap.get? bm = some ob ∧ ob.cls = .type "module" ∧ ob.dict = some builtinsNs ∧ ob.data = .plain) : TabB (hidT s₁.heap (hp0 T a own vs ns)) mg p.1 p.2 := by
  have away : ∀ {b : Addr} {o : Obj}, s₁.heap.get? b = some o → (∀ us n, o.data ≠ .seq us n) → o.data ≠ .fields #[] → hp0 T a own vs ns b = none := fun {b o} e d1 d2 => by
    rcases hp0_cases (T := T) (a := a) (own := own) (vs := vs) (ns := ns) b with ⟨h, _⟩ | ⟨_, rfl, _, _⟩ | ⟨_, z⟩
    · rw [hT b h] at e
      cases e
      exact absurd rfl d2
    · rw [ha] at e
      cases e
      exact absurd rfl (d1 _ _)
    · exact z
  obtain ⟨og, es, ep, eg, dg, _⟩ := hns
  have gP : mainGlobals ≠ p.2 := fun z => by
    rw [z, hT _ hp] at eg
    cases eg
    cases dg
  refine ⟨?_, ?_, gP⟩
  · obtain ⟨o, us, file, tf, flags, tg, inF, text, tt, e1, r1, r2, r3, more⟩ := C
    refine ⟨o, us, file, tf, flags, tg, inF, text, tt, hidT_get e1 (away e1 (fun us n z => ?_) fun z => ?_), r1, r2, r3, more⟩ <;> rw [r2] at z <;> cases z
    simp at r3
  · obtain ⟨bm, ob, b1, b2, b3, b4, b5, b6⟩ := hbm
    refine ⟨bm, ob, b1, b2, fun z => ?_, fun z => ?_, hidT_get b3 (away b3 (fun us n z => ?_) fun z => ?_), b4, b5, b6⟩
    · rw [z, eg] at b3
      cases b3
      rw [dg] at b6
      cases b6
    · rw [z, hT _ hp] at b3
      cases b3
      cases b6
    · rw [b6] at z
      cases z
    · rw [b6] at z
      cases z
theorem at_call {n : Nat} (KX : K.In s₁.heap) (hns : s₁.heap.Ns mainGlobals mg) (hb : s₁.heap.Ns builtinsNs mb) (hbb : ∀ x : Str, x ≠ "__name__" → mb x = bootBuiltins x) (hlim : s₁.heap.NoLimit) (hg : s₁.gens = #[])
    (hbm : ∃ (bm : Addr) (ob : Obj), mg "__builtins__" = some (.ref bm) ∧ bm ≠ builtinsNs ∧ s₁.heap.get? bm = some ob ∧ ob.cls = .type "module" ∧ ob.dict = some builtinsNs ∧ ob.data = .plain)
    (ha : s₁.heap.get? a = some (lst0 vs)) (hi : IntsAre vs ns) (hl : ns.length ≤ n) (hn : n ≤ sizeLine) (hbits : ∀ z ∈ ns, Builtin.Int.intBits z ≤ 1048576) (hr : Room k callerA) (F : AtCall P w K mg k n x fa s₁.heap) :
    codeAny (model P w) callerA (.call (.ref fa) ⟨[.ref a], []⟩) (fun r s' => r = .ok (.ret (.bool true)) ∧ OldK s₁.heap s'.heap ∧ s'.os = s₁.os ∧ AllBare s'.gens) s₁ := by
  obtain ⟨fd, cs, sp, f1, f2, f3, f4, f5, f6⟩ := F.ex
  have rv := vals_ints hi
  have lz : vs.length ≤ sizeLine := by rw [hi.length]; omega
  generalize hTT : cs.map (·.2) = TT
  have g1 : ∀ b ∈ TT, s₁.heap.get? b = some tab0 := fun b hb => by
    rw [← hTT] at hb
    obtain ⟨p, hp, rfl⟩ := List.mem_map.mp hb
    exact f1 p hp
  have g2 : ∀ b ∈ TT, K.lookup b = none := fun b hb => by
    rw [← hTT] at hb
    obtain ⟨p, hp, rfl⟩ := List.mem_map.mp hb
    exact f2 p hp
  have g3 : ∀ b ∈ TT, ∃ c, PySem.W.CodeHd s₁.heap c b := fun b hb => by
    rw [← hTT] at hb
    obtain ⟨p, hp, rfl⟩ := List.mem_map.mp hb
    exact ⟨_, f3 p hp⟩
  have g4 : ∀ p ∈ cs, p.2 ∈ TT := fun p hp => by rw [← hTT]; exact List.mem_map.mpr ⟨p, hp, rfl⟩
  have aT : a ∉ TT := fun z => by
    have e := g1 a z
    rw [ha] at e
    cases e
  obtain ⟨own, ho1, ho2⟩ : ∃ own : Bool, (own = true → K.lookup a = none) ∧ (own = false → ∃ o, K.lookup a = some o) := by
    cases h : K.lookup a with
    | none => exact ⟨true, fun _ => rfl, fun z => by cases z⟩
    | some o => exact ⟨false, fun z => by (cases z), fun _ => ⟨o, rfl⟩⟩
  have hok : HOk P w (hp0 TT a own vs ns) s₁.heap := fun b u z => by
    rcases hp0_cases (T := TT) (a := a) (own := own) (vs := vs) (ns := ns) b with ⟨h, z2⟩ | ⟨_, rfl, _, z2⟩ | ⟨_, z2⟩
    · rw [z2] at z
      cases z
      exact g1 b h
    · rw [z2] at z
      cases z
      exact ⟨ha, by rw [List.length_map, ← hi.length]; exact lz, vs, _, rv, ha⟩
    · rw [z2] at z
      cases z
  have hS : SqL K (hp0 TT a own vs ns) a (ns.map V.int) := by
    cases own with
    | true =>
      rcases hp0_cases (T := TT) (a := a) (own := true) (vs := vs) (ns := ns) a with ⟨h, _⟩ | ⟨_, _, _, z2⟩ | ⟨_, z2⟩
      · exact absurd h aT
      · exact .inl (.inr ⟨_, z2⟩)
      · exfalso
        unfold hp0 at z2
        rw [if_neg aT, if_pos ⟨rfl, rfl⟩] at z2
        cases z2
    | false =>
      obtain ⟨o, e⟩ := ho2 rfl
      have e2 := KX a o e
      rw [ha] at e2
      cases e2
      exact .inr ⟨_, vs.toArray, _, e, rfl, rfl, rfl, by rw [List.size_toArray]; exact lz, by simpa using rv⟩
  have e0 := env_key (mb := mb) KX hns hb hbb hlim hg g1 g2 ha ho1 hok
  refine codeAny_mono ((f6 _ e0.mod.kin e0.mod.glob fun p hp => tab_key hns g1 (g4 p hp) (f3 p hp) ha hbm).run callerA [] s₁ _ ⟨[.ref a], []⟩ [.ref a] [.ref a] _ _ hr rfl e0 (f4 s₁ (.ref a)) (.cons rfl .nil) (f5 _ a ns hl hbits (fun p hp => hp0_T (g4 p hp)) hS)) fun r s' h => ?_
  match r, h with
  | .error e, h =>
    obtain ⟨_, _, _, _, _, _, _, _, _, _, _, _, z⟩ := h
    exact z.elim
  | .ok .next, h => exact False.elim h
  | .ok .brk, h => exact False.elim h
  | .ok .cont, h => exact False.elim h
  | .ok (.ret u), h =>
    obtain ⟨v, H', os, bare, un, hok', ru, q⟩ := h
    have q : v = .bl true := q
    subst q
    obtain rfl : u = Value.bool true := ru
    exact ⟨rfl, fin_key g1 g3 ha rfl hok un hok', os, bare⟩
theorem walk_at {l : PySem.W.OpenLaw} {n k : Nat} {q : Program} {loose : List Str} {XP : (Str → Option Value) → Heap → Prop} {YP : World → Heap → Prop} {d : DefRec} {K : Params → PySem.W.Frag} {x : Str}
    (hn : l.most = some n) (hn2 : n ≤ sizeLine) (hdf : d.params.defaults = []) (hr : Room k callerA) (hY : ∀ (w : World) (h : Heap), YP w h → (K w.params).In h)
    (F : ∀ (w : World) (mg mb : Str → Option Value) (mean : ExcName → Option Value) (fa : Addr) (h : Heap), PyProof.Rows.Top q (PySem.W.looseW q loose) mean mg mb h → (K w.params).In h → mg d.name = some (.ref fa) → AtCall l.prog w (K w.params) mg k n x fa h) :
    PySem.W.WalkO q loose XP YP l.row.toRowW d [] (fun f vs => PySem.call f vs) :=
  Att.attach_callB hn hdf fun w s₀ s₁ mg mb fa o pm cd doc a vs ns G Y ho hd hcd hmg hobj hints hlen hbits hg =>
    at_call (hY w _ Y) G.T.g G.T.b G.T.builtins G.T.nolimit hg G.T.bmain hobj hints hlen hn2 hbits hr (F w mg mb _ fa _ G.T (hY w _ Y) hmg)
/-- a def's code object and its table -/
theorem tab_at {K : PySem.W.Frag} {q : Program} {loose : List Str} {mean : ExcName → Option Value} {mg mb : Str → Option Value} {h : Heap} {x : Str} {c P : Addr} (T : PyProof.Rows.Top q loose mean mg mb h) (X : K.In h) (hr : ((PyProof.Rows.recsOf q).find? (fun e => e.name == x)).isSome = true) (ht : PySem.W.tabIn K x = some (c, P)) :
    PySem.W.CodeHd h c P ∧ h.get? P = some tab0 := by
  obtain ⟨d, hd⟩ := Option.isSome_iff_exists.mp hr
  exact PySem.W.tab_of T X hd ht
theorem tab_out {K : PySem.W.Frag} {h : Heap} {P : Addr} (X : K.In h) (hT : h.get? P = some tab0) (nt : PySem.W.noTabs K = true) : K.lookup P = none := by
  cases e : K.lookup P with
  | none => rfl
  | some o =>
    have e2 := X _ _ e
    rw [hT] at e2
    cases e2
    have h2 := List.all_eq_true.mp nt (P, tab0) (PySem.W.mem_of_lookupK e)
    exact absurd (show false = true from h2) Bool.false_ne_true
end
end M
namespace M
open PySem PySem.Spec PyProof.Rows L2
/-! ### dicts written as displays, lists made by list(..) -/
section
variable {G : Wd} {W : WX} {X : Cx} {pos : Pos}
theorem me_dic0 : ME G W X (.Dict [] [] pos) (eC (.dic [])) := PE.imp pe_dnewK fun σ H Q q => by
  obtain ⟨Z, ρ, st, L, S, q⟩ := q
  intro p hp
  have sm := same_new (o := .dK []) hp
  exact q (.ref p) _ L (Fw.same sm) (S.ok.same sm) (.dK (.inl upd_same) (S.ok.fresh_out hp) .nil)
/-- {"x": i} -/
theorem me_dic1 {x : Str} {i : Int} {j1 j2 : Nat} {p1 p2 : Pos} : ME G W X (.Dict [some (.Constant (.str x) j1 p1)] [.Constant (.int i) j2 p2] pos) (eC (.dic [(.str x, .int i)])) :=
  PE.imp (pe_disp (pps_cons pe_str pe_int pps_nil) rfl rfl (by simp) (by simp)) fun σ H Q q => by
    obtain ⟨Z, ρ, st, L, S, q⟩ := q
    intro p hp
    have sm := same_new (o := .dK [(.inr x, .int i)]) hp
    have eu : upd (upd H p (.dK [])) p (.dK (mergeK [] [(.inr x, V.int i)])) = upd H p (.dK [(.inr x, .int i)]) := by
      funext b
      by_cases hb : b = p
      · rw [hb, upd_same, upd_same]
        rfl
      · rw [upd_ne hb, upd_ne hb, upd_ne hb]
    refine ⟨upd_same, [(.inr x, .int i)], rfl, by simp, ?_⟩
    rw [eu]
    exact q (.ref p) _ L (Fw.same sm) (S.ok.same sm) (.dK (.inl upd_same) (S.ok.fresh_out hp) (.str (.int i) .nil))
end
end M
namespace M
open PySem PySem.Spec PyProof.Rows L2
/-! ### a list of one's own made by list(..), by sorted(..) -/
def lstO : D → Option (List D)
  | .lst ds => some ds | .tup ds => some ds | _ => none
def srtO : D → Option (List D)
  | .lst ds => (dInts ds).map fun ns => (sortI ns).map .int | _ => none
@[simp] def nOf (g : D → Option (List D)) (f : Den) : M.Env → Sto → Res O := fun ρ st => (f ρ st).bind fun d st => match g d with | some ds => .ok (.lst ds) st | none => .stuck
section
variable {G : Wd} {W : WX} {X : Cx} {e : Expr} {p pos : Pos} {f : Den}
def SimO (G : Wd) (g : D → Option (List D)) (r : List V → Hp → VK → Prop) : Prop := ∀ Z H d x ds Q, In Z H → View G Z H d x → g d = some ds →
  (∀ q vs, H q = none → Reps G Z H ds vs → Q (.ref q) (upd H q (.lst vs))) → r [x] H Q
theorem mn_of {g : D → Option (List D)} {r : List V → Hp → VK → Prop} {e0 : Expr} (hc : ∀ {ta : TA}, PA X [e] ta → PE X e0 (tCB r ta)) (s : SimO G g r) (ha : MV G W X e f) (hs : starEach [e] X.env = (false, eval e X.env) :: starEach [] X.env := by rfl) :
    MN G W X e0 (nOf g f) := by
  refine PE.imp (hc (pa_cons ha pa_nil hs)) fun σ H Q q => ?_
  obtain ⟨Z, ρ, st, L, S, q⟩ := q
  refine ⟨Z, ρ, st, L, S, ?_⟩
  unfold nOf at q
  revert q
  cases f ρ st with
  | stuck => exact fun q => q
  | exc c fs s => exact fun q => q
  | ok d st1 =>
    intro q x H1 L1 f1 o1 r1
    have q : match (match g d with | some ds => .ok (.lst ds) st1 | none => .stuck : Res O) with
      | .ok o st' => ∀ p H' L', FwN G Z L st H L' st' H' p → OOk G (Zof (fun a => Z a ∨ a = p) L' st') H' L' p o → Q (.ref p) H'
      | .exc c fs st' => ExP G Z L st H c fs st' fun cv dd H' => W cv dd σ H'
      | .stuck => False := q
    cases eg : g d with
    | none => rw [eg] at q; exact q.elim
    | some ds =>
      rw [eg] at q
      exact s _ _ _ _ ds _ o1.inn r1 eg fun p vs hp rv => q p _ L1 (FwN.mk_new f1 o1 hp) ⟨vs, upd_same, rv.mono (keeps_new hp)⟩
theorem simo_list (hK : G.K = X.K) : SimO G lstO (fun xs H Q => ∃ p ys, xs = [.ref p] ∧ (SqL X.K H p ys ∨ SqT X.K H p ys) ∧ ∀ l, H l = none → Q (.ref l) (upd H l (.lst ys))) := fun Z H d x ds Q i rx h q => by
  unfold lstO at h
  split at h
  · cases h
    obtain ⟨a, vs, rfl, ha, ra⟩ := rx.list
    exact ⟨a, vs, rfl, .inl (.inl ha), fun l hl => q l vs hl ra⟩
  · cases h
    obtain ⟨a, vs, rfl, ha, ra⟩ := rx.tup
    exact ⟨a, vs, rfl, .inr (hK ▸ ha), fun l hl => q l vs hl ra⟩
  · cases h
theorem mn_list (hK : G.K = X.K) (hm : X.mg "list" = none) (ha : MV G W X e f) (hg : Gl X "list" := by rfl) (hs : starEach [e] X.env = (false, eval e X.env) :: starEach [] X.env := by rfl) (hpl : (backTo pos (starEach [] X.env)).any (·.1) = false := by rfl) : MN G W X (.Call (.Name "list" p) [e] [] pos) (nOf lstO f) :=
  mn_of (fun h => pe_callTy call_list_of hg hm (by decide +kernel) h (by decide) (by decide) hs hpl) (simo_list hK) ha hs
theorem simo_sorted : SimO G srtO (rSortedI X.K) := fun Z H d x ds Q i rx h q => by
  unfold srtO at h
  split at h
  · obtain ⟨ns, h1, rfl⟩ := Option.map_eq_some_iff.mp h
    obtain ⟨a, vs, rfl, ha, ra⟩ := rx.list
    have e := ra.ofInts h1
    subst e
    refine ⟨a, ns, rfl, .inl ha, fun ns' p hp hs hn => ?_⟩
    rw [sorted_uniq (hp.trans (sortI_perm ns).symm) hs (sortI_sorted ns)]
    exact q p _ hn (reps_ints _)
  · cases h
theorem mn_sorted (hm : X.mg "sorted" = none) (ha : MV G W X e f) (hg : Gl X "sorted" := by rfl) (hs : starEach [e] X.env = (false, eval e X.env) :: starEach [] X.env := by rfl) (hpl : (backTo pos (starEach [] X.env)).any (·.1) = false := by rfl) : MN G W X (.Call (.Name "sorted" p) [e] [] pos) (nOf srtO f) :=
  mn_of (fun h => pe_callB cr_sortedI hg hm (by decide +kernel) h (by decide) (by decide) hs hpl) simo_sorted ha hs
end
end M
namespace M
open PySem PySem.Spec L2 LamX PyProof.Rows
/-! ### a def whose code object is known by its address -/
structure FunC (K : PySem.W.Frag) (x qual : Str) (st : Stmt) (f : Addr) (fd : FuncData) (c : Addr) : Prop where
  ex : ∃ (oc : Value) (od : Option Addr) (kV doc pm : Value) (an : Option Addr) (ct : Value) (osl : Array (Option Value)),
    fd = PySem.W.fnOf x qual (defArgs st) (defBody st) (defScope st) .none kV doc pm an (.ref c) ct ∧ K.lookup f = some ⟨oc, od, .func fd, osl⟩ ∧ PySem.W.codeIn K (.ref c) qual = true
  kp : PySem.W.keepIn K (.ref f) = true
section
variable {P : Program} {w : World} {K : PySem.W.Frag} {mg : Str → Option Value} {base : Heap} {G : Wd} {x qual : Str} {s : Stmt} {f : Addr} {fd : FuncData} {c : Addr} {N ps : List Str} {k n : Nat} {fb : SDen}
theorem FunC.fn (F : FunC K x qual s f fd c) : Fun K x qual s f fd := by
  obtain ⟨oc, od, kV, doc, pm, an, ct, osl, e, lk, hcd⟩ := F.ex
  exact ⟨⟨oc, od, kV, doc, pm, an, .ref c, ct, osl, e, lk, hcd⟩, F.kp⟩
theorem funC_mk {oc : Value} {od an : Option Addr} {osl : Array (Option Value)} {kV doc pm ct : Value} (l : K.lookup f = some ⟨oc, od, .func (PySem.W.fnOf x qual (defArgs s) (defBody s) (defScope s) .none kV doc pm an (.ref c) ct), osl⟩)
    (hc : PySem.W.codeIn K (.ref c) qual = true) (k : PySem.W.keepIn K (.ref f) = true) : FunC K x qual s f (PySem.W.fnOf x qual (defArgs s) (defBody s) (defScope s) .none kV doc pm an (.ref c) ct) c := ⟨⟨oc, od, kV, doc, pm, an, ct, osl, rfl, l, hc⟩, k⟩
theorem fn_MGc (F : FunC K x qual s f fd c) (S : FnScope N ps (defScope s)) (hn : ps.length = n) (hN : n ≤ N.length)
    (hbody : ∀ (A : Around) (outer : List PySem.Env) (sh : Shared) (H : Hp) (E : XK), Room k (A.deeper (PyProof.Rows.envOfC qual (defScope s) sh.heap.objs.size f (.ref c))) → (A.deeper (PyProof.Rows.envOfC qual (defScope s) sh.heap.objs.size f (.ref c))).guards = some [] →
      L2N.Takes (cxOf (L2N.CX P w) P w K mg base N qual (defScope s) f (.ref c) A outer sh H E) (WD E) → PassesOwn (model P w) (A.deeper (PyProof.Rows.envOfC qual (defScope s) sh.heap.objs.size f (.ref c))) (PyProof.Rows.envOfC qual (defScope s) sh.heap.objs.size f (.ref c)) (cxOf (L2N.CX P w) P w K mg base N qual (defScope s) f (.ref c) A outer sh H E).xe →
      MSs G (WD E) (cxOf (L2N.CX P w) P w K mg base N qual (defScope s) f (.ref c) A outer sh H E) (defBody s) fb) : FnG P w K mg base (k + 1) f fd ps (spM G n (dFn n N.length fb)) := by
  obtain ⟨oc, od, kV, doc, pm, an, ct, osl, rfl, lk, hcd⟩ := F.ex
  refine ⟨fun vs H Q E h => by rw [hn]; exact h.1, fun A outer sh H args us vs Q E hr hg e0 hb r hsp => ?_⟩
  exact run_ofS lk hcd S hr e0 hb r (by rw [hn]; exact hsp.1) fun hr' => ⟨_, hbody A outer sh H E hr' hg (L2N.takes_of rfl rfl rfl rfl) (passes_of rfl), spM_body hN hsp⟩
end
/-! ### told(lambda: ..), by name -/
structure MTold (P : Program) (w : World) (K : PySem.W.Frag) (mg : Str → Option Value) (base : Heap) (G : Wd) (k : Nat) (x : Str) (w0 : Str) (sub : Str → Option Bool) (refd : FD) : Prop where
  ex : ∃ (a ce ee rf : Str) (j kt : Nat) (q1 q2 q3 p1 p2 p4 p5 p6 p7 p8 p9 p10 : Pos) (g CE fr : Addr) (pg : Arguments) (sg : Scope) (kV doc pm cdv ct oc dV : Value) (an od : Option Addr) (osl : Array (Option Value)) (fdr : FuncData) (psr : List Str),
    (mg x = some (.ref g) ∧ PySem.W.keepIn K (.ref g) = true ∧ K.lookup g = some ⟨oc, od, .func (PySem.W.fnOf x x pg [toldS w0 a ce ee rf j kt q1 q2 q3 p1 p2 p4 p5 p6 p7 p8 p9 p10] sg dV kV doc pm an cdv ct), osl⟩ ∧ PySem.W.codeIn K cdv x = true ∧
      L2.Binds K (PySem.W.fnOf x x pg [toldS w0 a ce ee rf j kt q1 q2 q3 p1 p2 p4 p5 p6 p7 p8 p9 p10] sg dV kV doc pm an cdv ct) [a] [] ∧ FnScope [a, ee] [a] sg) ∧
    (Vis sg a ∧ sg.names.lookup ee = some .local ∧ sg.names.lookup ce = some .globalImplicit ∧ sg.names.lookup rf = some .globalImplicit ∧ mg ce = some (.ref CE) ∧ mg rf = some (.ref fr) ∧ PySem.W.keepIn K (.ref fr) = true ∧ L2.Binds K fdr psr []) ∧
    (FnHE P w K mg base (L2N.CX P w) k fr fdr psr (spMX G refd) ∧ (∀ c C b, G.cls c = some C → sub c = some b → PySem.W.exmOne K (.ref C) (.ref CE) = some b)) ∧
    (a == ("__debug__" : Str)) = false ∧ (a == ("__classdict__" : Str)) = false ∧ (ee == ("__debug__" : Str)) = false ∧ (ee == ("__classdict__" : Str)) = false ∧ (ce == ("__debug__" : Str)) = false ∧ (rf == ("__debug__" : Str)) = false
section
variable {P : Program} {w : World} {K : PySem.W.Frag} {mg : Str → Option Value} {base : Heap} {G : Wd} {k : Nat}
theorem told_mk {x w0 a ce ee rf : Str} {j kt : Nat} {q1 q2 q3 p1 p2 p4 p5 p6 p7 p8 p9 p10 : Pos} {s : Stmt} {g CE fr : Addr} {fd fdr : FuncData} {psr : List Str} {sub : Str → Option Bool} {refd : FD} (F : Fun K x x s g fd) (hm : mg x = some (.ref g))
    (hs : defBody s = [toldS w0 a ce ee rf j kt q1 q2 q3 p1 p2 p4 p5 p6 p7 p8 p9 p10]) (b : L2.Binds K fd [a] []) (Sg : FnScope [a, ee] [a] (defScope s)) (hva : Vis (defScope s) a) (hee : (defScope s).names.lookup ee = some .local)
    (hce : (defScope s).names.lookup ce = some .globalImplicit) (hrf : (defScope s).names.lookup rf = some .globalImplicit) (hmc : mg ce = some (.ref CE)) (hmr : mg rf = some (.ref fr)) (hkr : PySem.W.keepIn K (.ref fr) = true) (hbr : L2.Binds K fdr psr [])
    (R : FnHE P w K mg base (L2N.CX P w) k fr fdr psr (spMX G refd)) (he : ∀ c C b, G.cls c = some C → sub c = some b → PySem.W.exmOne K (.ref C) (.ref CE) = some b)
    (h1 : (a == ("__debug__" : Str)) = false := by decide) (h2 : (a == ("__classdict__" : Str)) = false := by decide) (h3 : (ee == ("__debug__" : Str)) = false := by decide) (h4 : (ee == ("__classdict__" : Str)) = false := by decide) (h5 : (ce == ("__debug__" : Str)) = false := by decide) (h6 : (rf == ("__debug__" : Str)) = false := by decide) :
    MTold P w K mg base G k x w0 sub refd := by
  obtain ⟨oc, od, kV, doc, pm, an, cdv, ct, osl, rfl, lk, hcd⟩ := F.ex
  rw [hs] at lk b
  exact ⟨a, ce, ee, rf, j, kt, q1, q2, q3, p1, p2, p4, p5, p6, p7, p8, p9, p10, g, CE, fr, _, _, kV, doc, pm, cdv, ct, oc, .none, an, od, osl, fdr, psr, ⟨hm, F.kp, lk, hcd, b, Sg⟩, ⟨hva, hee, hce, hrf, hmc, hmr, hkr, hbr⟩, ⟨R, he⟩, h1, h2, h3, h4, h5, h6⟩
end
section
variable {G : Wd} {W : WX} {X : Cx}
theorem me_toldM {x w0 : Str} {k : Nat} {P : Addr} {params : Arguments} {body : Expr} {scope : Scope} {lps NN : List Str} {lvs : List V} {ds : List D} {fe : Den} {refd : FD} {sub : Str → Option Bool} {p lpos pos : Pos} (m : MTold X.prog X.w X.K X.mg X.base G k x w0 sub refd)
    (hmk : LamMk X G.T P params body scope lpos lps 0 lvs) (hll : lvs.length = lps.length) (hds : ∀ (Z : Zone) (H : Hp), Reps G Z H ds lvs) (hmT : (P, X.env.qual ++ "<lambda>") ∈ G.T) (hr : Room (k + 3) X.A) (hNN : NN = hideN lps X.N ++ lps) (Ls : LamP X.env.scope lps scope)
    (hbody : ∀ (A : Around) (outer : List PySem.Env) (s : Shared) (H : Hp) (E : XK) (f c' : Addr), Room k (A.deeper (lamEnv X scope s.heap.objs.size f c')) → L2N.Takes (lamNP X A outer s H E scope NN f c') (WD E) → ME G (WD E) (lamNP X A outer s H E scope NN f c') body fe)
    (hg : Gl X x := by rfl) (hdb : (x == ("__debug__" : Str)) = false := by decide) : ME G W X (.Call (.Name x p) [.Lambda params body scope lpos] [] pos) (eTold w0 sub refd ds fe) := by
  obtain ⟨a, ce, ee, rf, j, kt, q1, q2, q3, p1, p2, p4, p5, p6, p7, p8, p9, p10, g, CE, fr, pg, sg, kV, doc, pm, cdv, ct, oc, dV, an, od, osl, fdr, psr, ⟨g1, g2, g3, g4, g5, g6⟩, ⟨k1, k2, k3, k4, k5, k6, k7, k8⟩, ⟨l1, l2⟩, h1, h2, h3, h4, h5, h6⟩ := m.ex
  exact me_told g1 g2 g3 g4 g5 g6 k1 k2 k3 k4 k5 k6 k7 k8 l1 l2 hmk hll hds hmT hr hNN Ls hbody hg hdb h1 h2 h3 h4 h5 h6
end
/-! ### classes -/
/-- the row of a table that tells whether a class is below another one -/
def subT (l : List (Str × Bool)) (c : Str) : Option Bool := l.lookup c
/-- the same of the classes' addresses: bs, one answer a class -/
def kitAll (K : PySem.W.Frag) (D : Value) : List (Str × Addr) → List (Str × Bool) → Bool
  | [], [] => true
  | (c, C) :: r, (c', b) :: r' => decide (c = c') && decide (PySem.W.kitOne K (.ref C) D = some b) && kitAll K D r r'
  | _, _ => false
theorem kitAll_ok {K : PySem.W.Frag} {D : Value} : ∀ {cl : List (Str × Addr)} {l : List (Str × Bool)}, kitAll K D cl l = true → ∀ c C b, cl.lookup c = some C → subT l c = some b → PySem.W.kitOne K (.ref C) D = some b
  | [], _, _, c, C, b, h, _ => by cases h
  | (c0, C0) :: r, [], h, _, _, _, _, _ => by cases h
  | (c0, C0) :: r, (c1, b1) :: r', h, c, C, b, h1, h2 => by
    unfold kitAll at h
    rw [Bool.and_eq_true, Bool.and_eq_true] at h
    obtain ⟨⟨e1, e2⟩, e3⟩ := h
    have e1 := of_decide_eq_true e1
    subst e1
    unfold subT at h2
    rw [List.lookup_cons] at h1 h2
    cases hb : c == c0 with
    | true =>
      rw [hb] at h1 h2
      cases h1
      cases h2
      exact of_decide_eq_true e2
    | false =>
      rw [hb] at h1 h2
      exact kitAll_ok e3 c C b h1 h2
def exmAll (K : PySem.W.Frag) (D : Value) : List (Str × Addr) → Bool
  | [] => true
  | (_, C) :: r => decide (PySem.W.exmOne K (.ref C) D = some true) && exmAll K D r
theorem exmAll_ok {K : PySem.W.Frag} {D : Value} : ∀ {cl : List (Str × Addr)}, exmAll K D cl = true → ∀ c C b, cl.lookup c = some C → (fun _ => some true : Str → Option Bool) c = some b → PySem.W.exmOne K (.ref C) D = some b
  | [], _, c, C, b, h, _ => by cases h
  | (c0, C0) :: r, h, c, C, b, h1, h2 => by
    unfold exmAll at h
    rw [Bool.and_eq_true] at h
    rw [List.lookup_cons] at h1
    cases hb : c == c0 with
    | true =>
      rw [hb] at h1
      cases h1
      cases h2
      exact of_decide_eq_true h.1
    | false =>
      rw [hb] at h1
      exact exmAll_ok h.2 c C b h1 h2
def excB (K : PySem.W.Frag) (D : Addr) : Bool := decide (PySem.W.findIn K (.ref D) "__getattribute__" = some (some (.builtin "BaseException.__getattribute__"))) && decide (PySem.W.findIn K (.ref D) "__getattr__" = some none) &&
  decide (PySem.W.subIn K (.ref D) (.type "BaseException") = some true) && PySem.W.hasDictIn K D && decide (PySem.W.findIn K (.ref D) "__class__" = some (some (.builtin "object.__class__"))) &&
  decide (PySem.W.specialIn K (.builtin "object.__class__") "__get__" = some (some (.builtin "getset_descriptor.__get__"))) && decide (PySem.W.takesIn K (.builtin "object.__class__") = some true) && decide (PySem.W.mroIn K D (.type "object") = some true)
theorem excB_ok {K : PySem.W.Frag} {D : Addr} (h : excB K D = true) : ExcC K D ∧ XfC K D := by
  unfold excB at h
  simp only [Bool.and_eq_true, decide_eq_true_eq] at h
  obtain ⟨⟨⟨⟨⟨⟨⟨h1, h2⟩, h3⟩, h4⟩, h5⟩, h6⟩, h7⟩, h8⟩ := h
  exact ⟨⟨h1, h2, h3, h4, h5, h6, h7, h8⟩, ⟨h1, h2, h3, h4⟩⟩
def excAll (K : PySem.W.Frag) : List (Str × Addr) → Bool
  | [] => true
  | (_, C) :: r => excB K C && excAll K r
theorem excAll_ok {K : PySem.W.Frag} : ∀ {cl : List (Str × Addr)}, excAll K cl = true → ∀ c C, cl.lookup c = some C → ExcC K C ∧ XfC K C
  | [], _, c, C, h => by cases h
  | (c0, C0) :: r, h, c, C, h1 => by
    unfold excAll at h
    rw [Bool.and_eq_true] at h
    rw [List.lookup_cons] at h1
    cases hb : c == c0 with
    | true =>
      rw [hb] at h1
      cases h1
      exact excB_ok h.1
    | false =>
      rw [hb] at h1
      exact excAll_ok h.2 c C h1
def noAll (K : PySem.W.Frag) (f : Str) : List (Str × Addr) → Bool
  | [] => true
  | (_, C) :: r => decide (PySem.W.findIn K (.ref C) f = some none) && noAll K f r
theorem noAll_ok {K : PySem.W.Frag} {f : Str} : ∀ {cl : List (Str × Addr)}, noAll K f cl = true → ∀ c C, cl.lookup c = some C → PySem.W.findIn K (.ref C) f = some none
  | [], _, c, C, h => by cases h
  | (c0, C0) :: r, h, c, C, h1 => by
    unfold noAll at h
    rw [Bool.and_eq_true] at h
    rw [List.lookup_cons] at h1
    cases hb : c == c0 with
    | true =>
      rw [hb] at h1
      cases h1
      exact of_decide_eq_true h.1
    | false =>
      rw [hb] at h1
      exact noAll_ok h.2 c C h1
end M
namespace M
open PySem PySem.Spec L2 NdefX PyProof.Rows
/-! ### own exception classes of the text, from what is read off the frame -/
def supB (K : PySem.W.Frag) (C fI cda : Addr) (qual : Str) (fs : List Str) : Bool :=
  decide (PySem.W.findIn K (.ref C) "__setattr__" = some (some (.builtin "object.__setattr__"))) && decide (PySem.W.subIn K (.ref C) (.type "BaseException") = some true) && decide (PySem.W.typeIn K (.ref C) = some (.type "type")) && PySem.W.keepIn K (.ref C) &&
  decide (PySem.W.findIn K (.ref C) "__init__" = some (some (.ref fI))) && decide (PySem.W.typeIn K (.ref fI) = some (.type "function")) && PySem.W.codeIn K (.ref cda) qual &&
  decide (PySem.W.ks_superIn K C C "__init__" = some (some (.builtin "ValueError.__init__"))) && decide (PySem.W.mroIn K C (.ref C) = some true) && decide (PySem.W.subIn K (.ref C) (.type "ValueError") = some true) && decide (PySem.W.nsIn K PySem.cStatics "thirdparty.any" = some none) &&
  fs.all fun f => decide (PySem.W.findIn K (.ref C) f = some none)
section
variable {P : Program} {w : World} {K : PySem.W.Frag} {mg : Str → Option Value} {base : Heap} {G : Wd} {k : Nat} {c : Str} {C fI cc cda NC : Addr} {qual nm q : Str} {s : Stmt} {bs bm sub : List Value} {sn : List Str} {ab : Bool} {col : Option Bool} {dd : Option Addr} {k0 k1 k2 k3 k5 : Option Value}
  {oc kV doc pm ct ccl cl : Value} {od an cdd cld : Option Addr} {osl ccs csl : Array (Option Value)} {fvs : Array Value} {file : Str} {tf : Tok} {fs : List Str}
structure SupK (P : Program) (K : PySem.W.Frag) (mg : Str → Option Value) (C fI cc cda : Addr) (qual : Str) (s : Stmt) (fs : List Str) : Prop where
  sup : SupC P K mg C fI cc cda "__init__" qual (defArgs s) (defBody s) (defScope s)
  no : ∀ f ∈ fs, PySem.W.findIn K (.ref C) f = some none
theorem supK_mk (o : K.lookup C = some (excClassObj nm q C NC bs bm true sn sub ab col dd k0 k1 k2 k3 k5 "ValueError.__new__")) (v : PySem.HandSPX.refsVE bm = true)
    (l : K.lookup fI = some ⟨oc, od, .func (PySem.W.ksFn "__init__" qual (defArgs s) (defBody s) (defScope s) .none kV doc pm an (.ref cda) ct cc), osl⟩)
    (lc : K.lookup cda = some ⟨ccl, cdd, .fields fvs, ccs⟩) (fi : fvs[2]? = some (.str file tf)) (fe : ((P.main.file : Str) == file) = true) (ce : K.lookup cc = some ⟨cl, cld, .cell (some (.ref C)), csl⟩) (b : supB K C fI cda qual fs = true)
    (hsup : mg "super" = none) (htop : (P.main.scope.names.lookup ("super" : Str)).isSome = false) : SupK P K mg C fI cc cda qual s fs := by
  unfold supB at b
  simp only [Bool.and_eq_true, decide_eq_true_eq, List.all_eq_true] at b
  obtain ⟨⟨⟨⟨⟨⟨⟨⟨⟨⟨⟨b1, b2⟩, b3⟩, b4⟩, b5⟩, b6⟩, b7⟩, b8⟩, b9⟩, b10⟩, b11⟩, b12⟩ := b
  exact ⟨⟨⟨⟨nm, q, NC, bs, bm, sn, sub, ab, col, dd, k0, k1, k2, k3, k5, o, v⟩, b1, b2, b3, b4⟩, b5, b6, ⟨oc, kV, doc, pm, ct, an, od, osl, l⟩, b7, ⟨ccl, cdd, fvs, ccs, file, tf, lc, fi, fe⟩, ⟨cl, cld, csl, ce⟩, b8, b11, b9, b10, hsup, htop⟩, b12⟩
section
variable {p0 p1 p2 p3 p4 p5 q1 q2 q3 q4 r1 r2 r3 r4 : Pos} {msg f1 f2 x1 x2 : Str} {j : Nat} {ar : Arg} {pl : PySem.Env → Sem Bool}
theorem mexc1 (F : SupK P K mg C fI cc cda qual s [f1]) (hm : mg c = some (.ref C)) (hG : G.cls c = some C) (hs : defBody s = [supS p0 p1 p2 p3 p4 p5 msg j, fldS f1 x1 q1 q2 q3 q4]) (S : NScope ["self", x1, "__class__"] ["self", x1] ["__class__"] (defScope s))
    (hp : ((defArgs s).posonlyargs ++ (defArgs s).args).head? = some ar) (har : ar.arg = "self") (hks : (defScope s).names.lookup ("super" : Str) = some .globalImplicit)
    (hb : ∀ (kV doc pm ctv : Value) (an : Option Addr) (us : List Value), us.length = (["self", x1] : List Str).length → bindArgs (PySem.W.ksFn "__init__" qual (defArgs s) (defBody s) (defScope s) .none kV doc pm an (.ref cda) ctv cc) ⟨us, []⟩ = pure ((["self", x1] : List Str).zip us))
    (he : SupEv p0 p1 p2 p3 p4 msg j pl) (hi : ∀ env : PySem.Env, env.scope = defScope s → interactive env = false) (hs1 : FldSw (defScope s) f1 x1 q1 q2 q3 q4) (hd1 : (x1 == ("__debug__" : Str)) = false) (hc1 : (x1 == ("__classdict__" : Str)) = false) :
    MExc P w K mg base G (k + 1) c 1 [(f1, 0)] := by
  obtain ⟨F, no⟩ := F
  have iC := F.iC
  have tI := F.tI
  have T := F.T
  rw [hs] at F hb
  exact ⟨⟨C, fI, T, iC, tI, ini1 F S hp har hks hb he hi hs1 (no f1 (by simp)) hd1 hc1, hm, hG⟩, by omega⟩
theorem mexc2 (F : SupK P K mg C fI cc cda qual s [f1, f2]) (hm : mg c = some (.ref C)) (hG : G.cls c = some C) (hs : defBody s = [supS p0 p1 p2 p3 p4 p5 msg j, fldS f1 x1 q1 q2 q3 q4, fldS f2 x2 r1 r2 r3 r4]) (S : NScope ["self", x1, x2, "__class__"] ["self", x1, x2] ["__class__"] (defScope s))
    (hp : ((defArgs s).posonlyargs ++ (defArgs s).args).head? = some ar) (har : ar.arg = "self") (hks : (defScope s).names.lookup ("super" : Str) = some .globalImplicit)
    (hb : ∀ (kV doc pm ctv : Value) (an : Option Addr) (us : List Value), us.length = (["self", x1, x2] : List Str).length → bindArgs (PySem.W.ksFn "__init__" qual (defArgs s) (defBody s) (defScope s) .none kV doc pm an (.ref cda) ctv cc) ⟨us, []⟩ = pure ((["self", x1, x2] : List Str).zip us))
    (he : SupEv p0 p1 p2 p3 p4 msg j pl) (hi : ∀ env : PySem.Env, env.scope = defScope s → interactive env = false) (hs1 : FldSw (defScope s) f1 x1 q1 q2 q3 q4) (hs2 : FldSw (defScope s) f2 x2 r1 r2 r3 r4) (hd1 : (x1 == ("__debug__" : Str)) = false) (hc1 : (x1 == ("__classdict__" : Str)) = false)
    (hd2 : (x2 == ("__debug__" : Str)) = false) (hc2 : (x2 == ("__classdict__" : Str)) = false) : MExc P w K mg base G (k + 1) c 2 [(f2, 1), (f1, 0)] := by
  obtain ⟨F, no⟩ := F
  have iC := F.iC
  have tI := F.tI
  have T := F.T
  rw [hs] at F hb
  exact ⟨⟨C, fI, T, iC, tI, ini2 F S hp har hks hb he hi hs1 hs2 (no f1 (by simp)) (no f2 (by simp)) hd1 hc1 hd2 hc2, hm, hG⟩, by omega⟩
end
end
end M
namespace M
open PySem PySem.Spec L2 L2H LamX PyProof.Rows
theorem hu65H {k : Nat} {A : Around} (r : RoomH k A) : A.units + 65 < cLine := by have := r.un; omega
theorem hu64H {k : Nat} {A : Around} (r : RoomH k A) : A.units + 64 < cLine := by have := r.un; omega
theorem FnHE.mono {P : Program} {w : World} {K : PySem.W.Frag} {mg : Str → Option Value} {base : Heap} {CX : CXT} {j k : Nat} {f : Addr} {fd : FuncData} {ps : List Str} {sp : (Addr × Obj) → Sp} (F : FnHE P w K mg base CX j f fd ps sp) (h : j ≤ k) : FnHE P w K mg base CX k f fd ps sp :=
  ⟨F.len, fun A outer s H args us vs Q E p hr => F.run A outer s H args us vs Q E p (hr.mono h)⟩
section
variable {G : Wd} {W : WX} {X : Cx}
theorem me_told0 {x w0 : Str} {k : Nat} {c P : Addr} {params : Arguments} {body : Expr} {scope : Scope} {NN : List Str} {fe : Den} {refd : FD} {sub : Str → Option Bool} {p lpos pos : Pos} (m : MTold X.prog X.w X.K X.mg X.base G k x w0 sub refd)
    (TB : TabB X.base X.mg c P) (hcode : X.env.code = .ref c) (hmT : (P, X.env.qual ++ "<lambda>") ∈ G.T) (hu : ∀ p ∈ G.T, p.1 = P → p.2 = X.env.qual ++ "<lambda>") (hr : Room (k + 3) X.A) (Ls : LamP X.env.scope [] scope) (hdef : defaultsOf params X.env = ([], []))
    (hbind : ∀ (q : Str) (cl : List (Str × Addr)) (pm cv ctv : Value) (us : List Value), us.length = 0 → bindArgs (PySem.W.kla_fn "<lambda>" q params body scope cl pm cv ctv) ⟨us, []⟩ = pure (([] : List Str).zip us)) (hNN : NN = hideN [] X.N ++ [])
    (hbody : ∀ (A : Around) (outer : List PySem.Env) (s : Shared) (H : Hp) (E : XK) (f c' : Addr), Room k (A.deeper (lamEnv X scope s.heap.objs.size f c')) → L2N.Takes (lamNP X A outer s H E scope NN f c') (WD E) → ME G (WD E) (lamNP X A outer s H E scope NN f c') body fe)
    (hg : Gl X x := by rfl) (hdb : (x == ("__debug__" : Str)) = false := by decide) : ME G W X (.Call (.Name x p) [.Lambda params body scope lpos] [] pos) (eTold w0 sub refd [] fe) :=
  me_toldM m (lamMk_plain TB hcode hmT hu (fun ok => Ls.has ok) hdef hbind) rfl (fun _ _ => .nil) hmT hr hNN Ls hbody hg hdb
theorem me_toldI {x w0 x0 : Str} {k : Nat} {n : Int} {jd : Nat} {dp : Pos} {c P : Addr} {params : Arguments} {body : Expr} {scope : Scope} {NN : List Str} {fe : Den} {refd : FD} {sub : Str → Option Bool} {p lpos pos : Pos} (m : MTold X.prog X.w X.K X.mg X.base G k x w0 sub refd)
    (TB : TabB X.base X.mg c P) (hcode : X.env.code = .ref c) (hmT : (P, X.env.qual ++ "<lambda>") ∈ G.T) (hu : ∀ p ∈ G.T, p.1 = P → p.2 = X.env.qual ++ "<lambda>") (hr : Room (k + 3) X.A) (Ls : LamP X.env.scope [x0] scope) (hdef : defaultsOf params X.env = ([eval (.Constant (.int n) jd dp) X.env], []))
    (hbind : ∀ (q : Str) (cl : List (Str × Addr)) (pm cv ctv dV : Value), ∃ k : Option (Array Value) → Sem (List (Str × Value)), bindArgs (PySem.W.dla_fn "<lambda>" q params body scope cl dV pm cv ctv) ⟨[], []⟩ = seqItems? dV >>= k ∧ ∀ u, k (some #[u]) = pure [(x0, u)]) (hNN : NN = hideN [x0] X.N ++ [x0])
    (hbody : ∀ (A : Around) (outer : List PySem.Env) (s : Shared) (H : Hp) (E : XK) (f c' : Addr), Room k (A.deeper (lamEnv X scope s.heap.objs.size f c')) → L2N.Takes (lamNP X A outer s H E scope NN f c') (WD E) → ME G (WD E) (lamNP X A outer s H E scope NN f c') body fe)
    (hg : Gl X x := by rfl) (hdb : (x == ("__debug__" : Str)) = false := by decide) : ME G W X (.Call (.Name x p) [.Lambda params body scope lpos] [] pos) (eTold w0 sub refd [.int n] fe) :=
  me_toldM m (lamMk_int TB hcode hmT hu (fun ok => Ls.has ok) hdef hbind) rfl (fun _ _ => .cons (.int n) .nil) hmT hr hNN Ls hbody hg hdb
end
end M
namespace M
open PySem PySem.Spec L2 PyProof.Rows
open AutoSeq1 (wpAny_loadPart')
/-! ### enumerate(t), t a tuple -/
abbrev enumO (it : Addr) : Obj := { cls := .type "enumerate", data := .fields #[.none, .bool false, .ref it, rawInt 0, .none, .none] }
abbrev titO (l : Addr) : Obj := { cls := .type "tuple_iterator", data := .fields #[.ref l, .int 0 0] }
theorem meets_enumT (l : Addr) (items : Array Value) (n : Nat) (dct : Option Addr) (sl : Array (Option Value)) :
    Meets (Builtin.«enumerate.__new__» ⟨[.type "enumerate", .ref l], []⟩) (fun _ R s => s.heap.get? l = some { cls := .type "tuple", dict := dct, data := .seq items n, slots := sl } ∧
      R (.ok (.ret (.ref (s.heap.push (titO l)).objs.size))) { s with heap := (s.heap.push (titO l)).push (enumO s.heap.objs.size) }) :=
  .of_wp fun prog w A R s h => by
    obtain ⟨hp, g, d, tk, os⟩ := s
    obtain ⟨hl, h⟩ := h
    have hsub := sub_enumerate
    have hT : Heap.IsTuple (Shared.heap ⟨hp, g, d, tk, os⟩) l items := ⟨_, hl, rfl, n, rfl⟩
    wp_walk using wpAny_loadPart' hl
    refine wpAny_stack_any fun st => wpAny_pure ?_
    split
    · rename_i c _ _ _ _ _
      cases (c == Value.type "enumerate")
      · wp_walk using wpAny_loadPart' hl, wpAny_pyIter_tuple hT
        exact ⟨_, rfl, h⟩
      · wp_walk using wpAny_loadPart' hl, wpAny_pyIter_tuple hT
        exact ⟨_, rfl, h⟩
    · wp_walk using wpAny_loadPart' hl, wpAny_pyIter_tuple hT
      exact ⟨_, rfl, h⟩
section
variable {prog : Program} {w : World} {A : Around} {E : Value → Shared → Prop} {s : Shared}
theorem call_enumT {l : Addr} {items : Array Value} {Q : Value → Shared → Prop} (hL : s.heap.IsTuple l items)
    (h : ∀ h', IsEnum h' (s.heap.objs.size + 1) s.heap.objs.size 0 .none → h'.IsTupleIter s.heap.objs.size l 0 → h'.objs.size = s.heap.objs.size + 2 → (∀ b o, s.heap.get? b = some o → h'.get? b = some o) → Q (.ref (s.heap.objs.size + 1)) { s with heap := h' }) :
    wpAny (model prog w) A (call (.type "enumerate") [.ref l]) Q E s := by
  obtain ⟨⟨c, dct, dt, sl⟩, hl, hc, n, hd⟩ := hL
  simp only at hc hd
  subst hc hd
  refine callType_new PySem.F.called_enumerate (by decide) (PySem.F.typeCall_enumerate_1 _) (PySem.F.newCall_enumerate_1 _) (fun obj => PySem.F.args_object_init_2 obj _) PySem.F.entry_enumerate_new (meets_enumT l items n dct sl) ⟨hl, ?_⟩
  have hz : (s.heap.push (titO l)).objs.size = s.heap.objs.size + 1 := Heap.size_push ..
  show _ ∧ _
  rw [hz]
  have he : IsEnum ((s.heap.push (titO l)).push (enumO s.heap.objs.size)) (s.heap.objs.size + 1) s.heap.objs.size 0 .none := by
    have := Heap.get?_push_size (s.heap.push (titO l)) (o := enumO s.heap.objs.size) rfl
    rw [hz] at this
    exact this
  exact ⟨⟨_, he, rfl⟩, h _ he ⟨_, Heap.get?_push_of_some _ (Heap.get?_push_size _ rfl), rfl, rfl⟩ (by rw [Heap.size_push, hz]) fun b o x => Heap.get?_push_of_some _ (Heap.get?_push_of_some _ x)⟩
end
/-- the tuple at a, each item in a new pair -/
def IteT (K : PySem.W.Frag) (a : Addr) : It :=
  ⟨fun i H => ∃ (xs : List V) (x : V), SqT K H a xs ∧ xs[i]? = some x, fun i H v H' => ∃ T x, v = .ref T ∧ H T = none ∧ H' = upd H T (.tup [.int (i : Nat), x]) ∧ ∀ xs, SqT K H a xs → xs[i]? = some x, fun i H => ∃ xs : List V, SqT K H a xs ∧ xs.length ≤ i⟩
theorem turn_enumT {P : Program} {w : World} {K : PySem.W.Frag} {elts : List Expr} {kk : Nat} {tpos : Pos} (a e it : Addr) (hai : a ≠ it) :
    Turn P w K (.Tuple elts kk tpos) (IteT K a) [e, it] e (fun i h => (∃ old, IsEnum h e it ((i : Nat) : Int) old) ∧ h.IsTupleIter it a i ∧ e ≠ it ∧ a ≠ e) where
  mem := by simp
  obj := fun i h st b hb => by
    obtain ⟨⟨old, he⟩, ⟨o, ho, hc, hd⟩, _⟩ := st
    rcases (by simpa using hb : b = e ∨ b = it) with z | z
    · rw [z]; exact ⟨_, he, fun v q => nomatch q⟩
    · rw [z]; exact ⟨o, ho, fun v q => by rw [hd] at q; cases q⟩
  keep := fun i h h' st k => by
    obtain ⟨⟨old, he⟩, hi, hne, hae⟩ := st
    exact ⟨⟨old, k e (by simp) _ he⟩, hi.at fun o q => k it (by simp) o q, hne, hae⟩
  item := by
    intro X hP hw hK hc i pins s σ H E I hf st hg
    subst hP hw hK
    obtain ⟨⟨old, he⟩, hit, hne, hae⟩ := st
    obtain ⟨xs, x, hq, hx⟩ := hg
    obtain ⟨its, rv, p, hz⟩ := I.tuple hq
    obtain ⟨u, hu, ru⟩ := rv.get hx
    have hel : e < s.heap.objs.size := Heap.lt_size he
    have hil : it < s.heap.objs.size := by obtain ⟨_, q, _⟩ := hit; exact Heap.lt_size q
    have hi : i < its.toArray.size := by
      have := (List.getElem?_eq_some_iff.mp hu).1
      simpa using this
    refine wpAny_pyNext_enum_itemD (Draws.tuple (prog := X.prog) (w := X.w) (A := X.A.in1) (I.ok.hd hc) it a hai its.toArray) he ⟨hit, show s.heap.IsTuple a its.toArray from p⟩ hi hne (by simp; exact ⟨hne, Ne.symm hae⟩) fun v h' tk hv ho st' hT hsz hk => ?_
    have hv : its.toArray[i]? = some v := hv
    obtain rfl : v = u := by
      rw [List.getElem?_toArray, hu] at hv
      exact (Option.some.inj hv).symm
    refine ⟨_, rfl, wpAny_letOwnedTupleGo_enum (s := { s with heap := h', toks := tk + 1 }) ho fun h'' he' sb => ?_⟩
    have hT2 : h''.get? s.heap.objs.size = some { cls := .type "tuple", data := .seq #[.int i tk, v] } := (sb.2 _ (Nat.ne_of_gt hel)).trans hT
    have new : ObjOk X.prog X.w (upd H s.heap.objs.size (.tup [.int (i : Nat), x])) h'' s.heap.objs.size (.tup [.int (i : Nat), x]) :=
      ⟨by show 2 ≤ sizeLine; rw [sizeLine_eq]; decide, [.int i tk, v], .cons ⟨_, rfl⟩ (.cons ru .nil), ⟨_, hT2, rfl, _, rfl⟩⟩
    have I1 : Inv X pins σ (upd H s.heap.objs.size (.tup [.int (i : Nat), x])) { s with heap := h'', toks := tk + 1 } :=
      I.turnedNew (ch := [e, it]) (fun b ob hb q => (sb.2 b (fun z => hb (by simp [z]))).trans (hk b ob (fun z => hb (by simp [z])) (fun z => hb (by simp [z])) q)) hf (Nat.le_refl _) new
    refine ⟨.ref s.heap.objs.size, _, I1, rfl, ⟨_, x, rfl, I.hok.fresh (Nat.le_refl _), rfl, fun ys hy => by rw [I.tuple_inj hy hq]; exact hx⟩, ⟨⟨v, ?_⟩, st'.1.at fun o q => (sb.2 it (Ne.symm hne)).trans q, hne, hae⟩, fun b hb => ?_⟩
    · have e1 : ((i + 1 : Nat) : Int) = (i : Int) + 1 := by omega
      rw [e1]; exact he'
    · have hb' : b < s.heap.objs.size := by
        rcases (by simpa using hb : b = e ∨ b = it) with z | z
        · rw [z]; exact hel
        · rw [z]; exact hil
      rw [upd_ne (Nat.ne_of_lt hb')]
      exact (hf b hb).1
  done := by
    intro X hP hw hK hc i pins s σ H E I hf st hg
    subst hP hw hK
    obtain ⟨⟨old, he⟩, hit, hne, hae⟩ := st
    obtain ⟨xs, hq, hx⟩ := hg
    obtain ⟨its, rv, p, hz⟩ := I.tuple hq
    obtain ⟨f0, f1, f2, f3, f4, f5⟩ := hf it (by simp)
    have hl := rv.length
    have hT : s.TypeIs (.ref e) "enumerate" := ⟨_, he, rfl⟩
    unfold pyNext
    refine wpAny_bind (wpAny_attempt (wpAny_callSpecial?_slot (name := Str.ofString "__next__") hT PySem.F.slot_enumerate_next (wpAny_call_entry PySem.F.slot_enumerate_next hT PySem.F.entry_enumerate_next ?_ (PySem.F.args_enumerate_next_1 _))))
    show wpAny _ _ (field (.ref e) 2 >>= _) _ _ _
    refine wpAny_bind (wpAny_field he rfl (x := .ref it) rfl ?_)
    refine wpAny_bind (wpAny_nextOf_tuple_end (I.ok.hd hc) hit (show s.heap.IsTuple a its.toArray from p) (by simp; omega) fun h' y eb hy => ?_)
    obtain ⟨o, ho, hcl⟩ := hy
    refine wpAny_bind (wpAny_isInstance (T := "StopIteration") (b := true) ⟨o, ho, hcl⟩ isSubtype_stop ?_)
    exact wpAny_pure ⟨rfl, I.turned (t' := s.toks) (fun b o hb q => eb b o hb q) f0 f1 f3 f4 f5⟩
  self := fun A i s Q E st h => by
    obtain ⟨⟨_, he⟩, _⟩ := st
    exact wpAny_pyIter_enum he h
def iEnumA (K : PySem.W.Frag) (ta : TA) : TI := fun σ H R => ta σ H fun vs H1 => ∃ a xs, vs = [.ref a] ∧ ((SqL K H1 a xs ∧ R (Ite K a) H1) ∨ (SqT K H1 a xs ∧ R (IteT K a) H1))
theorem pi_enumA {X : Cx} {e : Expr} {ta : TA} {p pos tpos : Pos} {elts : List Expr} {kk : Nat} (hg : Gl X "enumerate") (hm : X.mg "enumerate" = none) (ha : PA X [e] ta) (hs : starEach [e] X.env = [(false, eval e X.env)] := by rfl) :
    PI X (.Tuple elts kk tpos) (.Call (.Name "enumerate" p) [e] [] pos) (iEnumA X.K ta) := by
  refine ⟨fun pins s σ H R I h => ?_⟩
  refine Call_ (ld_blt I hg hm boot_enumerate (PyProof.Rows.callWith_type1 (thn (ha.run pos pins s σ H _ I h) fun us s1 hh => ?_) hs rfl))
  obtain ⟨vs, H1, I1, r1, a, xs, rfl, q⟩ := hh
  cases r1 with
  | cons r rr =>
    cases rr
    cases r
    have fr : ∀ b, b ∈ [s1.heap.objs.size + 1, s1.heap.objs.size] → FpOk X pins H1 b := fun b hb => by
      have hle : s1.heap.objs.size ≤ b := by
        rcases (by simpa using hb : b = s1.heap.objs.size + 1 ∨ b = s1.heap.objs.size) with z | z <;> omega
      exact I1.fpOk hle (I1.hok.fresh hle)
    rcases q with ⟨hq, q⟩ | ⟨hq, q⟩
    · obtain ⟨its, rv, p', hz⟩ := I1.list hq
      refine call_enumerate_list p'.isList fun h' he hit hsz hk => wpAny_pyIter_enum he ?_
      exact ⟨s1.heap.objs.size + 1, [s1.heap.objs.size + 1, s1.heap.objs.size], _, _, H1, rfl, I1.kept (t' := s1.toks) hk, turn_enum a (s1.heap.objs.size + 1) s1.heap.objs.size, ⟨⟨.none, he⟩, hit, Nat.succ_ne_self _⟩, fr, q⟩
    · obtain ⟨its, rv, p', hz⟩ := I1.tuple hq
      have p2 : s1.heap.IsTuple a its.toArray := p'
      have hal : a < s1.heap.objs.size := by obtain ⟨o, ho, _⟩ := p2; exact Heap.lt_size ho
      refine call_enumT p2 fun h' he hit hsz hk => wpAny_pyIter_enum he ?_
      exact ⟨s1.heap.objs.size + 1, [s1.heap.objs.size + 1, s1.heap.objs.size], _, _, H1, rfl, I1.kept (t' := s1.toks) hk, turn_enumT a (s1.heap.objs.size + 1) s1.heap.objs.size (Nat.ne_of_lt hal), ⟨⟨.none, he⟩, hit, Nat.succ_ne_self _, Nat.ne_of_lt (Nat.lt_succ_of_lt hal)⟩, fr, q⟩
section
variable {G : Wd} {W : WX} {X : Cx}
@[simp] def iEnumD (f : Den) : DenL := fun ρ st => (f ρ st).bind fun d st => match d with | .lst xs => .ok (enumL 0 xs) st | .tup xs => .ok (enumL 0 xs) st | _ => .stuck
theorem enumL_none : ∀ {l : List D} {n i : Nat} {d : D}, (enumL n l)[i]? = some d → ∃ a, l[i]? = some a ∧ d = .tup [.int (n + i : Nat), a]
  | [], n, i, d, h => by simp [enumL] at h
  | x :: l, n, 0, d, h => by simp [enumL] at h; exact ⟨x, rfl, by simpa using h.symm⟩
  | x :: l, n, i + 1, d, h => by
    simp only [enumL, List.getElem?_cons_succ] at h ⊢
    obtain ⟨a, h1, h2⟩ := enumL_none h
    exact ⟨a, h1, by rw [h2, show n + 1 + i = n + (i + 1) by omega]⟩
theorem mi_enum {a : Expr} {f : Den} {p pos tpos : Pos} {elts : List Expr} {kk : Nat} (hK : G.K = X.K) (hm : X.mg "enumerate" = none) (ha : ME G W X a f) (hg : Gl X "enumerate" := by rfl) (hs1 : starEach [a] X.env = (false, eval a X.env) :: starEach [] X.env := by rfl)
    (hs : starEach [a] X.env = [(false, eval a X.env)] := by rfl) : MI G W X (.Tuple elts kk tpos) (.Call (.Name "enumerate" p) [a] [] pos) (iEnumD f) := PI.imp (pi_enumA hg hm (pa_cons ha pa_nil hs1) hs) fun σ H R q => by
  obtain ⟨Z, ρ, st, L, S, q⟩ := q
  refine ⟨Z, ρ, st, L, S, PostI.bind q fun d st1 x H1 L1 e f1 o1 r1 q1 => ?_⟩
  split at q1
  · rename_i xs
    obtain ⟨a, vs, rfl, h1, hz, h2⟩ := r1.rdLst
    refine ⟨a, vs, rfl, .inl ⟨.inl h1, q1 _ H1 L1 Fw.refl o1 fun i Z3 L3 st3 H3 hz3 f3 o3 => ?_⟩⟩
    have hq : SqL X.K H3 a vs := .inl ((f3.keepsZ hz3).rd h1 hz (.inl ⟨_, rfl⟩)).1
    refine ⟨fun hi => ?_, fun d hd => ?_⟩
    · rw [enumL_len, h2.length] at hi
      exact ⟨vs, hq, by omega⟩
    · obtain ⟨da, e1, rfl⟩ := enumL_none hd
      obtain ⟨va, k1, k2⟩ := h2.get e1
      refine ⟨⟨vs, va, hq, k1⟩, fun x H' hy => ?_⟩
      obtain ⟨T, xa, rfl, nT, rfl, j1⟩ := hy
      have j1 := j1 vs hq
      rw [k1] at j1
      cases j1
      rw [Nat.zero_add]
      exact ⟨same_new nT, new_tup o3.inn (.cons (.int _) (.cons (k2.mono (f3.keepsZ hz3)) .nil)) nT⟩
  · rename_i xs
    obtain ⟨a, vs, rfl, h1, h2⟩ := r1.rdTup
    refine ⟨a, vs, rfl, .inr ⟨hK ▸ tupOn (Fw.refl (Z := Z)).keeps h1, q1 _ H1 L1 Fw.refl o1 fun i Z3 L3 st3 H3 hz3 f3 o3 => ?_⟩⟩
    have hq : SqT X.K H3 a vs := hK ▸ tupOn (f3.keepsZ hz3) h1
    refine ⟨fun hi => ?_, fun d hd => ?_⟩
    · rw [enumL_len, h2.length] at hi
      exact ⟨vs, hq, by omega⟩
    · obtain ⟨da, e1, rfl⟩ := enumL_none hd
      obtain ⟨va, k1, k2⟩ := h2.get e1
      refine ⟨⟨vs, va, hq, k1⟩, fun x H' hy => ?_⟩
      obtain ⟨T, xa, rfl, nT, rfl, j1⟩ := hy
      have j1 := j1 vs hq
      rw [k1] at j1
      cases j1
      rw [Nat.zero_add]
      exact ⟨same_new nT, new_tup o3.inn (.cons (.int _) (.cons (k2.mono (f3.keepsZ hz3)) .nil)) nT⟩
  · exact q1.elim
end
end M
namespace M
open PySem PySem.Spec L2
/-! ### a list of lists of one's own -/
theorem RowsAt.len {L : List Addr} {ns : List Nat} {as : List Addr} (r : RowsAt L ns as) : as.length = ns.length := by
  have h := congrArg List.length r
  simpa using h
theorem RowsAt.get {L : List Addr} {ns : List Nat} {as : List Addr} (r : RowsAt L ns as) {i n : Nat} {b : Addr} (h1 : ns[i]? = some n) (h2 : as[i]? = some b) : L[n]? = some b := by
  have h := congrArg (fun l => l[i]?) r
  simp only [List.getElem?_map, h1, h2, Option.map_some] at h
  exact (Option.some.inj h).symm
theorem RowsAt.app {L : List Addr} {ns : List Nat} {as : List Addr} (r : RowsAt L ns as) {n : Nat} {b : Addr} (h : L[n]? = some b) : RowsAt L (ns ++ [n]) (as ++ [b]) := by
  unfold RowsAt at *
  rw [List.map_append, List.map_append, r, List.map_singleton, List.map_singleton, h]
def compNL (g : GD) (ft : DenB) (fe : Env → Sto → Res O) (ρ : Env) : List D → Sto → Res (List Nat)
  | [], st => .ok [] st
  | x :: xs, st => match g x ρ with
    | none => .stuck
    | some ρ1 => match ft ρ1 st with
      | .ok true st => (match fe ρ1 st with
        | .ok o st => (compNL g ft fe ρ xs (st ++ [o])).bind fun ns st' => .ok (st.length :: ns) st'
        | _ => .stuck)
      | .ok false st => compNL g ft fe ρ xs st
      | _ => .stuck
@[simp] noncomputable def eCompN (fi : DenL) (g : GD) (ft : DenB) (fe : Env → Sto → Res O) (vs : List Nat) : Env → Sto → Res O := fun ρ st => (fi ρ st).bind fun items st => if items.length ≤ sizeLine then (compNL g ft fe (wipeE ρ vs) items st).bind fun ns st => .ok (.rows ns) st else .stuck
def rowsAt (i : Nat) (ρ : Env) (st : Sto) : Option (List Nat) := match ρ[i]? with
  | some (some (.r n)) => (match st[n]? with | some (.rows ns) => some ns | _ => none)
  | _ => none
def lstN (m : Nat) (st : Sto) : Option (List D) := match st[m]? with | some (.lst ds) => some ds | _ => none
def rowNo (a : D) (o : Option (List Nat)) : Option Nat := match o with
  | some ns => (match a with | .int j => atI ns j | _ => none)
  | none => none
def cellN (o : Option (List D)) (b : D) : Option D := match o with
  | some ds => (match b with | .int k => atI ds k | _ => none)
  | none => none
/-- x[a][b], x a list of lists of one's own -/
@[simp] def eIx2 (i : Nat) (f h : Den) : Den := fun ρ st => match rowsAt i ρ st with
  | none => .stuck
  | some _ => (f ρ st).bind fun a st => match rowNo a (rowsAt i ρ st) with
    | none => .stuck
    | some m => (h ρ st).bind fun b st => match cellN (lstN m st) b with
      | some d => .ok d st
      | none => .stuck
def setRow (m : Nat) (b d : D) (ρ : Env) (st : Sto) : SRes := match lstN m st with
  | some ds => (match b with | .int z => (match ixN ds.length z with | some q => .next ρ (st.set m (.lst (ds.set q d))) | none => .stuck) | _ => .stuck)
  | none => .stuck
/-- x[a][b] = e -/
@[simp] def sSetIx2 (i : Nat) (f h fe : Den) : SDen := fun ρ st => sOf fe (fun d ρ st => match rowsAt i ρ st with
  | none => .stuck
  | some _ => sOf f (fun a ρ st => match rowNo a (rowsAt i ρ st) with
    | none => .stuck
    | some m => sOf h (fun b ρ st => setRow m b d ρ st) ρ st) ρ st) ρ st
def frzAll : List Nat → Sto → Sto
  | [], st => st
  | m :: ns, st => frzAll ns (match (st[m]?).bind thaw with | some d => st.set m (.frz d) | none => st)
def frozen (st : Sto) : List Nat → Option (List D)
  | [] => some []
  | m :: ns => match st[m]? with | some (.frz d) => (frozen st ns).map fun ds => d :: ds | _ => none
/-- the whole told as data: from here on none of it is changed -/
@[simp] def eVarR (i : Nat) : Den := fun ρ st => match ρ[i]? with
  | some (some (.r n)) => (match rowsAt i ρ st with
    | some ns => (match rowsAt i ρ (frzAll ns st) with
      | some ms => (match frozen (frzAll ns st) ms with
        | some ds => .ok (.lst ds) ((frzAll ns st).set n (.frz (.lst ds)))
        | none => .stuck)
      | none => .stuck)
    | none => .stuck)
  | _ => .stuck
section
variable {G : Wd} {W : WX} {X : Cx} {Z Z' : Zone} {H H' : Hp} {L L' : List Addr} {st st' : Sto} {tg e : Expr} {pos : Pos}
structure CInvN (G : Wd) (Z : Zone) (p : Addr) (L1 : List Addr) (st1 : Sto) (H1 : Hp) (items : List D) (i : Nat) (acc : List Nat) (L' : List Addr) (st' : Sto) (H' : Hp) : Prop where
  le : i ≤ items.length
  fw : Fw Z L1 st1 H1 L' st' H'
  ok : StOk G (Zp Z p) L' st' H'
  at_ : ∃ as : List Addr, H' p = some (.lst (as.map V.ref)) ∧ RowsAt L' acc as
  len : acc.length ≤ i
theorem compN_core {fi : DenL} {gm : GD} {g : TG} {ft : DenB} {fe : Env → Sto → Res O} {vs : List Nat} (hg : GSim G g gm vs) {σ : St} {H : Hp} {Q : VK} (q : tMN G W (eCompN fi gm ft fe vs) σ H Q) : tLc (tMI G W fi) g (tMB G W0 ft) (tMN G W0 fe) vs σ H Q := by
  obtain ⟨Z, ρ, st, L, S, q⟩ := q
  refine ⟨Z, ρ, st, L, S, ?_⟩
  have qq : match fi ρ st with
    | .ok items st1 => (match (if items.length ≤ sizeLine then (compNL gm ft fe (wipeE ρ vs) items st1).bind fun ds st => .ok (.rows ds) st else .stuck : Res O) with
      | .ok o st' => ∀ p H' L', FwN G Z L st H L' st' H' p → OOk G (Zof (fun a => Z a ∨ a = p) L' st') H' L' p o → Q (.ref p) H'
      | .exc c fs st' => ExP G Z L st H c fs st' fun cv dd H' => W cv dd σ H'
      | .stuck => False)
    | .exc c fs st' => ExP G Z L st H c fs st' fun cv dd H' => W cv dd σ H'
    | .stuck => False := by
    revert q
    unfold eCompN
    cases fi ρ st <;> exact fun q => q
  clear q
  revert qq
  cases ei : fi ρ st with
  | stuck => exact fun q => q
  | exc c fs st1 => exact fun q => q
  | ok items st1 =>
    intro q J H1 L1 f1 o1 hy p hp
    have q : match (if items.length ≤ sizeLine then (compNL gm ft fe (wipeE ρ vs) items st1).bind fun ds st => .ok (.rows ds) st else .stuck : Res O) with
      | .ok o st' => ∀ p H' L', FwN G Z L st H L' st' H' p → OOk G (Zof (fun a => Z a ∨ a = p) L' st') H' L' p o → Q (.ref p) H'
      | .exc c fs st' => ExP G Z L st H c fs st' fun cv dd H' => W cv dd σ H'
      | .stuck => False := q
    by_cases hz : items.length ≤ sizeLine
    · rw [if_pos hz] at q
      have S1 := S.to f1 o1
      obtain ⟨C, hC0⟩ : ∃ C, compNL gm ft fe (wipeE ρ vs) items st1 = C := ⟨_, rfl⟩
      rw [hC0] at q
      have noExc : ∀ (items : List D) (st : Sto) c fs st', compNL gm ft fe (wipeE ρ vs) items st ≠ .exc c fs st' := by
        intro items
        induction items with
        | nil => intro st c fs st' h; cases h
        | cons d r ih =>
          intro st c fs st' h
          unfold compNL at h
          split at h
          · cases h
          · split at h
            · split at h
              · rename_i d2 st2 _
                cases hr : compNL gm ft fe (wipeE ρ vs) r (st2 ++ [d2]) with
                | ok ds st3 => rw [hr] at h; cases h
                | exc c2 fs2 st3 => exact ih _ _ _ _ hr
                | stuck => rw [hr] at h; cases h
              · cases h
            · exact ih _ _ _ _ h
            · cases h
      cases hC1 : C with
      | stuck => rw [hC1] at q; exact q.elim
      | exc c fs st' => exact absurd (hC0.trans hC1) (noExc _ _ _ _ _)
      | ok all stE =>
      rw [hC1] at q hC0
      have q : ∀ p H' L', FwN G Z L st H L' stE H' p → OOk G (Zof (fun a => Z a ∨ a = p) L' stE) H' L' p (.rows all) → Q (.ref p) H' := q
      refine ⟨fun i m H' => ∃ acc L' st', m = items.length - i ∧ CInvN G Z p L1 st1 H1 items i acc L' st' H' ∧ (compNL gm ft fe (wipeE ρ vs) (items.drop i) st').bind (fun ds st => .ok (acc ++ ds) st) = .ok all stE, ⟨items.length, [], L1, st1, by simp, ⟨Nat.zero_le _, Fw.same (same_new hp), o1.enter hp, ⟨[], upd_same, rfl⟩, Nat.le_refl _⟩, ?_⟩, ?_⟩
      · rw [List.drop_zero, hC0]
        rfl
      · rintro i m H' ⟨acc, L', st', rfl, I, hC⟩
        have hzz : ∀ a, Zp Z p a → Z a ∨ H1 a = none := fun a z => z.elim .inl fun e => .inr (by rw [e]; exact hp)
        obtain ⟨ys, yi⟩ := hy i (Zp Z p) L' st' H' hzz I.fw I.ok
        by_cases hi : i < items.length
        · obtain ⟨d, hd⟩ : ∃ d, items[i]? = some d := ⟨_, List.getElem?_eq_getElem hi⟩
          obtain ⟨go, hyl⟩ := yi d hd
          have hdrop : items.drop i = d :: items.drop (i + 1) := by
            rw [List.drop_eq_getElem_cons hi]
            rw [List.getElem?_eq_getElem hi] at hd
            cases hd
            rfl
          rw [hdrop] at hC
          unfold compNL at hC
          refine .inr ⟨go, fun H2 => ∃ acc L' st', CInvN G Z p L1 st1 H1 items (i + 1) acc L' st' H2 ∧ (compNL gm ft fe (wipeE ρ vs) (items.drop (i + 1)) st').bind (fun ds st => .ok (acc ++ ds) st) = .ok all stE, fun H2 ⟨acc, L', st', I2, h2⟩ => ⟨_, by omega, acc, L', st', rfl, I2, h2⟩, fun x H2 hyx => ?_⟩
          obtain ⟨sm, rx⟩ := hyl x H2 hyx
          have k2 : Keeps (Zof (Zp Z p) L' st') (Zof (Zp Z p) L' st') H' H2 := Same.keeps sm
          have ok2 : StOk G (Zp Z p) L' st' H2 := I.ok.same sm
          have fw2 : Fw Z L1 st1 H1 L' st' H2 := I.fw.trans (Fw.same sm)
          have E2 : EnvOk G (Zof (Zp Z p) L' st') H2 L' (wipeE ρ vs) (wipe σ vs) := by
            have a2 : EnvOk G (Zof (Zp Z p) L' st') H2 L' ρ σ := ⟨S1.env.1, fun i s e => by
              obtain ⟨v, e2, r⟩ := S1.env.2 i s e
              refine ⟨v, e2, ?_⟩
              cases r with
              | p r => exact .p (r.mono (fw2.keepsZ hzz))
              | r e3 => exact .r (I.fw.get e3)
              | x y1 y2 y3 y4 => exact .x y1 y2 (y3.mono (fw2.keepsZ hzz)) (y4.mono (fw2.keepsZ hzz))⟩
            exact a2.wipe vs
          cases eg : gm d (wipeE ρ vs) with
          | none => rw [eg] at hC; cases hC
          | some ρ1 =>
            rw [eg] at hC
            refine hg _ _ _ _ _ _ _ ρ1 _ E2 rx eg fun σ2 E3 w2 => ⟨w2.trans (wipe_wipe σ vs), Zp Z p, ρ1, st', L', ⟨ok2, E3⟩, ?_⟩
            have hC : (match ft ρ1 st' with
              | .ok true st => (match fe ρ1 st with
                | .ok o st => (compNL gm ft fe (wipeE ρ vs) (items.drop (i + 1)) (st ++ [o])).bind fun ns st' => .ok (st.length :: ns) st'
                | _ => .stuck)
              | .ok false st => compNL gm ft fe (wipeE ρ vs) (items.drop (i + 1)) st
              | _ => .stuck : Res (List Nat)).bind (fun ds st => .ok (acc ++ ds) st) = .ok all stE := hC
            cases et : ft ρ1 st' with
            | stuck => rw [et] at hC; cases hC
            | exc c fs st3 => rw [et] at hC; cases hC
            | ok b st3 =>
              rw [et] at hC
              intro b' H3 L3 f3 o3 rb
              have rb : b = b' := rb
              subst rb
              have fw3 : Fw Z L1 st1 H1 L3 st3 H3 := fw2.trans (f3.zone fun a z => .inl z)
              obtain ⟨ws, hw, rw_⟩ := I.at_
              have hw3 : H3 p = some (.lst (ws.map V.ref)) := f3.zk p _ (.inr rfl) (sm _ _ hw)
              have rw3 : RowsAt L3 acc ws := rw_.mono fun _ _ e => f3.get e
              cases b with
              | false =>
                exact ⟨acc, L3, st3, ⟨hi, fw3, o3, ⟨ws, hw3, rw3⟩, Nat.le_succ_of_le I.len⟩, hC⟩
              | true =>
                have SS : Stt G (Zp Z p) ρ1 st3 L3 σ2 H3 := ⟨o3, E3.mono f3⟩
                refine ⟨Zp Z p, ρ1, st3, L3, SS, ?_⟩
                have hC : (match fe ρ1 st3 with
                  | .ok o st => (compNL gm ft fe (wipeE ρ vs) (items.drop (i + 1)) (st ++ [o])).bind fun ns st' => .ok (st.length :: ns) st'
                  | _ => .stuck : Res (List Nat)).bind (fun ds st => .ok (acc ++ ds) st) = .ok all stE := hC
                cases ee : fe ρ1 st3 with
                | stuck => rw [ee] at hC; cases hC
                | exc c fs st4 => rw [ee] at hC; cases hC
                | ok y st4 =>
                  rw [ee] at hC
                  intro v H4 L4 f4 ook
                  obtain ⟨f5, o5, e5⟩ := alloc SS f4 ook
                  have fw4 : Fw Z L1 st1 H1 (L4 ++ [v]) (st4 ++ [y]) H4 := fw3.trans (f5.zone fun a z => .inl z)
                  have hw4 : H4 p = some (.lst (ws.map V.ref)) := f5.zk p _ (.inr rfl) hw3
                  have rw4 : RowsAt (L4 ++ [v]) acc ws := rw3.mono fun _ _ e => f5.get e
                  have hl := rw4.len
                  have hv : (L4 ++ [v])[st4.length]? = some v := by
                    rw [← f4.ok.len, List.getElem?_append_right (Nat.le_refl _)]
                    simp
                  refine ⟨ws.map V.ref, hw4, by rw [List.length_map]; have := I.len; omega, acc ++ [st4.length], L4 ++ [v], st4 ++ [y], ⟨hi, Fw.own hp fw4, o5.own, ⟨ws ++ [v], by rw [List.map_append]; exact upd_same, rw4.app hv⟩, ?_⟩, ?_⟩
                  · rw [List.length_append, List.length_singleton]
                    have := I.len; omega
                  · have hC : ((compNL gm ft fe (wipeE ρ vs) (items.drop (i + 1)) (st4 ++ [y])).bind fun ns st' => .ok (st4.length :: ns) st').bind (fun ds st => .ok (acc ++ ds) st) = .ok all stE := hC
                    rw [← hC]
                    cases compNL gm ft fe (wipeE ρ vs) (items.drop (i + 1)) (st4 ++ [y]) with
                    | ok ds st5 => simp only [Res.bind, List.append_assoc, List.singleton_append]
                    | exc c fs st5 => rfl
                    | stuck => rfl
        · have e : i = items.length := by have := I.le; omega
          subst e
          rw [List.drop_length] at hC
          have hC : Res.ok (acc ++ []) st' = .ok all stE := hC
          rw [List.append_nil] at hC
          cases hC
          refine .inl ⟨ys (Nat.le_refl _), q p H' L' ⟨f1.trans I.fw, I.ok, ?_⟩ I.at_⟩
          cases qh : H p with
          | none => rfl
          | some o => exact absurd hp (f1.there p (by rw [qh]; simp))
    · rw [if_neg hz] at q
      exact q.elim
theorem mn_compN {elt iter : Expr} {ifs : List Expr} {scope : Scope} {own : List (Str × Nat)} {fi : DenL} {gm : GD} {ft : DenB} {fe : Env → Sto → Res O} {g : TG} (hc : X.calm = true) (hN : X.N.Nodup) (hi : MI G W X tg iter fi) (ok : BlkOk X.N X.env.scope scope own) (hsim : GSim G g gm (own.map (·.2)))
    (hg : ∀ (s : Shared) (H : Hp) (C : Addr) (cl : List (Str × Addr)) (fp : List Addr), PG (X.blk s H scope (compEnvC scope cl C X.env) fp) tg g) (ht : ∀ (s : Shared) (H : Hp) (C : Addr) (cl : List (Str × Addr)) (fp : List Addr), MTs G W0 (X.blk s H scope (compEnvC scope cl C X.env) fp) ifs ft)
    (he : ∀ (s : Shared) (H : Hp) (C : Addr) (cl : List (Str × Addr)) (fp : List Addr), MN G W0 (X.blk s H scope (compEnvC scope cl C X.env) fp) elt fe) (hs : ∀ x, foldedSetIterable iter X.env x = pure x := by intro _; rfl) :
    MN G W X (.ListComp elt [⟨tg, iter, ifs, 0⟩] scope pos) (eCompN fi gm ft fe (own.map (·.2))) :=
  PE.imp (pe_lc hc hN hi ok hg ht he hs) fun σ H Q q => compN_core hsim q
theorem ms_newCompN {elt iter : Expr} {ifs : List Expr} {scope : Scope} {own : List (Str × Nat)} {fi : DenL} {gm : GD} {ft : DenB} {fe : Env → Sto → Res O} {g : TG} {y : Str} {py spos : Pos} (i : Nat) (hc : X.calm = true) (hN : X.N.Nodup) (hi : MI G W X tg iter fi) (ok : BlkOk X.N X.env.scope scope own) (hsim : GSim G g gm (own.map (·.2)))
    (hg : ∀ (s : Shared) (H : Hp) (C : Addr) (cl : List (Str × Addr)) (fp : List Addr), PG (X.blk s H scope (compEnvC scope cl C X.env) fp) tg g) (ht : ∀ (s : Shared) (H : Hp) (C : Addr) (cl : List (Str × Addr)) (fp : List Addr), MTs G W0 (X.blk s H scope (compEnvC scope cl C X.env) fp) ifs ft)
    (he : ∀ (s : Shared) (H : Hp) (C : Addr) (cl : List (Str × Addr)) (fp : List Addr), MN G W0 (X.blk s H scope (compEnvC scope cl C X.env) fp) elt fe)
    (hsw : swapsWith (.ListComp elt [⟨tg, iter, ifs, 0⟩] scope pos) (some (.Name y py)) spos.line X.env = pure true) (hy : X.N[i]? = some y := by rfl) (hyl : X.env.scope.names.lookup y = some .local := by rfl) (hs : ∀ x, foldedSetIterable iter X.env x = pure x := by intro _; rfl) :
    MS G W X (.Assign [.Name y py] (.ListComp elt [⟨tg, iter, ifs, 0⟩] scope pos) spos) (sNew i (eCompN fi gm ft fe (own.map (·.2)))) :=
  PS.imp (ps_setLc hc hN hy hyl hsw hi ok hg ht he hs) fun E σ H q => compN_core hsim (newS q)
theorem rowsAt_some {i : Nat} {ρ : Env} {σ : St} {ns : List Nat} (S : Stt G Z ρ st L σ H) (e : rowsAt i ρ st = some ns) : ∃ n a as, ρ[i]? = some (some (.r n)) ∧ σ[i]? = some (some (.ref a)) ∧ L[n]? = some a ∧ st[n]? = some (.rows ns) ∧ H a = some (.lst (as.map V.ref)) ∧ RowsAt L ns as := by
  unfold rowsAt at e
  split at e
  · rename_i m er
    split at e
    · rename_i es eo
      cases e
      obtain ⟨v, ev, r⟩ := S.env.2 i _ er
      cases r with
      | r r =>
        obtain ⟨as, h1, h2⟩ := S.ok.obj _ _ _ r eo
        exact ⟨_, _, as, er, ev, r, eo, h1, h2⟩
    · cases e
  · cases e
theorem rows_atI {L : List Addr} {ns : List Nat} {as : List Addr} (r : RowsAt L ns as) {j : Int} {m : Nat} (h : atI ns j = some m) : ∃ b, atI (as.map V.ref) j = some (.ref b) ∧ L[m]? = some b := by
  unfold atI at h ⊢
  obtain ⟨k, h1, h2⟩ := Option.bind_eq_some_iff.mp h
  rw [List.length_map, r.len, h1]
  have hk : k < as.length := by rw [r.len]; exact (List.getElem?_eq_some_iff.mp h2).1
  obtain ⟨b, hb⟩ : ∃ b, as[k]? = some b := ⟨_, List.getElem?_eq_getElem hk⟩
  refine ⟨b, ?_, r.get h2 hb⟩
  show (as.map V.ref)[k]? = _
  rw [List.getElem?_map, hb]; rfl
theorem lstN_some {m : Nat} {b : Addr} {ds : List D} (S : StOk G Z L st H) (h : L[m]? = some b) (e : lstN m st = some ds) : st[m]? = some (.lst ds) ∧ ∃ vs, H b = some (.lst vs) ∧ Reps G (Zof Z L st) H ds vs := by
  unfold lstN at e
  split at e
  · rename_i es eo
    cases e
    exact ⟨eo, S.obj _ _ _ h eo⟩
  · cases e
theorem rowNo_some {a : D} {o : Option (List Nat)} {m : Nat} (h : rowNo a o = some m) : ∃ j ns, a = .int j ∧ o = some ns ∧ atI ns j = some m := by
  unfold rowNo at h
  split at h
  · split at h
    · exact ⟨_, _, rfl, rfl, h⟩
    · cases h
  · cases h
/-- x[a] in a list of lists: the list itself, for what looks at it at once -/
theorem row_core {i : Nat} {f : Den} {σ : St} {H : Hp} {R : VK} {α β : Type} {RR : Zone → Hp → α → β → Prop} {Z : Zone} {ρ : Env} {st : Sto} {L : List Addr} {k : Nat → Sto → Res α} {ns : List Nat} {Q : β → Hp → Prop} (S : Stt G Z ρ st L σ H) (e0 : rowsAt i ρ st = some ns)
    (q : PostR G Z W RR σ L st H ((f ρ st).bind fun a st => match rowNo a (rowsAt i ρ st) with | none => .stuck | some m => k m st) Q)
    (hk : ∀ m b st1 H1 L1, Fw Z L st H L1 st1 H1 → StOk G Z L1 st1 H1 → L1[m]? = some b → PostR G Z W RR σ L1 st1 H1 (k m st1) Q → R (.ref b) H1) :
    tOp (rIxL X.K) (tVar i) (tM G W f) σ H R := by
  obtain ⟨n, a, as, er, ev, e1, e2, h1, h2⟩ := rowsAt_some S e0
  refine ⟨.ref a, ev, Z, ρ, st, L, S, PostR.bind q fun d st1 y H1 L1 ed f1 o1 r1 q1 => ?_⟩
  cases em : rowNo d (rowsAt i ρ st1) with
  | none => rw [em] at q1; exact q1.elim
  | some m =>
    rw [em] at q1
    obtain ⟨j, ms, rfl, eo, ej⟩ := rowNo_some em
    obtain ⟨n2, a2, as2, er2, ev2, g1, g2, k1, k2⟩ := rowsAt_some (S.to f1 o1) eo
    rw [ev] at ev2
    cases ev2
    obtain ⟨b, hb, hL⟩ := rows_atI k2 ej
    exact ⟨a, _, j, _, rfl, r1.int', .inl (.inl k1), hb, hk m b st1 H1 L1 f1 o1 hL q1⟩
theorem me_ix2 {x : Str} {i : Nat} {ea eb : Expr} {f h : Den} {p p1 pos : Pos} (hv : PE X (.Name x p) (tVar i)) (ha : ME G W X ea f) (hb : ME G W X eb h) (hs1 : PlainIx ea := by intro _ _; rfl) (hs2 : PlainIx eb := by intro _ _; rfl) :
    ME G W X (.Subscript (.Subscript (.Name x p) ea p1) eb pos) (eIx2 i f h) :=
  PE.imp (pe_ix ix_list (pe_ix ix_list hv ha hs1) hb hs2) fun σ H Q q => by
    obtain ⟨Z, ρ, st, L, S, q⟩ := q
    unfold eIx2 at q
    cases e0 : rowsAt i ρ st with
    | none => rw [e0] at q; exact q.elim
    | some ns =>
      rw [e0] at q
      refine row_core (k := fun m st => (h ρ st).bind fun b st => match cellN (lstN m st) b with | some d => .ok d st | none => .stuck) S e0 q fun m b st1 H1 L1 f1 o1 hL q1 => ?_
      refine ⟨Z, ρ, st1, L1, S.to f1 o1, PostR.bind q1 fun d st2 y H2 L2 ed f2 o2 r2 q2 => ?_⟩
      unfold cellN at q2
      split at q2
      · rename_i d' ed'
        split at ed'
        · rename_i ds el
          split at ed'
          · rename_i k
            obtain ⟨_, vs, k1, k2⟩ := lstN_some o2 (f2.get hL) el
            obtain ⟨v, hv, rv⟩ := k2.atI ed'
            exact ⟨b, vs, k, v, rfl, r2.int', .inl (.inl k1), hv, q2 v H2 L2 Fw.refl o2 rv⟩
          · cases ed'
        · cases ed'
      · exact q2.elim
theorem ms_setix2 {x : Str} {i : Nat} {ea eb : Expr} {f h fe : Den} {p p1 spos : Pos} (hv : PE X (.Name x p) (tVar i)) (ha1 : ME G W X ea f) (hb : ME G W X eb h) (he : ME G W X e fe) (hs1 : PlainIx ea := by intro _ _; rfl)
    (hs : swapsWithSole [.Subscript (.Subscript (.Name x p) ea p1) eb spos] e pos.line X.env = pure false := by rfl) (hw : swappedStores [.Subscript (.Subscript (.Name x p) ea p1) eb spos] e X.env = pure none := by rfl)
    (ha : ∀ v, assign (.Subscript (.Subscript (.Name x p) ea p1) eb spos) X.env v = (do
      let ov ← holding [v] (eval (.Subscript (.Name x p) ea p1) X.env)
      let iv ← holding [v, ov] (eval eb X.env)
      standAt spos
      holding [v, ov, iv] (setItem ov iv v)
      release [v, ov, iv] []) := by intro _; rfl)
    (h1 : (assignEach [.Subscript (.Subscript (.Name x p) ea p1) eb spos] X.env).map (·.2) = [assign (.Subscript (.Subscript (.Name x p) ea p1) eb spos) X.env] := by rfl) :
    MS G W X (.Assign [.Subscript (.Subscript (.Name x p) ea p1) eb spos] e pos) (sSetIx2 i f h fe) := PS.imp (ps_asg he (pg_sub (pe_ix ix_list hv ha1 hs1) hb set_list ha) hs hw h1) fun E σ H q => by
  obtain ⟨Z, ρ, st, L, S, q⟩ := q
  refine ⟨Z, ρ, st, L, S, PostR.bindS S q fun d st1 v H1 L1 ed f1 S1 r1 q1 => ?_⟩
  have q1 : PostS G Z W L1 st1 H1 (match rowsAt i ρ st1 with
    | none => .stuck
    | some _ => sOf f (fun a ρ st => match rowNo a (rowsAt i ρ st) with
      | none => .stuck
      | some m => sOf h (fun b ρ st => setRow m b d ρ st) ρ st) ρ st1) E := q1
  cases e0 : rowsAt i ρ st1 with
  | none => rw [e0] at q1; exact q1.elim
  | some ns =>
    rw [e0] at q1
    obtain ⟨n, a, as, er, ev, g1, g2, k1, k2⟩ := rowsAt_some S1 e0
    refine ⟨.ref a, ev, Z, ρ, st1, L1, S1, PostR.bindS S1 q1 fun ja st2 y H2 L2 ej f2 S2 r2 q2 => ?_⟩
    have p2 : PostS G Z W L2 st2 H2 (match rowNo ja (rowsAt i ρ st2) with
      | none => .stuck
      | some m => sOf h (fun b ρ st => setRow m b d ρ st) ρ st2) E := q2
    cases em : rowNo ja (rowsAt i ρ st2) with
    | none => rw [em] at p2; exact p2.elim
    | some m =>
      rw [em] at p2
      clear q2
      obtain ⟨j, ms, rfl, eo, ej'⟩ := rowNo_some em
      obtain ⟨n2, a2, as2, er2, ev2, l1, l2, m1, m2⟩ := rowsAt_some S2 eo
      rw [ev] at ev2
      cases ev2
      obtain ⟨b, hb', hL⟩ := rows_atI m2 ej'
      refine ⟨a, _, j, _, rfl, r2.int', .inl (.inl m1), hb', Z, ρ, st2, L2, S2, PostR.bindS S2 p2 fun jb st3 z H3 L3 ejb f3 S3 r3 q3' => ?_⟩
      have q3 : PostS G Z W L3 st3 H3 (setRow m jb d ρ st3) E := q3'
      clear q3'
      unfold setRow at q3
      split at q3
      · rename_i ds el
        obtain ⟨u1, vs, u2, u3⟩ := lstN_some S3.ok (f3.get hL) el
        split at q3
        · rename_i w
          split at q3
          · rename_i t et
            refine ⟨b, vs, w, t, rfl, r3.int', u2, by rw [← u3.length]; exact et, ?_⟩
            have rd := (r1.mono f2.keeps).mono f3.keeps
            have g1' := f3.get hL
            have fws : Keeps (Zof Z L3 st3) (Zof Z L3 (st3.set m (.lst (ds.set t d)))) H3 (upd H3 b (.lst (vs.set t v))) := fun c u e z => by
              have la : Live L3 st3 b := ⟨m, _, g1', u1, rfl⟩
              have ne : c ≠ b := fun q => z (.inr (q ▸ la))
              refine ⟨.of (by rw [upd_ne ne]; exact e), fun q => ?_⟩
              rcases q with q | ⟨j, u2, j1, j2, j3⟩
              · exact z (.inl q)
              · rcases getElem?_set_cases j2 with ⟨rfl, rfl, _⟩ | ⟨_, h⟩
                · rw [g1'] at j1; exact ne (Option.some.inj j1).symm
                · exact z (.inr ⟨j, u2, j1, h, j3⟩)
            obtain ⟨fw, ok⟩ := wr (o' := .lst (ds.set t d)) (ho := .lst (vs.set t v)) S3.ok g1' u1 rfl ⟨_, upd_same, Reps.set (rd.mono fws) t (u3.mono fws)⟩ rfl
            exact q3 σ _ L3 fw (S3.to fw ok)
          · exact q3.elim
        · exact q3.elim
      · exact q3.elim
theorem frzAll_ok : ∀ {ns : List Nat} {st : Sto}, StOk G Z L st H → StOk G Z L (frzAll ns st) H ∧ Fw Z L st H L (frzAll ns st) H
  | [], st, S => ⟨S, Fw.refl⟩
  | m :: ns, st, S => by
    unfold frzAll
    cases e : (st[m]?).bind thaw with
    | none => exact frzAll_ok S
    | some d =>
      obtain ⟨o, eo, et⟩ := Option.bind_eq_some_iff.mp e
      have f : Fw Z L st H L (st.set m (.frz d)) H := Fw.setN S eo fun z => nomatch z
      obtain ⟨h1, h2⟩ := frzAll_ok (ns := ns) (S.freeze eo et)
      exact ⟨h1, f.trans h2⟩
theorem frozen_ok (S : StOk G Z L st H) : ∀ {ns : List Nat} {as : List Addr} {ds : List D}, RowsAt L ns as → frozen st ns = some ds → Reps G (Zof Z L st) H ds (as.map V.ref)
  | [], [], ds, _, h => by cases h; exact .nil
  | [], _ :: _, _, r, _ => nomatch r
  | _ :: _, [], _, r, _ => nomatch r
  | n :: ns, a :: as, ds, r, h => by
    have r : some a :: as.map some = L[n]? :: ns.map fun n => L[n]? := r
    obtain ⟨r1, r2⟩ := List.cons.inj r
    unfold frozen at h
    split at h
    · rename_i d ed
      obtain ⟨es, h1, rfl⟩ := Option.map_eq_some_iff.mp h
      exact .cons (S.obj n a _ r1.symm ed) (frozen_ok S (show RowsAt L ns as from r2) h1)
    · cases h
theorem me_varR (i : Nat) {x : Str} {pos : Pos} (h : PE X (.Name x pos) (tVar i)) : ME G W X (.Name x pos) (eVarR i) :=
  PE.imp h fun σ H Q q => by
    obtain ⟨Z, ρ, st, L, S, q⟩ := q
    unfold eVarR at q
    cases e0 : rowsAt i ρ st with
    | none => rw [e0] at q; split at q <;> exact q.elim
    | some ns =>
      rw [e0] at q
      obtain ⟨n, a, as, er, ev, g1, g2, k1, k2⟩ := rowsAt_some S e0
      rw [er] at q
      obtain ⟨o1, f1⟩ := frzAll_ok (ns := ns) S.ok
      have S1 := S.to f1 o1
      cases e1 : rowsAt i ρ (frzAll ns st) with
      | none => simp only [e1] at q; exact q.elim
      | some ms =>
        simp only [e1] at q
        obtain ⟨n2, a2, as2, er2, ev2, l1, l2, m1, m2⟩ := rowsAt_some S1 e1
        rw [er] at er2; cases er2
        rw [ev] at ev2; cases ev2
        cases e2 : frozen (frzAll ns st) ms with
        | none => simp only [e2] at q; exact q.elim
        | some ds =>
          simp only [e2] at q
          have f2 : Fw Z L (frzAll ns st) H L ((frzAll ns st).set n (.frz (.lst ds))) H := Fw.setN o1 l2 fun z => nomatch z
          have hl : n < (frzAll ns st).length := (List.getElem?_eq_some_iff.mp l2).1
          have rr := (frozen_ok o1 m2 e2).mono f2.keeps
          have za : ¬ Zof Z L ((frzAll ns st).set n (.frz (.lst ds))) a := fun z => by
            rcases z with z | ⟨j, u, j1, j2, j3⟩
            · exact o1.zl a (List.mem_of_getElem? l1) z
            · have := nodup_at o1.nd j1 l1
              subst this
              rw [List.getElem?_set_self hl] at j2
              cases j2
              cases j3
          have rep : Rep G (Zof Z L ((frzAll ns st).set n (.frz (.lst ds)))) H (.lst ds) (.ref a) := .lst (.inl m1) za rr
          have o2 : StOk G Z L ((frzAll ns st).set n (.frz (.lst ds))) H := by
            refine ⟨by simpa using o1.len, o1.nd, fun m b o' e1 e2 => ?_, o1.z0, o1.zl, o1.lh, o1.tb.mono fun b o q z => ⟨q, (f2.keeps b o q z).2⟩, o1.nt⟩
            rcases getElem?_set_cases e2 with ⟨rfl, rfl, _⟩ | ⟨_, h⟩
            · rw [l1] at e1; cases e1
              exact rep
            · exact (o1.obj m b o' e1 h).mono f2 rfl
          exact ⟨_, ev, q _ H L (f1.trans f2) o2 rep⟩
end
end M
namespace M
open PySem PySem.Spec L2
/-! ### list(range(n)) ; the rest of a body that is never come to -/
noncomputable def rgB (lo n : Int) : Bool := @decide (0 ≤ lo ∧ lo ≤ 16777216 ∧ 0 ≤ n ∧ n ≤ 16777216) (Classical.propDecidable _)
theorem rgB_ok {lo n : Int} (h : rgB lo n = true) : RgOk lo n := by
  unfold rgB at h
  have h := @of_decide_eq_true _ (Classical.propDecidable _) h
  exact RgOk.of_le h.1 h.2.2.2 h.2.1 h.2.2.1
theorem rgB_of {lo n : Int} (h0 : 0 ≤ lo) (h1 : lo ≤ 16777216) (h2 : 0 ≤ n) (h3 : n ≤ 16777216) : rgB lo n = true := by
  unfold rgB
  exact @decide_eq_true _ (Classical.propDecidable _) ⟨h0, h1, h2, h3⟩
noncomputable def rgO (d : D) : Option O := match d with | .int n => if rgB 0 n = true then some (.lst (rngL 0 n.toNat)) else none | _ => none
@[simp] noncomputable def nRg1 (f : Den) : Env → Sto → Res O := fun ρ st => (f ρ st).bind fun d st => match rgO d with | some o => .ok o st | none => .stuck
theorem rngL_map : ∀ (n : Nat) (lo : Int), rngL lo n = (List.range n).map fun i => D.int (lo + (i : Nat)) := fun n lo => by
  apply List.ext_getElem?
  intro i
  by_cases hi : i < n
  · rw [rngL_get n lo i hi, List.getElem?_map, List.getElem?_range hi]; rfl
  · rw [List.getElem?_eq_none (by rw [rngL_len]; omega), List.getElem?_eq_none (by rw [List.length_map, List.length_range]; omega)]
theorem reps_maps {G : Wd} {Z : Zone} {H : Hp} (lo : Int) : ∀ l : List Nat, Reps G Z H (l.map fun i => D.int (lo + (i : Nat))) (l.map fun i => V.int (lo + (i : Nat)))
  | [] => .nil
  | _ :: l => .cons (.int _) (reps_maps lo l)
theorem reps_rg {G : Wd} {Z : Zone} {H : Hp} (lo n : Int) : Reps G Z H (rngL lo (n - lo).toNat) (rgV lo n) := by
  rw [rngL_map]
  exact reps_maps lo _
section
variable {G : Wd} {W : WX} {X : Cx} {e : Expr} {p pos p2 pos2 : Pos} {f : Den}
theorem mn_listRg (hc : X.calm = true) (hm : X.mg "list" = none) (hm2 : X.mg "range" = none) (ha : ME G W X e f) (hg : Gl X "list" := by rfl) (hg2 : Gl X "range" := by rfl) (na2 : starEach [e] X.env = (false, eval e X.env) :: starEach [] X.env := by rfl) (na : starEach [.Call (.Name "range" p2) [e] [] pos2] X.env = (false, eval (.Call (.Name "range" p2) [e] [] pos2) X.env) :: starEach [] X.env := by rfl) :
    MN G W X (.Call (.Name "list" p) [.Call (.Name "range" p2) [e] [] pos2] [] pos) (nRg1 f) :=
  PE.imp (pe_listRg hc hg hm (prg_1 hg2 hm2 ha na2) na) fun σ H Q q => by
    obtain ⟨Z, ρ, st, L, S, q⟩ := q
    refine ⟨Z, ρ, st, L, S, ?_⟩
    unfold nRg1 at q
    revert q
    cases f ρ st with
    | stuck => exact fun q => q
    | exc c fs s => exact fun q => q
    | ok d st1 =>
      intro q x H1 L1 f1 o1 r1
      have q : match (match rgO d with | some o => .ok o st1 | none => .stuck : Res O) with
        | .ok o st' => ∀ p H' L', FwN G Z L st H L' st' H' p → OOk G (Zof (fun a => Z a ∨ a = p) L' st') H' L' p o → Q (.ref p) H'
        | .exc c fs st' => ExP G Z L st H c fs st' fun cv dd H' => W cv dd σ H'
        | .stuck => False := q
      unfold rgO at q
      cases d with
      | int n =>
        by_cases hb : rgB 0 n = true
        · simp only [if_pos hb] at q
          refine ⟨n, r1.int', rgB_ok hb, fun p hp => q p _ L1 (FwN.mk_new f1 o1 hp) ⟨_, upd_same, ?_⟩⟩
          have h := reps_rg (G := G) (Z := Zof (fun a => Z a ∨ a = p) L1 st1) (H := upd H1 p (.lst (rgV 0 n))) 0 n
          rw [Int.sub_zero] at h
          exact h
        · simp only [if_neg hb] at q
      | _ => exact q.elim
theorem mss_never {l : List Stmt} : MSs G W X l sNever := PSs.imp pss_never fun E σ H q => by
  obtain ⟨Z, ρ, st, L, S, q⟩ := q
  exact q
end
end M
namespace M
open PySem PySem.Spec L2
/-! ### plain facts for the plain parts of laws -/
theorem insI_rises (x : Int) : ∀ l, l.Pairwise (· ≤ ·) → (insI x l).Pairwise (· ≤ ·)
  | [], _ => by simp [insI]
  | y :: l, h => by
    unfold insI
    rw [List.pairwise_cons] at h
    split
    · rename_i hxy
      rw [List.pairwise_cons, List.pairwise_cons]
      refine ⟨fun z hz => ?_, h⟩
      rcases List.mem_cons.mp hz with rfl | hz
      · exact hxy
      · exact Int.le_trans hxy (h.1 z hz)
    · rename_i hxy
      rw [List.pairwise_cons]
      refine ⟨fun z hz => ?_, insI_rises x l h.2⟩
      rcases List.mem_cons.mp ((insI_perm x l).mem_iff.mp hz) with rfl | hz
      · omega
      · exact h.1 z hz
theorem sortI_rises : ∀ l, (sortI l).Pairwise (· ≤ ·)
  | [] => .nil
  | x :: l => insI_rises x _ (sortI_rises l)
theorem strict_of {l : List Int} (h : l.Pairwise (· ≤ ·)) (n : l.Nodup) : l.Pairwise (· < ·) := by
  have := List.pairwise_and_iff.mpr ⟨h, n⟩
  exact this.imp fun {a b} h => by have := h.1; have := h.2; omega
@[simp] theorem flats_ints (l : List Int) {n} : D.flats n (l.map .int) = true := by
  induction l with
  | nil => simp
  | cons x l ih => simp [ih]
theorem pysIn_ints (p : Int) (l : List Int) : pysIn (.int p) (l.map .int) = decide (p ∈ l) := by
  unfold pysIn
  rw [List.any_map]
  induction l with
  | nil => simp
  | cons x l ih =>
    simp only [List.any_cons, ih, Function.comp_apply, eqv_int, List.mem_cons]
    by_cases h : x = p
    · simp [h]
    · have : ¬ p = x := fun e => h e.symm
      simp [h, this]
theorem bigR_of {i : Int} (h0 : -1000000000 ≤ i) (h1 : i ≤ 1000000000) : bigR i = true := by
  unfold bigR; rw [Bool.and_eq_true, decide_eq_true_eq, decide_eq_true_eq]; omega
theorem small_of {i : Int} (h0 : -1000000000 ≤ i) (h1 : i ≤ 1000000000) : small i = true := small_iff.mpr (by omega)
theorem map_ints {α : Type} (g : α → Int) (l : List α) : (l.map fun x => D.int (g x)) = (l.map g).map D.int := by rw [List.map_map]; rfl
theorem all_true (l : List Bool) (h : ∀ b ∈ l, b = true) : l.all id = true := by simpa using h
theorem env_set {ρ base : Env} {v : Nat} (h : ρ.set v none = base.set v none) (hv : v < base.length) : ∃ x, ρ = base.set v x := by
  have hl : ρ.length = base.length := by simpa using congrArg List.length h
  refine ⟨ρ[v], List.ext_getElem? fun i => ?_⟩
  by_cases hi : i = v
  · subst hi
    rw [List.getElem?_set_self hv, List.getElem?_eq_getElem]
  · have := congrArg (fun l : List (Option S) => l[i]?) h
    simp only [List.getElem?_set_ne (Ne.symm hi)] at this
    rw [this, List.getElem?_set_ne (Ne.symm hi)]
theorem cutD_tail (xs : List D) : cutD xs (some 1) none = xs.tail := by
  rw [← List.drop_one]
  unfold cutD
  cases xs with
  | nil => simp
  | cons x xs =>
    have h1 : HT.sIx (x :: xs).length 0 (some 1) = 1 := by
      unfold HT.sIx
      simp
      try omega
    have h2 : HT.sIx (x :: xs).length (x :: xs).length none = (x :: xs).length := by unfold HT.sIx; rfl
    rw [h1, h2]
    apply List.take_of_length_le
    simp
theorem zipL_ints : ∀ a b : List Int, zipL (a.map .int) (b.map .int) = (a.zip b).map fun p => D.tup [.int p.1, .int p.2]
  | [], _ => by simp [zipL]
  | _ :: _, [] => by simp [zipL]
  | x :: a, y :: b => by simp [zipL, zipL_ints a b]
theorem zip_tail_lt : ∀ {l : List Int}, l.Pairwise (· < ·) → ∀ p ∈ l.zip (l.drop 1), p.1 < p.2
  | [], _, p, hp => by simp at hp
  | [_], _, p, hp => by simp at hp
  | x :: y :: l, h, p, hp => by
    rw [List.pairwise_cons] at h
    simp only [List.drop_succ_cons, List.drop_zero, List.zip_cons_cons, List.mem_cons] at hp
    rcases hp with rfl | hp
    · exact h.1 y List.mem_cons_self
    · exact zip_tail_lt (l := y :: l) h.2 p (by simpa using hp)
theorem dAll_true {α : Type} (l : List α) : dAll (.lst (l.map fun _ => D.bl true)) = some (.bl true) := by
  unfold dAll
  simp only
  rw [dBools_map2 (fun _ => true)]
  simp
theorem dAll_bl {α : Type} (f : α → Bool) (l : List α) : dAll (.lst (l.map fun x => D.bl (f x))) = some (.bl (l.all f)) := by
  unfold dAll
  simp only
  rw [dBools_map2]
  simp [List.all_map]
theorem at_end (o : O) (rest : Sto) (x : O) : (o :: (rest ++ [x]))[rest.length + 1]? = some x := by simp
theorem set_end (o : O) (rest : Sto) (x y : O) : (o :: (rest ++ [x])).set (rest.length + 1) y = o :: (rest ++ [y]) := by simp
theorem set_end2 (rest : Sto) (x y : O) : (rest ++ [x]).set rest.length y = rest ++ [y] := by simp
theorem sSeq_next {f g : SDen} {ρ ρ' : Env} {st st' : Sto} (h : f ρ st = .next ρ' st') : sSeq f g ρ st = g ρ' st' := by
  unfold sSeq; rw [h]
/-- a for loop that breaks at the first thing that a test finds -/
theorem forL_brk {α : Type} {v : Nat} {fb : SDen} {base ρ2 : Env} {st st2 : Sto} (enc : α → D) (x : α) (post : List α) (hx : fb (base.set v (some (.p (enc x)))) st = .brk ρ2 st2) : ∀ (pre : List α), (∀ y ∈ pre, fb (base.set v (some (.p (enc y)))) st = .next (base.set v (some (.p (enc y)))) st) →
    ∀ ρ : Env, ρ.set v none = base.set v none → forL (gN v) fb ((pre ++ x :: post).map enc) ρ st = .next ρ2 st2
  | [], _, ρ, h => by
    have e : ρ.set v (some (.p (enc x))) = base.set v (some (.p (enc x))) := by
      have := congrArg (fun l : Env => l.set v (some (.p (enc x)))) h
      simpa [List.set_set] using this
    rw [List.nil_append, List.map_cons]
    unfold forL
    simp only [gN, e, hx]
  | y :: pre, hs, ρ, h => by
    have e : ρ.set v (some (.p (enc y))) = base.set v (some (.p (enc y))) := by
      have := congrArg (fun l : Env => l.set v (some (.p (enc y)))) h
      simpa [List.set_set] using this
    rw [List.cons_append, List.map_cons]
    unfold forL
    simp only [gN, e, hs y List.mem_cons_self]
    exact forL_brk enc x post hx pre (fun z hz => hs z (List.mem_cons_of_mem _ hz)) _ (by simp [List.set_set])
theorem range_split {a b : Nat} (h : a < b) : ∃ post, List.range b = List.range a ++ a :: post := by
  obtain ⟨k, rfl⟩ : ∃ k, b = a + (k + 1) := ⟨b - a - 1, by omega⟩
  refine ⟨(List.range k).map fun i => a + (i + 1), ?_⟩
  rw [List.range_add, List.range_succ_eq_map, List.map_cons, List.map_map]
  rfl
theorem dFn_ret {ar n : Nat} {fb : SDen} {ss : List S} {d : D} {st' : Sto} (h : ss.length = ar) (e : fb (ss.map some ++ List.replicate (n - ar) none) [] = .ret d st') : dFn ar n fb ss [] = .ok d [] := by
  unfold dFn
  rw [if_pos h, e]
  simp [cutOff]
theorem dFn_exc {ar n : Nat} {fb : SDen} {ss : List S} {c : PySem.Str} {fs : List (PySem.Str × D)} {ρ' : Env} {st' : Sto} (h : ss.length = ar) (e : fb (ss.map some ++ List.replicate (n - ar) none) [] = .exc c fs ρ' st') : dFn ar n fb ss [] = .exc c fs [] := by
  unfold dFn
  rw [if_pos h, e]
  simp [cutOff]
theorem forL_cons {g : GD} {fb : SDen} {d : D} {ds : List D} {ρ ρ1 ρ2 : Env} {st st2 : Sto} (h1 : g d ρ = some ρ1) (h2 : fb ρ1 st = .next ρ2 st2) : forL g fb (d :: ds) ρ st = forL g fb ds ρ2 st2 := by
  rw [forL]; simp only [h1, h2]
theorem forL_ret {g : GD} {fb : SDen} {d z : D} {ds : List D} {ρ ρ1 : Env} {st st2 : Sto} (h1 : g d ρ = some ρ1) (h2 : fb ρ1 st = .ret z st2) : forL g fb (d :: ds) ρ st = .ret z st2 := by
  rw [forL]; simp only [h1, h2]
theorem sSeq_ret {f g : SDen} {ρ : Env} {st st' : Sto} {d : D} (h : f ρ st = .ret d st') : sSeq f g ρ st = .ret d st' := by
  unfold sSeq; rw [h]
theorem sSeq_exc {f g : SDen} {ρ ρ' : Env} {st st' : Sto} {c : PySem.Str} {fs : List (PySem.Str × D)} (h : f ρ st = .exc c fs ρ' st') : sSeq f g ρ st = .exc c fs ρ' st' := by
  unfold sSeq; rw [h]
theorem szs : 1 ≤ sizeLine ∧ 2 ≤ sizeLine ∧ 3 ≤ sizeLine ∧ 4 ≤ sizeLine ∧ 5 ≤ sizeLine ∧ 6 ≤ sizeLine ∧ 7 ≤ sizeLine ∧ 8 ≤ sizeLine ∧ 9 ≤ sizeLine ∧ 10 ≤ sizeLine ∧ 11 ≤ sizeLine ∧ 12 ≤ sizeLine ∧ 13 ≤ sizeLine ∧ 14 ≤ sizeLine ∧ 15 ≤ sizeLine ∧ 16 ≤ sizeLine ∧ 17 ≤ sizeLine ∧ 18 ≤ sizeLine ∧ 19 ≤ sizeLine ∧ 20 ≤ sizeLine ∧ 21 ≤ sizeLine ∧ 22 ≤ sizeLine ∧ 23 ≤ sizeLine ∧ 24 ≤ sizeLine ∧ 25 ≤ sizeLine ∧ 26 ≤ sizeLine ∧ 27 ≤ sizeLine ∧ 28 ≤ sizeLine ∧ 29 ≤ sizeLine ∧ 30 ≤ sizeLine := by rw [sizeLine_eq]; decide
/-- data whose repr fits -/
structure Rp (n : Nat) (d : D) (w : Nat) : Prop where
  flat : D.flat n d = true
  show_ : d.py.showable = true
  short : d.py.leavesShort 1000 = true
  wt : d.py.weight ≤ w
structure Rps (n : Nat) (ds : List D) (w : Nat) : Prop where
  flat : D.flats n ds = true
  show_ : PyData.showableAll (D.pys ds) = true
  short : PyData.leavesShortAll 1000 (D.pys ds) = true
  wt : PyData.weightAll (D.pys ds) ≤ w
theorem Rps.nil {n : Nat} : Rps n [] 0 := ⟨by simp, rfl, rfl, Nat.le_refl _⟩
theorem Rps.cons {n : Nat} {d : D} {ds : List D} {a b : Nat} (h : Rp n d a) (t : Rps n ds b) : Rps n (d :: ds) (a + 1 + b) := by
  refine ⟨by simp [h.flat, t.flat], ?_, ?_, ?_⟩
  · unfold D.pys; simp [PyData.showableAll, h.show_, t.show_]
  · unfold D.pys; simp [PyData.leavesShortAll, h.short, t.short]
  · unfold D.pys
    have h1 := h.wt
    have h2 := t.wt
    simp only [PyData.weightAll]
    omega
theorem Rps.lst {n : Nat} {ds : List D} {w : Nat} (h : Rps n ds w) : Rp (n + 1) (.lst ds) w :=
  ⟨by rw [flat_lst]; exact h.flat, by unfold D.py; simp only [PyData.showable]; exact h.show_, by unfold D.py; simp only [PyData.leavesShort]; exact h.short, by unfold D.py; simp only [PyData.weight]; exact h.wt⟩
theorem Rps.tup {n : Nat} {ds : List D} {w : Nat} (h : Rps n ds w) : Rp (n + 1) (.tup ds) w :=
  ⟨by rw [flat_tup]; exact h.flat, by unfold D.py; simp only [PyData.showable]; exact h.show_, by unfold D.py; simp only [PyData.leavesShort]; exact h.short, by unfold D.py; simp only [PyData.weight]; exact h.wt⟩
theorem Rps.of {n w : Nat} : ∀ {ds : List D}, (∀ d ∈ ds, Rp n d w) → Rps n ds (ds.length * (w + 1))
  | [], _ => by simpa using Rps.nil
  | d :: ds, h => by
    have := Rps.cons (h d List.mem_cons_self) (Rps.of fun x hx => h x (List.mem_cons_of_mem _ hx))
    rw [List.length_cons, Nat.succ_mul, Nat.add_comm]
    exact this
theorem dRepr_of {d : D} {w : Nat} (h : Rp 60 d w) (hw : w ≤ 10000) : dRepr d = some (.str d.py.shown) := by
  have h1 := PyData.shown_le 1000 (by omega) d.py h.short
  have h2 := h.wt
  have h3 : (1000 + 2) * d.py.weight ≤ 1002 * 10000 := Nat.mul_le_mul (by omega) (by omega)
  unfold dRepr
  rw [if_pos ⟨by rw [h.flat, h.show_]; rfl, by rw [sizeLine_eq]; omega⟩]
theorem end_get (st : Sto) (x : O) : (st ++ [x])[st.length]? = some x := by simp
theorem end_set (st : Sto) (x y : O) : (st ++ [x]).set st.length y = st ++ [y] := by simp
theorem eqvs_nil (xs : List D) : D.eqvs xs [] = xs.isEmpty := by cases xs <;> simp
theorem gset {ρ : Env} {i j : Nat} {x : Option S} (h : j ≠ i) : (ρ.set j x)[i]? = ρ[i]? := List.getElem?_set_ne h
theorem gself {ρ : Env} {i : Nat} {x : Option S} (h : i < ρ.length) : (ρ.set i x)[i]? = some x := List.getElem?_set_self h
/-- environments that agree but at some slots -/
def Agr (vs : List Nat) (ρ ρ' : Env) : Prop := ρ'.length = ρ.length ∧ ∀ i, i ∉ vs → ρ'[i]? = ρ[i]?
theorem Agr.refl {vs : List Nat} {ρ : Env} : Agr vs ρ ρ := ⟨rfl, fun _ _ => rfl⟩
theorem Agr.set {vs : List Nat} {ρ ρ' : Env} {j : Nat} {x : Option S} (h : Agr vs ρ ρ') (hj : j ∈ vs) : Agr vs ρ (ρ'.set j x) :=
  ⟨by simp [h.1], fun i hi => by rw [List.getElem?_set_ne (by rintro rfl; exact hi hj)]; exact h.2 i hi⟩
theorem Agr.trans {vs : List Nat} {ρ ρ1 ρ2 : Env} (a : Agr vs ρ ρ1) (b : Agr vs ρ1 ρ2) : Agr vs ρ ρ2 := ⟨b.1.trans a.1, fun i hi => (b.2 i hi).trans (a.2 i hi)⟩
theorem Agr.mono {vs ws : List Nat} {ρ ρ' : Env} (a : Agr vs ρ ρ') (h : ∀ i ∈ vs, i ∈ ws) : Agr ws ρ ρ' := ⟨a.1, fun i hi => a.2 i fun q => hi (h i q)⟩
abbrev At (ρ : M.Env) (i : Nat) (d : D) : Prop := ρ[i]? = some (some (.p d))
theorem cutD_take (xs : List D) (m : Nat) (h : m ≤ xs.length) : cutD xs none (some (m : Int)) = xs.take m := by
  unfold cutD
  have h1 : HT.sIx xs.length 0 none = 0 := by unfold HT.sIx; rfl
  have h2 : HT.sIx xs.length xs.length (some (m : Int)) = m := by
    rw [HT.sIx_nat]
    omega
  rw [h1, h2]
  simp
theorem sFor_range {n : Nat} {g : GD} {fb : SDen} {ρ : Env} {st : Sto} {r : SRes} (hn : n ≤ 1000000) (e : forL g fb ((List.range n).map fun i : Nat => D.int (i : Nat)) ρ st = r) : sFor (iRange1 (eC (.int (n : Nat)))) g fb ρ st = r := by
  have hb : bigR (n : Int) = true := bigR_of (by omega) (by omega)
  have h2 : ((n : Int) - 0).toNat = n := by omega
  simp only [sFor, sOf, iRange1, eC, Res.bind, hb, if_true]
  rw [← e, ← rngL0]
  try simp
theorem atI_nat {α : Type} (l : List α) (i : Nat) (h : i < l.length) : atI l (i : Int) = some l[i] := by
  unfold atI ixN
  rw [if_pos (by omega), if_pos (by omega)]
  simp [h]
theorem plainE_at {ρ : M.Env} {i : Nat} {d : D} {l : M.Env} (h : At ρ i d) : (plainE ρ ++ l)[i]? = some (some (.p d)) := by
  have hi : i < ρ.length := (List.getElem?_eq_some_iff.mp h).1
  rw [List.getElem?_append_left (by unfold plainE; rw [List.length_map]; exact hi)]
  unfold plainE
  rw [List.getElem?_map, h]
  rfl
theorem rp_of {n w : Nat} {d : D} (h : (D.flat n d && d.py.showable && d.py.leavesShort 1000 && decide (d.py.weight ≤ w)) = true) : Rp n d w := by
  simp only [Bool.and_eq_true, decide_eq_true_eq] at h
  obtain ⟨⟨⟨h1, h2⟩, h3⟩, h4⟩ := h
  exact ⟨h1, h2, h3, h4⟩
/-- stores whose things point at nothing -/
def flatO : O → Bool | .ins _ _ => false | .rows _ => false | _ => true
def Flat (st : Sto) : Prop := ∀ o ∈ st, flatO o = true
theorem Flat.all {st : Sto} {k : Nat} (h : Flat st) : st.all (O.refsBelow k) = true := by
  rw [List.all_eq_true]
  intro o ho
  have := h o ho
  cases o with
  | ins c fs => cases this
  | rows ns => cases this
  | _ => rfl
theorem Flat.app {st : Sto} {o : O} (h : Flat st) (ho : flatO o = true) : Flat (st ++ [o]) := fun x hx => by
  rcases List.mem_append.mp hx with hx | hx
  · exact h x hx
  · rw [List.mem_singleton.mp hx]; exact ho
def RowOk (ns : List Int) (row : List D) : Prop := ∃ i r c : Int, row = [.scr ns, .int i, .int r, .int c] ∧ 0 ≤ i ∧ 0 ≤ r ∧ r < 2147483647 ∧ 0 ≤ c
theorem atI_4 {α : Type} (a b c d : α) : atI [a, b, c, d] 0 = some a ∧ atI [a, b, c, d] 1 = some b ∧ atI [a, b, c, d] 2 = some c ∧ atI [a, b, c, d] 3 = some d := ⟨rfl, rfl, rfl, rfl⟩
/-- what is no tuple -/
inductive NoTup : D → Prop
  | non : NoTup .non | bl b : NoTup (.bl b) | int i : NoTup (.int i) | str x : NoTup (.str x) | lst l : NoTup (.lst l) | dic l : NoTup (.dic l)
end M
namespace M
open PySem PySem.Spec L2
/-! ### defs as values -/
structure MHeld (P : Program) (w : World) (K : PySem.W.Frag) (mg : Str → Option Value) (base : Heap) (G : Wd) (k : Nat) (f : Addr) (n : Nat) (dn : FD) : Prop where
  ex : ∃ (fd : FuncData) (ps : List Str), FnOk P w K mg base (L2N.CX P w) k f fd ps (spM G n dn) ∧ PySem.W.keepIn K (.ref f) = true ∧ Binds K fd ps []
theorem MHeld.mono {P : Program} {w : World} {K : PySem.W.Frag} {mg : Str → Option Value} {base : Heap} {G : Wd} {k k' : Nat} {f : Addr} {n : Nat} {dn : FD} (h : MHeld P w K mg base G k f n dn) (hk : k ≤ k') : MHeld P w K mg base G k' f n dn := by
  obtain ⟨fd, ps, F, h1, h2⟩ := h.ex
  exact ⟨fd, ps, FnOk.mono F hk, h1, h2⟩
theorem MCal.held {P : Program} {w : World} {K : PySem.W.Frag} {mg : Str → Option Value} {base : Heap} {G : Wd} {k : Nat} {x : Str} {n : Nat} {dn : FD} {a : Addr} (h : MCal P w K mg base G k x n dn) (e : mg x = some (.ref a)) : MHeld P w K mg base G k a n dn := by
  obtain ⟨f, fd, ps, F, hm, h1, h2⟩ := h.ex
  rw [e] at hm
  cases hm
  exact ⟨fd, ps, F, h1, h2⟩
abbrev FTab := Str → Option (Nat × FD)
/-- x(..), x a name that holds a def of a table -/
@[simp] def eCallV (i : Nat) (tab : FTab) (f : DenL) : Den := fun ρ st => match ρ[i]? with
  | some (some (.p (.fn x))) => (match tab x with | some p => eCall p.1 p.2 f ρ st | none => .stuck)
  | _ => .stuck
section
variable {G : Wd} {W : WX} {X : Cx} {pos : Pos}
theorem me_fnv {x : Str} {a : Addr} (hm : X.mg x = some (.ref a)) (hG : G.fn x = some a) (hg : Gl X x := by rfl) (hd : (x == ("__debug__" : Str)) = false := by decide) : ME G W X (.Name x pos) (eC (.fn x)) :=
  me_c (v := .ref a) (pe_glob hg hm rfl hd) fun _ _ => .fn hG
theorem me_callV {k i : Nat} {x : Str} {tab : FTab} {p : Pos} {e : Expr} {es : List Expr} {f : DenL} (A : ∀ y a q, G.fn y = some a → tab y = some q → MHeld X.prog X.w X.K X.mg X.base G k a q.1 q.2) (hr : Room k X.A) (tk : L2N.Takes X W)
    (hv : PE X (.Name x p) (tVar i)) (ha : MA G W X (e :: es) f)
    (he : starEach (e :: es) X.env = (false, eval e X.env) :: starEach es X.env := by rfl) (hpl : (backTo pos (starEach es X.env)).any (·.1) = false := by rfl) :
    ME G W X (.Call (.Name x p) (e :: es) [] pos) (eCallV i tab f) := by
  refine ⟨fun pins s σ H Q I h => ?_⟩
  obtain ⟨Z, ρ, st, L, S, q⟩ := h
  unfold eCallV at q
  split at q
  · rename_i y ey
    split at q
    · rename_i fp ef
      obtain ⟨v, ev, r⟩ := S.env.2 i _ ey
      have hv2 : ∃ a, v = .ref a ∧ G.fn y = some a := by
        cases r with
        | p r => cases r with | fn h => exact ⟨_, rfl, h⟩
      obtain ⟨a, rfl, hG⟩ := hv2
      obtain ⟨fd, ps, F, kp, b⟩ := (A y a fp hG ef).ex
      refine wpAny_Call_Name_kw (thn (hv.run pins s σ H (fun v H1 => v = .ref a ∧ H1 = H) I ⟨.ref a, ev, rfl, rfl⟩) fun u s1 ⟨v, H1, I1, r1, q1⟩ => ?_)
      obtain ⟨rfl, rfl⟩ := q1
      cases r1
      have q2 : tMA G W f σ H1 fun vs H2 => spM G fp.1 fp.2 vs H2 Q (WE W σ) := by
        refine ⟨Z, ρ, st, L, S, PostR.bind (show PostR G Z W (RD G) σ L st H1 ((f ρ st).bind fun ds st => if ds.length = fp.1 then (match fp.2 (ds.map .p) [] with | .ok d [] => .ok d st | .exc c fs [] => .exc c fs st | _ => .stuck) else .stuck) Q from q) fun ds st1 vs H1 L1 ed f1 o1 r1 q1 => ?_⟩
        by_cases hn : ds.length = fp.1
        · rw [if_pos hn] at q1
          exact me_call1 o1 r1 hn q1
        · rw [if_neg hn] at q1
          exact q1.elim
      refine PySem.W.callWith_K (h₀ := X.base) I.ok.mod.kin kp (thn (ha.run pos pins s1 σ _ _ I1 q2) fun us s2 ⟨vs, H2, I2, r, q3⟩ => ⟨I2.kIn, ?_⟩) he hpl
      exact run_fnS (E := WE W) F hr b (L2N.passAt tk σ) I2 r q3
    · exact q.elim
  · exact q.elim
end
end M
namespace M
open PySem PySem.Spec L2
/-! ### dicts -/
def kOf : D → Option Key
  | .int i => some (.inl i) | .str x => some (.inr x) | _ => none
def kOfs : List D → Option (List Key)
  | [] => some []
  | d :: r => match kOf d with
    | some k => (kOfs r).map fun ks => k :: ks
    | none => none
/-- the same key -/
def keq : D → D → Bool
  | .int i, .int j => decide (i = j)
  | .str x, .str y => decide (x = y)
  | .tup xs, .tup ys => (match kOfs xs with | some a => (match kOfs ys with | some b => decide (a = b) | none => false) | none => false)
  | _, _ => false
def lookD : List (D × D) → D → Option D
  | [], _ => none
  | p :: r, k => if keq p.1 k = true then some p.2 else lookD r k
def putD (kvs : List (D × D)) (k v : D) : List (D × D) := if (kvs.any fun p => keq p.1 k) = true then kvs.map (fun p => if keq p.1 k = true then (p.1, v) else p) else kvs ++ [(k, v)]
section
variable {G : Wd} {Z Z' : Zone} {H H' : Hp}
theorem rep_kOf {d : D} {v : V} {k : Key} (r : Rep G Z H d v) (h : kOf d = some k) : v = kV k := by
  cases d with
  | int i => cases h; exact r.int'
  | str x => cases h; exact r.str'
  | _ => cases h
theorem reps_kOfs : ∀ {ds : List D} {vs : List V} {ks : List Key}, Reps G Z H ds vs → kOfs ds = some ks → vs = ks.map kV
  | _, _, _, .nil, h => by cases h; rfl
  | d :: ds, _, _, .cons r t, h => by
    unfold kOfs at h
    split at h
    · rename_i k ek
      obtain ⟨ks, h1, rfl⟩ := Option.map_eq_some_iff.mp h
      rw [rep_kOf r ek, reps_kOfs t h1]
      rfl
    · cases h
theorem rep_kV {d : D} {k : Key} (r : Rep G Z H d (kV k)) : kOf d = some k := by
  cases k with
  | inl i =>
    have r : Rep G Z H d (.int i) := r
    cases r; rfl
  | inr x =>
    have r : Rep G Z H d (.str x) := r
    cases r; rfl
theorem reps_kVs : ∀ {ds : List D} {ks : List Key}, Reps G Z H ds (ks.map kV) → kOfs ds = some ks
  | [], [], _ => rfl
  | [], _ :: _, r => by cases r
  | _ :: _, [], r => by cases r
  | d :: ds, k :: ks, r => by
    rw [List.map_cons] at r
    cases r with
    | cons r t =>
      unfold kOfs
      rw [rep_kV r, reps_kVs t]
      rfl
theorem keq_k {d e : D} {a b : Key} (h1 : kOf d = some a) (h2 : kOf e = some b) : keq d e = decide (a = b) := by
  cases d with
  | int i =>
    cases h1
    cases e with
    | int j => cases h2; simp [keq]
    | str y => cases h2; simp [keq]
    | _ => cases h2
  | str x =>
    cases h1
    cases e with
    | int j => cases h2; simp [keq]
    | str y => cases h2; simp [keq]
    | _ => cases h2
  | _ => cases h1
theorem keq_t {xs ys : List D} {a b : List Key} (h1 : kOfs xs = some a) (h2 : kOfs ys = some b) : keq (.tup xs) (.tup ys) = decide (a = b) := by
  simp only [keq, h1, h2]
/-- what stands at a key, in both -/
def RelD (G : Wd) (Z : Zone) (H : Hp) : Option D → Option V → Prop
  | none, none => True | some d, some v => Rep G Z H d v | _, _ => False
theorem RelD.some {d : D} {o : Option V} (h : RelD G Z H (some d) o) : ∃ v, o = some v ∧ Rep G Z H d v := by
  cases o with
  | none => exact h.elim
  | some v => exact ⟨v, rfl, h⟩
theorem RelD.isSome {o : Option D} {u : Option V} (h : RelD G Z H o u) : o.isSome = u.isSome := by
  cases o <;> cases u <;> first | rfl | exact h.elim
theorem RelD.getD {o : Option D} {u : Option V} {d : D} {v : V} (h : RelD G Z H o u) (r : Rep G Z H d v) : Rep G Z H (o.getD d) (u.getD v) := by
  cases o <;> cases u <;> first | exact r | exact h | exact h.elim
theorem RepK.cons' {p : D × D} {q : Key × V} {ds : List (D × D)} {vs : List (Key × V)} (h : RepK G Z H (p :: ds) (q :: vs)) : kOf p.1 = some q.1 ∧ Rep G Z H p.2 q.2 ∧ RepK G Z H ds vs := by
  cases h with
  | int r t => exact ⟨rfl, r, t⟩
  | str r t => exact ⟨rfl, r, t⟩
theorem RepT.cons' {p : D × D} {q : List Key × V} {ds : List (D × D)} {vs : List (List Key × V)} (h : RepT G Z H (p :: ds) (q :: vs)) : (∃ es, p.1 = .tup es ∧ Reps G Z H es (q.1.map kV)) ∧ Rep G Z H p.2 q.2 ∧ RepT G Z H ds vs := by
  cases h with
  | cons e r t => exact ⟨⟨_, rfl, e⟩, r, t⟩
theorem RepK.look {k : D} {κ : Key} (hk : kOf k = some κ) : ∀ {ds : List (D × D)} {vs : List (Key × V)}, RepK G Z H ds vs → RelD G Z H (lookD ds k) (valV vs κ)
  | [], [], _ => trivial
  | [], _ :: _, h => by cases h
  | _ :: _, [], h => by cases h
  | p :: ds, q :: vs, h => by
    obtain ⟨h1, h2, h3⟩ := h.cons'
    unfold lookD
    rw [keq_k h1 hk]
    by_cases e : q.1 = κ
    · rw [decide_eq_true e, if_pos rfl, valV_pos e]; exact h2
    · rw [decide_eq_false e, if_neg (by simp), valV_neg e]; exact RepK.look hk h3
theorem RepT.look {es : List D} {κ : List Key} (hk : kOfs es = some κ) : ∀ {ds : List (D × D)} {vs : List (List Key × V)}, RepT G Z H ds vs → RelD G Z H (lookD ds (.tup es)) (valV vs κ)
  | [], [], _ => trivial
  | [], _ :: _, h => by cases h
  | _ :: _, [], h => by cases h
  | p :: ds, q :: vs, h => by
    obtain ⟨⟨es', e1, h1⟩, h2, h3⟩ := h.cons'
    unfold lookD
    rw [e1, keq_t (reps_kVs h1) hk]
    by_cases e : q.1 = κ
    · rw [decide_eq_true e, if_pos rfl, valV_pos e]; exact h2
    · rw [decide_eq_false e, if_neg (by simp), valV_neg e]; exact RepT.look hk h3
theorem RepK.length : ∀ {ds : List (D × D)} {vs : List (Key × V)}, RepK G Z H ds vs → ds.length = vs.length
  | _, _, .nil => rfl
  | _, _, .int _ t => congrArg (· + 1) (RepK.length t)
  | _, _, .str _ t => congrArg (· + 1) (RepK.length t)
theorem RepT.length : ∀ {ds : List (D × D)} {vs : List (List Key × V)}, RepT G Z H ds vs → ds.length = vs.length
  | _, _, .nil => rfl
  | _, _, .cons _ _ t => congrArg (· + 1) (RepT.length t)
theorem RepK.mk {p : D × D} {q : Key × V} {ds : List (D × D)} {vs : List (Key × V)} (h1 : kOf p.1 = some q.1) (h2 : Rep G Z H p.2 q.2) (h3 : RepK G Z H ds vs) : RepK G Z H (p :: ds) (q :: vs) := by
  obtain ⟨d, e⟩ := p
  obtain ⟨k, v⟩ := q
  cases d with
  | int i => cases h1; exact .int h2 h3
  | str x => cases h1; exact .str h2 h3
  | _ => cases h1
theorem RepK.any {k : D} {κ : Key} (hk : kOf k = some κ) : ∀ {ds : List (D × D)} {vs : List (Key × V)}, RepK G Z H ds vs → (ds.any fun p => keq p.1 k) = vs.any fun q => decide (q.1 = κ)
  | [], [], _ => rfl
  | [], _ :: _, h => by cases h
  | _ :: _, [], h => by cases h
  | p :: ds, q :: vs, h => by
    obtain ⟨h1, h2, h3⟩ := h.cons'
    rw [List.any_cons, List.any_cons, keq_k h1 hk, RepK.any hk h3]
theorem RepT.any {es : List D} {κ : List Key} (hk : kOfs es = some κ) : ∀ {ds : List (D × D)} {vs : List (List Key × V)}, RepT G Z H ds vs → (ds.any fun p => keq p.1 (.tup es)) = vs.any fun q => decide (q.1 = κ)
  | [], [], _ => rfl
  | [], _ :: _, h => by cases h
  | _ :: _, [], h => by cases h
  | p :: ds, q :: vs, h => by
    obtain ⟨⟨es', e1, h1⟩, h2, h3⟩ := h.cons'
    rw [List.any_cons, List.any_cons, e1, keq_t (reps_kVs h1) hk, RepT.any hk h3]
theorem RepK.repl {k d : D} {v : V} {κ : Key} (hk : kOf k = some κ) (r : Rep G Z H d v) : ∀ {ds : List (D × D)} {vs : List (Key × V)}, RepK G Z H ds vs → RepK G Z H (ds.map fun p => if keq p.1 k = true then (p.1, d) else p) (vs.map fun q => if q.1 = κ then (q.1, v) else q)
  | [], [], _ => .nil
  | [], _ :: _, h => by cases h
  | _ :: _, [], h => by cases h
  | p :: ds, q :: vs, h => by
    obtain ⟨h1, h2, h3⟩ := h.cons'
    rw [List.map_cons, List.map_cons, keq_k h1 hk]
    by_cases e : q.1 = κ
    · rw [decide_eq_true e, if_pos rfl, if_pos e]; exact .mk h1 r (RepK.repl hk r h3)
    · rw [decide_eq_false e, if_neg (by simp), if_neg e]; exact .mk h1 h2 (RepK.repl hk r h3)
theorem RepT.mk {p : D × D} {q : List Key × V} {es : List D} {ds : List (D × D)} {vs : List (List Key × V)} (e : p.1 = .tup es) (h1 : Reps G Z H es (q.1.map kV)) (h2 : Rep G Z H p.2 q.2) (h3 : RepT G Z H ds vs) : RepT G Z H (p :: ds) (q :: vs) := by
  obtain ⟨d, e'⟩ := p
  cases e
  exact .cons h1 h2 h3
theorem RepT.repl {es : List D} {d : D} {v : V} {κ : List Key} (hk : kOfs es = some κ) (r : Rep G Z H d v) : ∀ {ds : List (D × D)} {vs : List (List Key × V)}, RepT G Z H ds vs → RepT G Z H (ds.map fun p => if keq p.1 (.tup es) = true then (p.1, d) else p) (vs.map fun q => if q.1 = κ then (q.1, v) else q)
  | [], [], _ => .nil
  | [], _ :: _, h => by cases h
  | _ :: _, [], h => by cases h
  | p :: ds, q :: vs, h => by
    obtain ⟨⟨es', e1, h1⟩, h2, h3⟩ := h.cons'
    rw [List.map_cons, List.map_cons]
    have hq : keq p.1 (.tup es) = decide (q.1 = κ) := by rw [e1, keq_t (reps_kVs h1) hk]
    rw [hq]
    by_cases e : q.1 = κ
    · rw [decide_eq_true e, if_pos rfl, if_pos e]; exact .mk e1 h1 r (RepT.repl hk r h3)
    · rw [decide_eq_false e, if_neg (by simp), if_neg e]; exact .mk e1 h1 h2 (RepT.repl hk r h3)
theorem RepK.snoc {p : D × D} {q : Key × V} (h1 : kOf p.1 = some q.1) (h2 : Rep G Z H p.2 q.2) : ∀ {ds : List (D × D)} {vs : List (Key × V)}, RepK G Z H ds vs → RepK G Z H (ds ++ [p]) (vs ++ [q])
  | _, _, .nil => .mk h1 h2 .nil
  | _, _, .int r t => .int r (RepK.snoc h1 h2 t)
  | _, _, .str r t => .str r (RepK.snoc h1 h2 t)
theorem RepT.snoc {p : D × D} {q : List Key × V} {es : List D} (e : p.1 = .tup es) (h1 : Reps G Z H es (q.1.map kV)) (h2 : Rep G Z H p.2 q.2) : ∀ {ds : List (D × D)} {vs : List (List Key × V)}, RepT G Z H ds vs → RepT G Z H (ds ++ [p]) (vs ++ [q])
  | _, _, .nil => .mk e h1 h2 .nil
  | _, _, .cons e' r t => .cons e' r (RepT.snoc e h1 h2 t)
theorem RepK.put {k d : D} {v : V} {κ : Key} {ds : List (D × D)} {vs : List (Key × V)} (h : RepK G Z H ds vs) (hk : kOf k = some κ) (r : Rep G Z H d v) : RepK G Z H (putD ds k d) (putK vs κ v) := by
  unfold putD putK
  rw [h.any hk]
  split
  · exact h.repl hk r
  · exact h.snoc hk r
theorem RepT.put {es : List D} {d : D} {v : V} {κ : List Key} {ds : List (D × D)} {vs : List (List Key × V)} (h : RepT G Z H ds vs) (he : Reps G Z H es (κ.map kV)) (r : Rep G Z H d v) : RepT G Z H (putD ds (.tup es) d) (putK vs κ v) := by
  unfold putD putK
  rw [h.any (reps_kVs he)]
  split
  · exact h.repl (reps_kVs he) r
  · exact h.snoc rfl he r
end
/-! ### reading -/
def dGetK (d k : D) : Option D := match d with
  | .dic kvs => (match kOf k with | some _ => lookD kvs k | none => none) | _ => none
def dInK (k d : D) : Option D := match d with
  | .dic kvs => (match kOf k with | some _ => some (.bl (lookD kvs k).isSome) | none => none) | _ => none
def dNotInK (k d : D) : Option D := match d with
  | .dic kvs => (match kOf k with | some _ => some (.bl (!(lookD kvs k).isSome)) | none => none) | _ => none
def rDGet : R2 := fun x y H Q => ∃ a v, x = .ref a ∧ DGet H a y (some v) ∧ Q v H
def rDIn : R2 := fun x y H Q => ∃ a o, y = .ref a ∧ DGet H a x o ∧ Q (.bl o.isSome) H
def rDNotIn : R2 := fun x y H Q => ∃ a o, y = .ref a ∧ DGet H a x o ∧ Q (.bl (!o.isSome)) H
section
variable {G : Wd} {W : WX} {X : Cx} {Z Z' : Zone} {H H' : Hp} {L : List Addr} {st : Sto}
theorem View.dic {ds : List (D × D)} {v : V} (h : View G Z H (.dic ds) v) : ∃ a kvs, v = .ref a ∧ Rd H a (.dK kvs) ∧ RepK G Z H ds kvs := by
  cases h with
  | rep h => cases h with
    | dK r z h => exact ⟨_, _, rfl, r, h⟩
  | dK r h => exact ⟨_, _, rfl, r, h⟩
theorem View.diT {ds : List (D × D)} {v : V} (h : View G Z H (.diT ds) v) : ∃ a kvs, v = .ref a ∧ Rd H a (.dT kvs) ∧ RepT G Z H ds kvs := by
  cases h with
  | rep h => cases h with
    | dT r z h => exact ⟨_, _, rfl, r, h⟩
  | dT r h => exact ⟨_, _, rfl, r, h⟩
theorem view_kOf {d : D} {v : V} {k : Key} (r : View G Z H d v) (h : kOf d = some k) : v = kV k := by
  cases d with
  | int i => cases h; exact r.int'
  | str x => cases h; exact r.str'
  | _ => cases h
theorem op_dIn (hu : X.A.units + 1 < cLine) : OpR X (compareOp .In) rDIn := by
  intro pins s σ H x y v u Q I rx ry h
  obtain ⟨a, o, rfl, g, q⟩ := h
  cases ry
  exact d_in hu I g rx fun s' I' => ⟨.bl o.isSome, H, I', rfl, q⟩
theorem op_dNotIn (hu : X.A.units + 1 < cLine) : OpR X (compareOp .NotIn) rDNotIn := by
  intro pins s σ H x y v u Q I rx ry h
  obtain ⟨a, o, rfl, g, q⟩ := h
  cases ry
  exact d_notIn hu I g rx fun s' I' => ⟨.bl (!o.isSome), H, I', rfl, q⟩
theorem sim_dGetK : Sim2 G dGetK rDGet := fun Z H d e x y z Q i rx ry h q => by
  unfold dGetK at h
  split at h
  · split at h
    · rename_i k hk
      obtain ⟨a, kvs, rfl, hd, rk⟩ := rx.dic
      have rl := rk.look hk
      rw [h] at rl
      obtain ⟨v, e1, rv⟩ := rl.some
      exact ⟨a, v, rfl, .inl ⟨kvs, k, hd, view_kOf ry hk, e1.symm⟩, q v H (Same.refl H) rv⟩
    · cases h
  · cases h
theorem sim_dInK : Sim2 G dInK rDIn := fun Z H d e x y z Q i rx ry h q => by
  unfold dInK at h
  split at h
  · split at h
    · rename_i k hk
      cases h
      obtain ⟨a, kvs, rfl, hd, rk⟩ := ry.dic
      refine ⟨a, valV kvs k, rfl, .inl ⟨kvs, k, hd, view_kOf rx hk, rfl⟩, ?_⟩
      rw [← (rk.look hk).isSome]
      exact q _ H (Same.refl H) (.bl _)
    · cases h
  · cases h
theorem sim_dNotInK : Sim2 G dNotInK rDNotIn := fun Z H d e x y z Q i rx ry h q => by
  unfold dNotInK at h
  split at h
  · split at h
    · rename_i k hk
      cases h
      obtain ⟨a, kvs, rfl, hd, rk⟩ := ry.dic
      refine ⟨a, valV kvs k, rfl, .inl ⟨kvs, k, hd, view_kOf rx hk, rfl⟩, ?_⟩
      rw [← (rk.look hk).isSome]
      exact q _ H (Same.refl H) (.bl _)
    · cases h
  · cases h
variable {o i : Expr} {fo fi : Den} {pos p : Pos}
theorem me_dget (hu : X.A.units + 1 < cLine) (ho : ME G W X o fo) (hi : MV G W X i fi) (hs : NoSl i := by intro _ _; rfl) : ME G W X (.Subscript o i pos) (eOp2 dGetK fo fi) :=
  PE.imp (pe_dget hu ho hi hs) fun σ H Q q => two sim_dGetK q
theorem me_dgetP {x : Str} {n : Nat} (hu : X.A.units + 1 < cLine) (ho : PE X (.Name x p) (tVar n)) (hi : MV G W X i fi) (hs : NoSl i := by intro _ _; rfl) : ME G W X (.Subscript (.Name x p) i pos) (eOp2P dGetK n fi) :=
  PE.imp (pe_dget hu ho hi hs) fun σ H Q q => two_p sim_dGetK q
end
/-! ### tuple keys: made on the spot -/
def RKt (G : Wd) : Zone → Hp → D → V → Prop := fun Z H d v => ∃ (es : List D) (b : Addr) (ks : List Key), d = .tup es ∧ v = .ref b ∧ H b = some (.tup (ks.map kV)) ∧ ¬ Z b ∧ Reps G Z H es (ks.map kV)
def tMK (G : Wd) (W : WX) (f : Den) : TE := fun σ H Q => ∃ Z ρ st L, Stt G Z ρ st L σ H ∧ PostR G Z W (RKt G) σ L st H (f ρ st) Q
abbrev MKt (G : Wd) (W : WX) (X : Cx) (e : Expr) (f : Den) : Prop := PE X e (tMK G W f)
@[simp] noncomputable def eTupK (f : DenL) : Den := fun ρ st => (f ρ st).bind fun ds st => if ds.length ≤ sizeLine then (match kOfs ds with | some _ => .ok (.tup ds) st | none => .stuck) else .stuck
def cutPart (n : Nat) (lo hi : Option Int) : Bool := !(decide (HT.sIx n 0 lo = 0) && decide (HT.sIx n n hi = n))
noncomputable def cutK (d : D) (lo hi : Option Int) : Option D := match d with
  | .tup ds => if cutPart ds.length lo hi = true then (match kOfs (cutD ds lo hi) with | some _ => some (.tup (cutD ds lo hi)) | none => none) else none
  | _ => none
@[simp] noncomputable def eCutK (f : Den) (lo hi : DenO) : Den := fun ρ st => (f ρ st).bind fun d st => (lo ρ st).bind fun l st => (hi ρ st).bind fun h st => match cutK d l h with | some z => .ok z st | none => .stuck
section
variable {G : Wd} {W : WX} {X : Cx} {Z Z' : Zone} {H H' : Hp} {L : List Addr} {st : Sto} {pos p p2 : Pos} {es : List Expr} {e : Expr}
theorem RKt.mono (k : Keeps Z Z' H H') {d : D} {v : V} (h : RKt G Z H d v) : RKt G Z' H' d v := by
  obtain ⟨es, b, ks, h1, h2, h3, h4, h5⟩ := h
  obtain ⟨k1, k2⟩ := k b _ h3 h4
  exact ⟨es, b, ks, h1, h2, k1.tup, k2, h5.mono k⟩
theorem newK {ds : List D} {vs : List V} {ks : List Key} {p : Addr} (i : In Z H) (r : Reps G Z H ds vs) (hk : kOfs ds = some ks) (h : H p = none) : RKt G Z (upd H p (.tup vs)) (.tup ds) (.ref p) := by
  have e := reps_kOfs r hk
  subst e
  exact ⟨ds, p, ks, rfl, rfl, upd_same, i.not h, r.new h⟩
theorem mk_tup {f : DenL} {k : Nat} (h : MA G W X es f) : MKt G W X (.Tuple es k pos) (eTupK f) := PE.imp (pe_tup h) fun σ H Q q => by
  obtain ⟨Z, ρ, st, L, S, q⟩ := q
  refine ⟨Z, ρ, st, L, S, PostR.bind q fun d st1 x H1 L1 e f1 o1 r1 q1 => ?_⟩
  split at q1
  · rename_i hz
    split at q1
    · rename_i ks hk
      exact ⟨by rw [← r1.length]; exact hz, fun p hp => q1 _ _ L1 (Fw.same (same_new hp)) (o1.same (same_new hp)) (newK o1.inn r1 hk hp)⟩
    · exact q1.elim
  · exact q1.elim
theorem mk_cut {f : Den} {lo hi : Option Expr} {fl fh : DenO} (hK : G.K = X.K) (he : ME G W X e f) (hl : MO G W X lo fl) (hh : MO G W X hi fh) : MKt G W X (.Subscript e (.Slice lo hi none p2) pos) (eCutK f fl fh) := PE.imp (pe_slice sl_m he hl hh) fun σ H Q q => by
  obtain ⟨Z, ρ, st, L, S, q⟩ := q
  refine ⟨Z, ρ, st, L, S, PostR.bind q fun d st1 x H1 L1 e f1 o1 r1 q1 => ?_⟩
  refine ⟨Z, ρ, st1, L1, S.to f1 o1, PostR.bind q1 fun l st2 y H2 L2 e2 f2 o2 r2 q2 => ?_⟩
  subst r2
  refine ⟨Z, ρ, st2, L2, (S.to f1 o1).to f2 o2, PostR.bind q2 fun h st3 y3 H3 L3 e3 f3 o3 r3 q3 => ?_⟩
  subst r3
  have r1 := (r1.mono f2.keeps).mono f3.keeps
  split at q3
  · rename_i z ez
    unfold cutK at ez
    split at ez
    · split at ez
      · rename_i hp
        split at ez
        · rename_i ks hk
          cases ez
          obtain ⟨a, vs, rfl, ha, ra⟩ := r1.tup'
          refine .inr (.inl ⟨a, vs, rfl, hK ▸ ha, fun hw => ?_, fun hw p hp => q3 _ _ L3 (Fw.same (same_new hp)) (o3.same (same_new hp)) (newK o3.inn ra.cut hk hp)⟩)
          unfold cutPart at hp
          rw [ra.length, hw.1, hw.2] at hp
          simp at hp
        · cases ez
      · cases ez
    · cases ez
  · exact q3.elim
/-- a key of this kind first, then what is looked at -/
def SimKt (G : Wd) (g : D → D → Option D) (r : R2) : Prop := ∀ Z H d e x y z Q, In Z H → RKt G Z H d x → View G Z H e y → g d e = some z → (∀ v H', Same H H' → Rep G Z H' z v → Q v H') → r x y H Q
def SimTk (G : Wd) (g : D → D → Option D) (r : R2) : Prop := ∀ Z H d e x y z Q, In Z H → View G Z H d x → RKt G Z H e y → g d e = some z → (∀ v H', Same H H' → Rep G Z H' z v → Q v H') → r x y H Q
theorem two_kt {f h : Den} {g : D → D → Option D} {r : R2} (s : SimKt G g r) {σ : St} {H : Hp} {Q : VK} (q : tM G W (eOp2 g f h) σ H Q) : tMK G W f σ H fun x H1 => tMV G W h σ H1 fun y H2 => r x y H2 Q := by
  obtain ⟨Z, ρ, st, L, S, q⟩ := q
  refine ⟨Z, ρ, st, L, S, PostR.bind q fun d st1 x H1 L1 e f1 o1 r1 q1 => ?_⟩
  refine ⟨Z, ρ, st1, L1, S.to f1 o1, PostR.bind q1 fun d2 st2 y H2 L2 e2 f2 o2 r2 q2 => ?_⟩
  split at q2
  · rename_i z ez
    exact s _ _ _ _ _ _ z _ o2.inn (r1.mono f2.keeps) r2 ez fun v' H' e' r' => q2 v' H' L2 (Fw.same e') (o2.same e') r'
  · exact q2.elim
theorem two_tk {f h : Den} {g : D → D → Option D} {r : R2} (s : SimTk G g r) {σ : St} {H : Hp} {Q : VK} (q : tM G W (eOp2 g f h) σ H Q) : tM G W f σ H fun x H1 => tMK G W h σ H1 fun y H2 => r x y H2 Q := by
  obtain ⟨Z, ρ, st, L, S, q⟩ := q
  refine ⟨Z, ρ, st, L, S, PostR.bind q fun d st1 x H1 L1 e f1 o1 r1 q1 => ?_⟩
  refine ⟨Z, ρ, st1, L1, S.to f1 o1, PostR.bind q1 fun d2 st2 y H2 L2 e2 f2 o2 r2 q2 => ?_⟩
  split at q2
  · rename_i z ez
    exact s _ _ _ _ _ _ z _ o2.inn (.rep (r1.mono f2.keeps)) r2 ez fun v' H' e' r' => q2 v' H' L2 (Fw.same e') (o2.same e') r'
  · exact q2.elim
theorem two_ptk {h : Den} {i : Nat} {g : D → D → Option D} {r : R2} (s : SimTk G g r) {σ : St} {H : Hp} {Q : VK} (q : tM G W (eOp2P g i h) σ H Q) : tVar i σ H fun x H1 => tMK G W h σ H1 fun y H2 => r x y H2 Q := by
  obtain ⟨Z, ρ, st, L, S, q⟩ := q
  unfold eOp2P at q
  cases e0 : eVarB i ρ st with
  | stuck => rw [e0] at q; exact q.elim
  | exc c fs st3 => exact (varB_exc e0).elim
  | ok d0 st0 =>
    rw [e0] at q
    obtain ⟨rfl, v, ev, w⟩ := varB S e0
    refine ⟨v, ev, Z, ρ, _, L, S, PostR.bind q fun d2 st2 y H2 L2 e2 f2 o2 r2 q2 => ?_⟩
    cases e1 : eVarB i ρ st2 with
    | stuck => rw [e1] at q2; exact q2.elim
    | exc c fs st3 => exact (varB_exc e1).elim
    | ok d st3 =>
      rw [e1] at q2
      obtain ⟨rfl, v', ev', w⟩ := varB (S.to f2 o2) e1
      rw [ev] at ev'
      cases ev'
      have q2 : PostR G Z W (fun Z H => Rep G Z H) σ L2 _ H2 (match g d d2 with | some z => Res.ok z _ | none => .stuck) Q := q2
      split at q2
      · rename_i z ez
        exact s _ _ _ _ _ _ z _ o2.inn w r2 ez fun v' H' e' r' => q2 v' H' L2 (Fw.same e') (o2.same e') r'
      · exact q2.elim
def dGetT (d k : D) : Option D := match d with | .diT kvs => lookD kvs k | _ => none
def dInT (k d : D) : Option D := match d with | .diT kvs => some (.bl (lookD kvs k).isSome) | _ => none
def dNotInT (k d : D) : Option D := match d with | .diT kvs => some (.bl (!(lookD kvs k).isSome)) | _ => none
theorem sim_dGetT : SimTk G dGetT rDGet := fun Z H d e x y z Q i rx ry h q => by
  unfold dGetT at h
  split at h
  · obtain ⟨a, kvs, rfl, hd, rk⟩ := rx.diT
    obtain ⟨es, b, ks, rfl, rfl, hb, zb, re⟩ := ry
    have rl := rk.look (reps_kVs re)
    rw [h] at rl
    obtain ⟨v, e1, rv⟩ := rl.some
    exact ⟨a, v, rfl, .inr ⟨kvs, ks, b, hd, rfl, hb, e1.symm⟩, q v H (Same.refl H) rv⟩
  · cases h
theorem sim_dInT : SimKt G dInT rDIn := fun Z H d e x y z Q i rx ry h q => by
  unfold dInT at h
  split at h
  · cases h
    obtain ⟨a, kvs, rfl, hd, rk⟩ := ry.diT
    obtain ⟨es, b, ks, rfl, rfl, hb, zb, re⟩ := rx
    refine ⟨a, valV kvs ks, rfl, .inr ⟨kvs, ks, b, hd, rfl, hb, rfl⟩, ?_⟩
    rw [← (rk.look (reps_kVs re)).isSome]
    exact q _ H (Same.refl H) (.bl _)
  · cases h
theorem sim_dNotInT : SimKt G dNotInT rDNotIn := fun Z H d e x y z Q i rx ry h q => by
  unfold dNotInT at h
  split at h
  · cases h
    obtain ⟨a, kvs, rfl, hd, rk⟩ := ry.diT
    obtain ⟨es, b, ks, rfl, rfl, hb, zb, re⟩ := rx
    refine ⟨a, valV kvs ks, rfl, .inr ⟨kvs, ks, b, hd, rfl, hb, rfl⟩, ?_⟩
    rw [← (rk.look (reps_kVs re)).isSome]
    exact q _ H (Same.refl H) (.bl _)
  · cases h
variable {o i : Expr} {fo fi : Den}
theorem me_dgetT (hu : X.A.units + 1 < cLine) (ho : ME G W X o fo) (hi : MKt G W X i fi) (hs : NoSl i := by intro _ _; rfl) : ME G W X (.Subscript o i pos) (eOp2 dGetT fo fi) :=
  PE.imp (pe_dget hu ho hi hs) fun σ H Q q => two_tk sim_dGetT q
theorem me_dgetPT {x : Str} {n : Nat} (hu : X.A.units + 1 < cLine) (ho : PE X (.Name x p) (tVar n)) (hi : MKt G W X i fi) (hs : NoSl i := by intro _ _; rfl) : ME G W X (.Subscript (.Name x p) i pos) (eOp2P dGetT n fi) :=
  PE.imp (pe_dget hu ho hi hs) fun σ H Q q => two_ptk sim_dGetT q
theorem me_cmpT {op : CmpOp} {r : R2} {a b : Expr} {f h : Den} {pos : Pos} {g : D → D → Option D} (ho : OpR X (compareOp op) r) (s : SimKt G g r) (ha : MKt G W X a f) (hb : MV G W X b h) (hm : behindInMarks op b = false) : ME G W X (.Compare a [op] [b] pos) (eOp2 g f h) :=
  PE.imp (pe_cmpR ho ha hb hm) fun σ H Q q => two_kt s q
end
end M
namespace M
open PySem PySem.Spec L2
/-! ### dicts of one's own are written -/
def dicAt (i : Nat) (ρ : Env) (st : Sto) : Option (Nat × List (D × D)) := match ρ[i]? with
  | some (some (.r n)) => (match st[n]? with | some (.dic ds) => some (n, ds) | _ => none)
  | _ => none
def diTAt (i : Nat) (ρ : Env) (st : Sto) : Option (Nat × List (D × D)) := match ρ[i]? with
  | some (some (.r n)) => (match st[n]? with | some (.diT ds) => some (n, ds) | _ => none)
  | _ => none
noncomputable def putKAt (o : Option (Nat × List (D × D))) (k d : D) (ρ : Env) (st : Sto) : SRes := match o with
  | some p => (match kOf k with | some _ => if p.2.length < sizeLine then .next ρ (st.set p.1 (.dic (putD p.2 k d))) else .stuck | none => .stuck)
  | none => .stuck
noncomputable def putTAt (o : Option (Nat × List (D × D))) (k d : D) (ρ : Env) (st : Sto) : SRes := match o with
  | some p => if p.2.length < sizeLine then .next ρ (st.set p.1 (.diT (putD p.2 k d))) else .stuck
  | none => .stuck
/-- x[k] = e -/
@[simp] noncomputable def sPutK (i : Nat) (fk fe : Den) : SDen := fun ρ st => sOf fe (fun d ρ st => match dicAt i ρ st with
  | none => .stuck
  | some _ => sOf fk (fun k ρ st => putKAt (dicAt i ρ st) k d ρ st) ρ st) ρ st
@[simp] noncomputable def sPutT (i : Nat) (fk fe : Den) : SDen := fun ρ st => sOf fe (fun d ρ st => match diTAt i ρ st with
  | none => .stuck
  | some _ => sOf fk (fun k ρ st => putTAt (diTAt i ρ st) k d ρ st) ρ st) ρ st
@[simp] def nDicK : Env → Sto → Res O := fun _ st => .ok (.dic []) st
@[simp] def nDicT : Env → Sto → Res O := fun _ st => .ok (.diT []) st
section
variable {G : Wd} {W : WX} {X : Cx} {Z Z' : Zone} {H H' : Hp} {L : List Addr} {st : Sto} {pos p spos : Pos} {e : Expr}
theorem dicAt_some {i : Nat} {ρ : Env} {σ : St} {n : Nat} {ds : List (D × D)} (S : Stt G Z ρ st L σ H) (e : dicAt i ρ st = some (n, ds)) : ∃ a kvs, σ[i]? = some (some (.ref a)) ∧ L[n]? = some a ∧ st[n]? = some (.dic ds) ∧ H a = some (.dK kvs) ∧ RepK G (Zof Z L st) H ds kvs := by
  unfold dicAt at e
  split at e
  · rename_i m er
    split at e
    · rename_i es eo
      cases e
      obtain ⟨v, ev, r⟩ := S.env.2 i _ er
      cases r with
      | r r =>
        obtain ⟨vs, h1, h2⟩ := S.ok.obj _ _ _ r eo
        exact ⟨_, vs, ev, r, eo, h1, h2⟩
    · cases e
  · cases e
theorem diTAt_some {i : Nat} {ρ : Env} {σ : St} {n : Nat} {ds : List (D × D)} (S : Stt G Z ρ st L σ H) (e : diTAt i ρ st = some (n, ds)) : ∃ a kvs, σ[i]? = some (some (.ref a)) ∧ L[n]? = some a ∧ st[n]? = some (.diT ds) ∧ H a = some (.dT kvs) ∧ RepT G (Zof Z L st) H ds kvs := by
  unfold diTAt at e
  split at e
  · rename_i m er
    split at e
    · rename_i es eo
      cases e
      obtain ⟨v, ev, r⟩ := S.env.2 i _ er
      cases r with
      | r r =>
        obtain ⟨vs, h1, h2⟩ := S.ok.obj _ _ _ r eo
        exact ⟨_, vs, ev, r, eo, h1, h2⟩
    · cases e
  · cases e
/-- a live thing is written: what leans on the heap beside it stays -/
theorem keeps_wr {n : Nat} {a : Addr} {o o' : O} {ho : HO} (g1 : L[n]? = some a) (g2 : st[n]? = some o) (lo : o.live = true) : Keeps (Zof Z L st) (Zof Z L (st.set n o')) H (upd H a ho) := fun b u e z => by
  have la : Live L st a := ⟨n, _, g1, g2, lo⟩
  have ne : b ≠ a := fun q => z (.inr (q ▸ la))
  refine ⟨.of (by rw [upd_ne ne]; exact e), fun q => ?_⟩
  rcases q with q | ⟨j, u2, j1, j2, j3⟩
  · exact z (.inl q)
  · rcases getElem?_set_cases j2 with ⟨rfl, rfl, _⟩ | ⟨_, h⟩
    · rw [g1] at j1; exact ne (Option.some.inj j1).symm
    · exact z (.inr ⟨j, u2, j1, h, j3⟩)
theorem ms_putK {x : Str} {i : Nat} {ej : Expr} {fj fe : Den} (hu : X.A.units + 1 < cLine) (hv : PE X (.Name x p) (tVar i)) (hj : ME G W X ej fj) (he : ME G W X e fe)
    (hs : swapsWith e (some (.Subscript (.Name x p) ej spos)) pos.line X.env = pure false := by rfl) : MS G W X (.Assign [.Subscript (.Name x p) ej spos] e pos) (sPutK i fj fe) :=
  PS.imp (ps_dput hu hv hj he hs) fun E σ H q => by
    obtain ⟨Z, ρ, st, L, S, q⟩ := q
    refine ⟨Z, ρ, st, L, S, PostR.bindS S q fun d st1 v H1 L1 ed f1 S1 r1 q1 => ?_⟩
    have q1 : PostS G Z W L1 st1 H1 (match dicAt i ρ st1 with
      | none => .stuck
      | some _ => sOf fj (fun k ρ st => putKAt (dicAt i ρ st) k d ρ st) ρ st1) E := q1
    cases e0 : dicAt i ρ st1 with
    | none => rw [e0] at q1; exact q1.elim
    | some pr =>
      rw [e0] at q1
      obtain ⟨n0, ds0⟩ := pr
      obtain ⟨a, kvs0, ev, _⟩ := dicAt_some S1 e0
      refine ⟨.ref a, ev, Z, ρ, st1, L1, S1, PostR.bindS S1 q1 fun j st2 y H2 L2 ej' f2 S2 r2 q2 => ?_⟩
      have q2 : PostS G Z W L2 st2 H2 (putKAt (dicAt i ρ st2) j d ρ st2) E := q2
      unfold putKAt at q2
      split at q2
      · rename_i pr e2
        obtain ⟨n, ds⟩ := pr
        obtain ⟨b, kvs, ev2, g1, g2, k1, k2⟩ := dicAt_some S2 e2
        rw [ev] at ev2
        cases ev2
        split at q2
        · rename_i κ hk
          split at q2
          · rename_i hlt
            have hlen := k2.length
            refine ⟨a, upd H2 a (.dK (putK kvs κ v)), rfl, .inl ⟨kvs, κ, k1, rep_kOf r2 hk, by rw [← hlen]; exact hlt, rfl⟩, ?_⟩
            have rd := r1.mono f2.keeps
            have kw := keeps_wr (Z := Z) (H := H2) (o' := .dic (putD ds j d)) (ho := .dK (putK kvs κ v)) g1 g2 rfl
            obtain ⟨fw, ok⟩ := wr (o' := .dic (putD ds j d)) (ho := .dK (putK kvs κ v)) S2.ok g1 g2 rfl ⟨_, upd_same, RepK.put (k2.mono kw) hk (rd.mono kw)⟩ rfl
            exact q2 σ _ L2 fw (S2.to fw ok)
          · exact q2.elim
        · exact q2.elim
      · exact q2.elim
theorem ms_putT {x : Str} {i : Nat} {ej : Expr} {fj fe : Den} (hu : X.A.units + 1 < cLine) (hv : PE X (.Name x p) (tVar i)) (hj : MKt G W X ej fj) (he : ME G W X e fe)
    (hs : swapsWith e (some (.Subscript (.Name x p) ej spos)) pos.line X.env = pure false := by rfl) : MS G W X (.Assign [.Subscript (.Name x p) ej spos] e pos) (sPutT i fj fe) :=
  PS.imp (ps_dput hu hv hj he hs) fun E σ H q => by
    obtain ⟨Z, ρ, st, L, S, q⟩ := q
    refine ⟨Z, ρ, st, L, S, PostR.bindS S q fun d st1 v H1 L1 ed f1 S1 r1 q1 => ?_⟩
    have q1 : PostS G Z W L1 st1 H1 (match diTAt i ρ st1 with
      | none => .stuck
      | some _ => sOf fj (fun k ρ st => putTAt (diTAt i ρ st) k d ρ st) ρ st1) E := q1
    cases e0 : diTAt i ρ st1 with
    | none => rw [e0] at q1; exact q1.elim
    | some pr =>
      rw [e0] at q1
      obtain ⟨n0, ds0⟩ := pr
      obtain ⟨a, kvs0, ev, _⟩ := diTAt_some S1 e0
      refine ⟨.ref a, ev, Z, ρ, st1, L1, S1, PostR.bindS S1 q1 fun j st2 y H2 L2 ej' f2 S2 r2 q2 => ?_⟩
      have q2 : PostS G Z W L2 st2 H2 (putTAt (diTAt i ρ st2) j d ρ st2) E := q2
      unfold putTAt at q2
      split at q2
      · rename_i pr e2
        obtain ⟨n, ds⟩ := pr
        obtain ⟨b, kvs, ev2, g1, g2, k1, k2⟩ := diTAt_some S2 e2
        rw [ev] at ev2
        cases ev2
        split at q2
        · rename_i hlt
          have hlen := k2.length
          obtain ⟨es, c, ks, rfl, rfl, hc, zc, re⟩ := r2
          refine ⟨a, upd H2 a (.dT (putK kvs ks v)), rfl, .inr ⟨kvs, ks, c, k1, rfl, hc, by rw [← hlen]; exact hlt, rfl⟩, ?_⟩
          have rd := r1.mono f2.keeps
          have kw := keeps_wr (Z := Z) (H := H2) (o' := .diT (putD ds (.tup es) d)) (ho := .dT (putK kvs ks v)) g1 g2 rfl
          obtain ⟨fw, ok⟩ := wr (o' := .diT (putD ds (.tup es) d)) (ho := .dT (putK kvs ks v)) S2.ok g1 g2 rfl ⟨_, upd_same, RepT.put (k2.mono kw) (re.mono kw) (rd.mono kw)⟩ rfl
          exact q2 σ _ L2 fw (S2.to fw ok)
        · exact q2.elim
      · exact q2.elim
theorem mn_dicK : MN G W X (.Dict [] [] pos) nDicK := PE.imp pe_dnewK fun σ H Q q => by
  obtain ⟨Z, ρ, st, L, S, q⟩ := q
  exact fun p hp => q p _ L (FwN.mk_new Fw.refl S.ok hp) ⟨[], upd_same, .nil⟩
theorem mn_dicT : MN G W X (.Dict [] [] pos) nDicT := PE.imp pe_dnewT fun σ H Q q => by
  obtain ⟨Z, ρ, st, L, S, q⟩ := q
  exact fun p hp => q p _ L (FwN.mk_new Fw.refl S.ok hp) ⟨[], upd_same, .nil⟩
/-! ### d.get(k, x) -/
@[simp] def eGet2 (fo fk fx : Den) : Den := fun ρ st => (fo ρ st).bind fun d st => match d with
  | .dic kvs => (fk ρ st).bind fun k st => (fx ρ st).bind fun x st => (match kOf k with | some _ => .ok ((lookD kvs k).getD x) st | none => .stuck)
  | _ => .stuck
theorem Rep.dic {ds : List (D × D)} {v : V} (h : Rep G Z H (.dic ds) v) : ∃ a kvs, v = .ref a ∧ Rd H a (.dK kvs) ∧ ¬ Z a ∧ RepK G Z H ds kvs := by
  cases h with
  | dK r z h => exact ⟨_, _, rfl, r, z, h⟩
theorem Rep.diT {ds : List (D × D)} {v : V} (h : Rep G Z H (.diT ds) v) : ∃ a kvs, v = .ref a ∧ Rd H a (.dT kvs) ∧ ¬ Z a ∧ RepT G Z H ds kvs := by
  cases h with
  | dT r z h => exact ⟨_, _, rfl, r, z, h⟩
theorem me_get2 {o a b : Expr} {fo fk fx : Den} {apos cpos : Pos} (hu : X.A.units + 1 < cLine) (ho : ME G W X o fo) (ha : ME G W X a fk) (hb : ME G W X b fx)
    (m : M2 X o "get" apos a b cpos := by exact ⟨by rfl, by rfl, by rfl, by rfl⟩) : ME G W X (.Call (.Attribute o "get" apos) [a, b] [] cpos) (eGet2 fo fk fx) :=
  PE.imp (pe_dget2 hu ho ha hb m) fun σ H Q q => by
    obtain ⟨Z, ρ, st, L, S, q⟩ := q
    refine ⟨Z, ρ, st, L, S, PostR.bind q fun d st1 v H1 L1 ed f1 o1 r1 q1 => ?_⟩
    split at q1
    · rename_i kvs
      obtain ⟨a, vs, rfl, hd, za, rk⟩ := r1.dic
      refine ⟨a, rfl, .inl ⟨vs, hd⟩, Z, ρ, st1, L1, S.to f1 o1, PostR.bind q1 fun k st2 y H2 L2 ek f2 o2 r2 q2 => ?_⟩
      refine ⟨Z, ρ, st2, L2, (S.to f1 o1).to f2 o2, PostR.bind q2 fun x st3 z H3 L3 ex f3 o3 r3 q3 => ?_⟩
      split at q3
      · rename_i κ hk
        have r1' := (r1.mono f2.keeps).mono f3.keeps
        obtain ⟨a', vs', ea, hd', za', rk'⟩ := r1'.dic
        cases ea
        refine ⟨valV vs' κ, .inl ⟨vs', κ, hd', rep_kOf r2 hk, rfl⟩, ?_⟩
        exact q3 _ H3 L3 Fw.refl o3 ((rk'.look hk).getD r3)
      · exact q3.elim
    · exact q1.elim
/-! ### walking a dict: it is locked for good -/
theorem lockD (S : StOk G Z L st H) {d : Addr} {u : HO} {od : Obj} (hd : H d = some u) (hu : (∃ k, u = .dK k) ∨ ∃ k, u = .dT k) (z : ¬ Zof Z L st d) : Fw Z L st H L st (upd H d (.frz od u)) ∧ StOk G Z L st (upd H d (.frz od u)) := by
  have fw : Fw Z L st H L st (upd H d (.frz od u)) := by
    refine ⟨⟨[], by simp, by simp⟩, fun a o e nl => ?_, fun a h => ?_, fun a o za e => ?_, fun n o' _ e l => ⟨o', e, l⟩⟩
    · by_cases q : a = d
      · subst q
        rw [hd] at e
        cases e
        refine ⟨_, upd_same, ?_⟩
        rcases hu with ⟨k, rfl⟩ | ⟨k, rfl⟩
        · exact .inr (.inl ⟨od, k, rfl, rfl⟩)
        · exact .inr (.inr (.inl ⟨od, k, rfl, rfl⟩))
      · exact .of (by rw [upd_ne q]; exact e)
    · by_cases q : a = d
      · rw [q, upd_same]; simp
      · rw [upd_ne q]; exact h
    · have q : a ≠ d := fun q => z (.inl (q ▸ za))
      rw [upd_ne q]; exact e
  have ne : ∀ {a : Addr} {o : HO}, H a = some o → (∀ k, o ≠ .dK k) → (∀ k, o ≠ .dT k) → a ≠ d := fun {a o} h h1 h2 q => by
    rw [q, hd] at h
    cases h
    rcases hu with ⟨k, e⟩ | ⟨k, e⟩
    · exact h1 k e
    · exact h2 k e
  refine ⟨fw, S.len, S.nd, fun n a o e1 e2 => OOk.zk (fun b hb => upd_ne fun q => z (.inr (q ▸ hb))) fw (fun l => ⟨n, o, e1, e2, l⟩) (S.obj n a o e1 e2), fun a za => fw.there a (S.z0 a za), S.zl, fun a m => fw.there a (S.lh a m), fun p hp => ?_, nt_zk S.z0 S.nt fun a o za e => fw.zk a o za e⟩
  obtain ⟨h0, ps, h1, h2, h3⟩ := S.tb p hp
  refine ⟨h0, ps, by rw [upd_ne (ne h1 (fun _ => nofun) (fun _ => nofun))]; exact h1, h2, fun pos cv hc => ?_⟩
  obtain ⟨c, g1, g2, g3⟩ := h3 pos cv hc
  exact ⟨c, g1, by rw [upd_ne (ne g2 (fun _ => by unfold LamX.CodeO; nofun) (fun _ => by unfold LamX.CodeO; nofun))]; exact g2, g3⟩
@[simp] def iKeysD (f : Den) : DenL := fun ρ st => (f ρ st).bind fun d st => match d with
  | .dic kvs => .ok (kvs.map (·.1)) st | .diT kvs => .ok (kvs.map (·.1)) st | _ => .stuck
@[simp] def iValsD (f : Den) : DenL := fun ρ st => (f ρ st).bind fun d st => match d with
  | .dic kvs => .ok (kvs.map (·.2)) st | _ => .stuck
theorem rep_ofK {d : D} {k : Key} (h : kOf d = some k) : Rep G Z H d (kV k) := by
  cases d with
  | int i => cases h; exact .int i
  | str x => cases h; exact .str x
  | _ => cases h
theorem RepK.get : ∀ {ds : List (D × D)} {vs : List (Key × V)} {i : Nat} {p : D × D}, RepK G Z H ds vs → ds[i]? = some p → ∃ q, vs[i]? = some q ∧ kOf p.1 = some q.1 ∧ Rep G Z H p.2 q.2
  | [], [], _, _, _, e => by simp at e
  | [], _ :: _, _, _, h, _ => by cases h
  | _ :: _, [], _, _, h, _ => by cases h
  | p :: ds, q :: vs, 0, p', h, e => by
    obtain ⟨h1, h2, _⟩ := h.cons'
    simp at e; subst e
    exact ⟨q, rfl, h1, h2⟩
  | p :: ds, q :: vs, i + 1, p', h, e => by
    obtain ⟨_, _, h3⟩ := h.cons'
    obtain ⟨q', e1, e2⟩ := RepK.get (i := i) h3 (by simpa using e)
    exact ⟨q', by simpa using e1, e2⟩
theorem RepT.get : ∀ {ds : List (D × D)} {vs : List (List Key × V)} {i : Nat} {p : D × D}, RepT G Z H ds vs → ds[i]? = some p → ∃ q, vs[i]? = some q ∧ (∃ es, p.1 = .tup es ∧ Reps G Z H es (q.1.map kV)) ∧ Rep G Z H p.2 q.2
  | [], [], _, _, _, e => by simp at e
  | [], _ :: _, _, _, h, _ => by cases h
  | _ :: _, [], _, _, h, _ => by cases h
  | p :: ds, q :: vs, 0, p', h, e => by
    obtain ⟨h1, h2, _⟩ := h.cons'
    simp at e; subst e
    exact ⟨q, rfl, h1, h2⟩
  | p :: ds, q :: vs, i + 1, p', h, e => by
    obtain ⟨_, _, h3⟩ := h.cons'
    obtain ⟨q', e1, e2⟩ := RepT.get (i := i) h3 (by simpa using e)
    exact ⟨q', by simpa using e1, e2⟩
theorem yieldsK {ds : List (D × D)} {kvs : List (Key × V)} {d : Addr} {od : Obj} (rk : RepK G (Zof Z L st) H ds kvs) (hd : H d = some (.frz od (.dK kvs))) (z : ¬ Zof Z L st d) : Yields G Z (Itk d od kvs) (ds.map (·.1)) L st H := fun i Z' L' st' H' hz f o => by
  have hl := rk.length
  have hd' : H' d = some (.frz od (.dK kvs)) := (f.keepsZ hz d _ hd z).1.frz
  refine ⟨fun hi => ⟨hd', by rw [List.length_map] at hi; omega⟩, fun x hx => ?_⟩
  rw [List.getElem?_map] at hx
  obtain ⟨p, hp, rfl⟩ := Option.map_eq_some_iff.mp hx
  obtain ⟨q, hq, h1, h2⟩ := rk.get hp
  refine ⟨⟨hd', (List.getElem?_eq_some_iff.mp hq).1⟩, fun y H2 hy => ?_⟩
  obtain ⟨rfl, k, v, hkv, rfl⟩ := hy
  rw [hq] at hkv
  cases hkv
  exact ⟨Same.refl _, rep_ofK h1⟩
theorem yieldsV {ds : List (D × D)} {kvs : List (Key × V)} {d : Addr} {od : Obj} (rk : RepK G (Zof Z L st) H ds kvs) (hd : H d = some (.frz od (.dK kvs))) (z : ¬ Zof Z L st d) : Yields G Z (Itd d od kvs) (ds.map (·.2)) L st H := fun i Z' L' st' H' hz f o => by
  have hl := rk.length
  have hd' : H' d = some (.frz od (.dK kvs)) := (f.keepsZ hz d _ hd z).1.frz
  refine ⟨fun hi => ⟨hd', by rw [List.length_map] at hi; omega⟩, fun x hx => ?_⟩
  rw [List.getElem?_map] at hx
  obtain ⟨p, hp, rfl⟩ := Option.map_eq_some_iff.mp hx
  obtain ⟨q, hq, h1, h2⟩ := rk.get hp
  refine ⟨⟨hd', (List.getElem?_eq_some_iff.mp hq).1⟩, fun y H2 hy => ?_⟩
  obtain ⟨rfl, k, hkv⟩ := hy
  rw [hq] at hkv
  cases hkv
  exact ⟨Same.refl _, h2.mono (f.keepsZ hz)⟩
theorem yieldsT {ds : List (D × D)} {kvs : List (List Key × V)} {d : Addr} {od : Obj} (rk : RepT G (Zof Z L st) H ds kvs) (hd : H d = some (.frz od (.dT kvs))) (z : ¬ Zof Z L st d) : Yields G Z (Itkt d od kvs) (ds.map (·.1)) L st H := fun i Z' L' st' H' hz f o => by
  have hl := rk.length
  have hd' : H' d = some (.frz od (.dT kvs)) := (f.keepsZ hz d _ hd z).1.frz
  refine ⟨fun hi => ⟨hd', by rw [List.length_map] at hi; omega⟩, fun x hx => ?_⟩
  rw [List.getElem?_map] at hx
  obtain ⟨p, hp, rfl⟩ := Option.map_eq_some_iff.mp hx
  obtain ⟨q, hq, ⟨es, e1, h1⟩, h2⟩ := rk.get hp
  refine ⟨⟨hd', (List.getElem?_eq_some_iff.mp hq).1⟩, fun y H2 hy => ?_⟩
  obtain ⟨rfl, k, v, c, hkv, rfl, hc⟩ := hy
  rw [hq] at hkv
  cases hkv
  refine ⟨Same.refl _, ?_⟩
  rw [e1]
  exact .tup (.inl hc) (fun zc => o.ntz zc _ hc) (h1.mono (f.keepsZ hz))
/-- a dict as data, locked -/
theorem lockRd {pins : List (Addr × Obj)} {σ : St} {s : Shared} {d : Addr} {u : HO} (I : Inv X pins σ H s) (S : StOk G Z L st H) (hd : Rd H d u) (hu : (∃ k, u = .dK k) ∨ ∃ k, u = .dT k) (z : ¬ Zof Z L st d) :
    ∃ od H', Inv X pins σ H' s ∧ H' d = some (.frz od u) ∧ Fw Z L st H L st H' ∧ StOk G Z L st H' := by
  rcases hd with hd | ⟨od, hd⟩
  · have mu : Mut (some u) := by rcases hu with ⟨k, rfl⟩ | ⟨k, rfl⟩ <;> trivial
    obtain ⟨od, I1⟩ := I.lock hd mu
    obtain ⟨f, o⟩ := lockD (od := od) S hd hu z
    exact ⟨od, _, I1, upd_same, f, o⟩
  · exact ⟨od, H, I, hd, Fw.refl, S⟩
theorem mi_keysD {tg : Expr} {f : Den} (he : ME G W X e f) : MI G W X tg e (iKeysD f) := by
  refine ⟨fun pins s σ H R I h => ?_⟩
  obtain ⟨Z, ρ, st, L, S, q⟩ := h
  refine thn (he.run pins s σ H (fun v H1 => ∃ d st1 L1, Fw Z L st H L1 st1 H1 ∧ StOk G Z L1 st1 H1 ∧ Rep G (Zof Z L1 st1) H1 d v ∧ PostI G Z W σ L1 st1 H1 (match d with | .dic kvs => .ok (kvs.map (·.1)) st1 | .diT kvs => .ok (kvs.map (·.1)) st1 | _ => .stuck) R) I
    ⟨Z, ρ, st, L, S, PostI.bind q fun d st1 v H1 L1 ed f1 o1 r1 q1 => ⟨d, st1, L1, f1, o1, r1, q1⟩⟩) fun u s1 ⟨x, H1, I1, rx, d, st1, L1, f1, o1, r1, q1⟩ => ?_
  cases d with
  | dic ds =>
    obtain ⟨a, kvs, rfl, hd, za, rk⟩ := r1.dic
    obtain rfl : u = Value.ref a := rx
    obtain ⟨od, H2, I2, hd2, f2, o2⟩ := lockRd I1 o1 hd (.inl ⟨_, rfl⟩) za
    have q2 : R (Itk a od kvs) H2 := q1 _ H2 L1 f2 o2 (yieldsK (rk.mono f2.keeps) hd2 (fun z => za (zof_mono (fun _ z => z) _ z)))
    obtain ⟨hs, hgd, hx, es, ep, vs, hdt, hsz, kv, hm⟩ := I2.frzK hd2
    refine iter_keys hs hgd hx hdt (pi_one (tk := s1.toks) I2 _ (turn_keys _ hdt) ⟨_, Heap.get?_push_size _ rfl, rfl, ?_⟩ q2)
    rw [hsz] <;> rfl
  | diT ds =>
    obtain ⟨a, kvs, rfl, hd, za, rk⟩ := r1.diT
    obtain rfl : u = Value.ref a := rx
    obtain ⟨od, H2, I2, hd2, f2, o2⟩ := lockRd I1 o1 hd (.inr ⟨_, rfl⟩) za
    have q2 : R (Itkt a od kvs) H2 := q1 _ H2 L1 f2 o2 (yieldsT (rk.mono f2.keeps) hd2 (fun z => za (zof_mono (fun _ z => z) _ z)))
    obtain ⟨hs, hgd, hx, es, ep, hdt, hsz, ent⟩ := I2.frzT hd2
    refine iter_keys hs hgd hx hdt (pi_one (tk := s1.toks) I2 _ (turn_keysT _ hdt) ⟨_, Heap.get?_push_size _ rfl, rfl, ?_⟩ q2)
    rw [hsz] <;> rfl
  | _ => exact q1.elim
theorem mi_valsD {tg : Expr} {f : Den} {apos cpos : Pos} (he : ME G W X e f) (hbase : attributeBase e "values" X.env (eval e X.env) = eval e X.env := by rfl) (hline : (apos.endLine == cpos.line) = true := by rfl) :
    MI G W X tg (.Call (.Attribute e "values" apos) [] [] cpos) (iValsD f) := by
  refine ⟨fun pins s σ H R I h => ?_⟩
  obtain ⟨Z, ρ, st, L, S, q⟩ := h
  refine wpAny_Call_method (T := "dict") (id := "dict.values") hbase rfl hline F.plainAttrs_dict F.slot_dict_values F.type_dict_values (thn (he.run pins s σ H (fun v H1 => ∃ d st1 L1, Fw Z L st H L1 st1 H1 ∧ StOk G Z L1 st1 H1 ∧ Rep G (Zof Z L1 st1) H1 d v ∧ PostI G Z W σ L1 st1 H1 (match d with | .dic kvs => .ok (kvs.map (·.2)) st1 | _ => .stuck) R) I
    ⟨Z, ρ, st, L, S, PostI.bind q fun d st1 v H1 L1 ed f1 o1 r1 q1 => ⟨d, st1, L1, f1, o1, r1, q1⟩⟩) fun u s1 ⟨x, H1, I1', rx, d, st1, L1, f1, o1, r1, q1⟩ => ?_)
  cases d with
  | dic ds =>
    obtain ⟨a, kvs, rfl, hd, za, rk⟩ := r1.dic
    obtain rfl : u = Value.ref a := rx
    obtain ⟨od, H2, I1, hd2, f2, o2⟩ := lockRd I1' o1 hd (.inl ⟨_, rfl⟩) za
    have q2 : R (Itd a od kvs) H2 := q1 _ H2 L1 f2 o2 (yieldsV (rk.mono f2.keeps) hd2 (fun z => za (zof_mono (fun _ z => z) _ z)))
    obtain ⟨hs, hgd, hx, es, ep, vs, hdt, hsz, kv, hm⟩ := I1.frzK hd2
    have hl : kvs.length = vs.length := Paired.length kv
    refine ⟨hm.dictOf.typeIs, hm.dictOf.mapOf.noDict, ?_⟩
    have I2 : Inv X pins σ H2 { s1 with heap := s1.heap.push { cls := .type "dict_values", data := .fields #[.ref a] } } := I1.kept (t' := s1.toks) fun b ob q => Heap.get?_push_of_some _ q
    have fin : wpAny (model X.prog X.w) X.A (pyIter (.ref s1.heap.objs.size)) (PIE X pins σ tg R) X.xe { s1 with heap := s1.heap.push { cls := .type "dict_values", data := .fields #[.ref a] } } := by
      refine wpAny_pyIter_values (d := a) (knd := mixKind X.prog X.w) ⟨_, Heap.get?_push_size _ rfl, rfl, rfl⟩ (hm.push _) (pi_one (tk := s1.toks) I2 _ (turn_vals _ hdt) ⟨_, Heap.get?_push_size _ rfl, rfl, ?_⟩ q2)
      rw [hl] <;> rfl
    show wpAny _ _ (callWith cpos (.builtin "dict.values") [.ref a] [] []) _ X.xe s1
    exact method_meetsIn F.slot_dict_values F.entry_dict_values rfl (PySem.evalArgs_none ⟨rfl, hm.dictOf.typeIs, F.args_dict_values_1 _, _, meets_dict_values (mixKind X.prog X.w) a hs, ⟨vs, hm.dictOf⟩, fin⟩)
  | _ => exact q1.elim
/-! ### sorted of a dict with int keys -/
def intKeys : List (D × D) → Option (List Int)
  | [] => some []
  | p :: r => match p.1 with | .int i => (intKeys r).map fun l => i :: l | _ => none
def dSortedK : D → Option D
  | .dic kvs => (match intKeys kvs with | some l => if l.length < 64 then some (.lst ((sortI l).map .int)) else none | none => none)
  | _ => none
theorem intKeys_rep : ∀ {ds : List (D × D)} {vs : List (Key × V)} {l : List Int}, RepK G Z H ds vs → intKeys ds = some l → vs.map (·.1) = l.map Sum.inl
  | [], [], _, _, h => by cases h; rfl
  | [], _ :: _, _, h, _ => by cases h
  | _ :: _, [], _, h, _ => by cases h
  | p :: ds, q :: vs, l, h, e => by
    obtain ⟨h1, _, h3⟩ := h.cons'
    unfold intKeys at e
    split at e
    · rename_i i hi
      obtain ⟨l', e1, rfl⟩ := Option.map_eq_some_iff.mp e
      rw [hi] at h1
      have : q.1 = .inl i := (Option.some.inj h1).symm
      rw [List.map_cons, List.map_cons, this, intKeys_rep h3 e1]
    · cases e
theorem sim_sortedK : Sim1 G dSortedK (fun x H Q => ∃ (a : Addr) (kvs : List (Key × V)) (ks : List Int), [x] = [.ref a] ∧ Rd H a (.dK kvs) ∧ kvs.map (·.1) = ks.map Sum.inl ∧ ks.length < 64 ∧
    ∀ (ys : List Int) (p : Addr), ys.Perm ks → ys.Pairwise (· ≤ ·) → H p = none → Q (.ref p) (upd H p (.lst (ys.map V.int)))) := fun Z H d x z Q i rx h q => by
  unfold dSortedK at h
  split at h
  · split at h
    · rename_i l hl
      split at h
      · rename_i h64
        cases h
        obtain ⟨a, kvs, rfl, hd, rk⟩ := rx.dic
        refine ⟨a, kvs, l, rfl, hd, intKeys_rep rk hl, h64, fun ys p hp hs hn => ?_⟩
        rw [sorted_uniq (hp.trans (sortI_perm l).symm) hs (sortI_sorted l)]
        exact q _ _ (same_new hn) (new_lst i (reps_ints _) hn)
      · cases h
    · cases h
  · cases h
end
end M
namespace M
open PySem PySem.Spec L2
/-! ### sorted: any alike data -/
def leD (a b : D) : Bool := !PySem.W.dataLt b.py a.py
def tupNE : D → Bool | .tup (_ :: _) => true | _ => false
def atomB : D → Bool | .tup _ => false | .non => false | _ => true
def sortOk (ds : List D) : Bool := D.flats 59 ds && (ds.all fun a => ds.all fun b => PySem.W.alike a.py b.py) && (ds.all tupNE || ds.all atomB)
noncomputable def dSortG : D → Option D
  | .lst ds => if sortOk ds = true then (if ds.length ≤ sizeLine then some (.lst (ds.mergeSort leD)) else none) else none
  | _ => none
def rSortedG (K : PySem.W.Frag) : List V → Hp → VK → Prop := fun vs H Q => ∃ (a : Addr) (xs : List V) (ds : List D), vs = [V.ref a] ∧ SqL K H a xs ∧ DpAll K H xs (D.pys ds) ∧ sortOk ds = true ∧ ds.length ≤ sizeLine ∧
  ∀ p, H p = none → Q (.ref p) (upd H p (.lst (((ds.zip xs).mergeSort fun x y => leD x.1 y.1).map (·.2))))
theorem pys_map : ∀ ds : List D, D.pys ds = ds.map D.py
  | [] => rfl
  | d :: ds => by unfold D.pys; rw [pys_map ds]; rfl
theorem dpAll_len {K : PySem.W.Frag} {H : Hp} : ∀ {xs : List V} {ds : List PyData}, DpAll K H xs ds → xs.length = ds.length
  | _, _, .nil => rfl
  | _, _, .cons _ t => congrArg (· + 1) (dpAll_len t)
theorem dp_get {K : PySem.W.Frag} {H : Hp} : ∀ {xs : List V} {ds : List D}, DpAll K H xs (D.pys ds) → ∀ p ∈ ds.zip xs, Dp K H p.2 p.1.py
  | [], _, _, p, hp => by simp at hp
  | _ :: _, [], _, p, hp => by simp at hp
  | x :: xs, d :: ds, h, p, hp => by
    unfold D.pys at h
    cases h with
    | cons h t =>
      rw [List.zip_cons_cons, List.mem_cons] at hp
      rcases hp with rfl | hp
      · exact h
      · exact dp_get t p hp
theorem vals_each : ∀ {xs : List V} {vs : List Value} {ds : List D}, Vals xs vs → ds.length = xs.length → PySem.W.EachIs (fun (v : Value) (b : D × V) => RelV b.2 v) vs (ds.zip xs)
  | [], _, [], .nil, _ => .nil
  | [], _, _ :: _, _, h => by simp at h
  | _ :: _, _, [], _, h => by simp at h
  | x :: xs, _, d :: ds, .cons h t, hl => .cons h (vals_each t (by simpa using hl))
theorem each_vals : ∀ {vs : List Value} {bs : List (D × V)}, PySem.W.EachIs (fun (v : Value) (b : D × V) => RelV b.2 v) vs bs → Vals (bs.map (·.2)) vs
  | _, _, .nil => .nil
  | _, _, .cons h t => .cons h (each_vals t)
theorem each_reads {X : Cx} {pins : List (Addr × Obj)} {σ : St} {H : Hp} {s : Shared} (I : Inv X pins σ H s) : ∀ {vs : List Value} {bs : List (D × V)}, PySem.W.EachIs (fun (v : Value) (b : D × V) => RelV b.2 v) vs bs → (∀ b ∈ bs, Dp X.K H b.2 b.1.py) → PySem.W.EachIs (fun v b => ∃ as, PySem.Reads s.heap v b.1.py as) vs bs
  | _, _, .nil, _ => .nil
  | _, _, .cons h t, hd => .cons (Dp.reads I _ _ _ (hd _ List.mem_cons_self) h) (each_reads I t fun b hb => hd b (List.mem_cons_of_mem _ hb))
theorem depth_le {d : D} (h : D.flat 59 d = true) : d.py.depth ≤ 64 := by
  have h2 : D.flat 60 (.lst [d]) = true := by
    rw [show D.flat 60 (.lst [d]) = D.flats 59 [d] from rfl]
    show (D.flat 59 d && D.flats 59 []) = true
    rw [h]
    unfold D.flats
    rfl
  have h3 := SeqAt.depth_of_shaped (py_shaped h2)
  have h4 : D.py (.lst [d]) = .list [d.py] := by rw [D.py, pys_map]; rfl
  rw [h4] at h3
  simp only [PyData.depth, PyData.depthAll] at h3
  omega
section
variable {X : Cx}
theorem cr_sortedG (hu : X.A.units + 67 < cLine) : CallR X (.builtin "sorted") (rSortedG X.K) := by
  intro pins s σ H vs us Q I r h
  obtain ⟨a, xs, ds, rfl, hs, hd, ho, hz, q⟩ := h
  obtain ⟨its, rv, hl, hz2⟩ := I.list hs
  rw [Vals.ref1 r]
  unfold sortOk at ho
  simp only [Bool.and_eq_true] at ho
  obtain ⟨⟨h1, h2⟩, h3⟩ := ho
  have hlen : ds.length = xs.length := by
    have := dpAll_len hd
    rw [pys_map, List.length_map] at this
    exact this.symm
  have hmap : (ds.zip xs).map (fun b : D × V => b.1.py) = ds.map D.py := by
    rw [show (fun b : D × V => b.1.py) = D.py ∘ Prod.fst from rfl, ← List.map_map, List.map_fst_zip (by omega)]
  have e := vals_each (ds := ds) rv hlen
  have hal : PySem.W.AllAlike ((ds.zip xs).map fun b : D × V => b.1.py) := by
    rw [hmap]
    intro d hd d' hd'
    obtain ⟨x, hx, rfl⟩ := List.mem_map.mp hd
    obtain ⟨y, hy, rfl⟩ := List.mem_map.mp hd'
    exact List.all_eq_true.mp (List.all_eq_true.mp h2 x hx) y hy
  have hk : PySem.W.Sortable ((ds.zip xs).map fun b : D × V => b.1.py) := by
    rw [hmap]
    rw [Bool.or_eq_true] at h3
    rcases h3 with h3 | h3
    · left
      intro d hd
      obtain ⟨x, hx, rfl⟩ := List.mem_map.mp hd
      have := List.all_eq_true.mp h3 x hx
      unfold tupNE at this
      split at this
      · exact ⟨_, _, by unfold D.py D.pys; rfl⟩
      · cases this
    · right
      intro d hd
      obtain ⟨x, hx, rfl⟩ := List.mem_map.mp hd
      have hb := List.all_eq_true.mp h3 x hx
      have hf : D.flat 59 x = true := by
        have : D.flats 59 ds = ds.all (D.flat 59) := flats_all
        rw [this] at h1
        exact List.all_eq_true.mp h1 x hx
      cases x with
      | non => cases hb
      | tup l => cases hb
      | bl b => unfold D.py; exact ⟨nofun, fun _ => nofun⟩
      | int i => unfold D.py; exact ⟨nofun, fun _ => nofun⟩
      | str i => unfold D.py; exact ⟨nofun, fun _ => nofun⟩
      | lst l => unfold D.py; exact ⟨nofun, fun _ => nofun⟩
      | _ => simp [D.flat] at hf
  refine PySem.W.sorted_data (R := fun (v : Value) (b : D × V) => RelV b.2 v) (enc := fun b : D × V => b.1.py) hl.isList e (each_reads I e (dp_get hd)) hal hk (by rw [List.length_zip, hlen, Nat.min_self, ← hlen]; exact hz) (fun b hb => ?_) fun out hol ho => ?_
  · have hf : D.flat 59 b.1 = true := by
      have : D.flats 59 ds = ds.all (D.flat 59) := flats_all
      rw [this] at h1
      exact List.all_eq_true.mp h1 _ (List.of_mem_zip hb).1
    have := depth_le hf
    omega
  · obtain ⟨ep, he'⟩ := PyProof.Rows.sortedAll_at s.heap its out.toArray
    have hv := each_vals ho
    have hlen2 : (((ds.zip xs).mergeSort fun x y => leD x.1 y.1).map (·.2)).length ≤ sizeLine := by
      rw [List.length_map, (List.mergeSort_perm _ _).length_eq, List.length_zip, hlen, Nat.min_self, ← hlen]
      exact hz
    exact ⟨.ref _, upd H (s.heap.objs.size + 1) (.lst (((ds.zip xs).mergeSort fun x y => leD x.1 y.1).map (·.2))), I.laid (t' := s.toks) (fun _ _ => PyProof.Rows.sortedAll_old) (Nat.le_succ _) ⟨hlen2, out, ep, hv, he'⟩, rfl, q _ (I.hok.fresh (Nat.le_succ _))⟩
end
section
variable {G : Wd} {X : Cx} {Z : Zone} {H : Hp}
theorem reps_zip : ∀ {ds : List D} {vs : List V}, Reps G Z H ds vs → ∀ p ∈ ds.zip vs, Rep G Z H p.1 p.2
  | _, _, .nil, p, hp => by simp at hp
  | _, _, .cons r t, p, hp => by
    rw [List.zip_cons_cons, List.mem_cons] at hp
    rcases hp with rfl | hp
    · exact r
    · exact reps_zip t p hp
theorem reps_of_zip : ∀ {bs : List (D × V)}, (∀ p ∈ bs, Rep G Z H p.1 p.2) → Reps G Z H (bs.map (·.1)) (bs.map (·.2))
  | [], _ => .nil
  | b :: bs, h => .cons (h b List.mem_cons_self) (reps_of_zip fun p hp => h p (List.mem_cons_of_mem _ hp))
theorem sim_sortedG (hK : G.K = X.K) : Sim1 G dSortG (fun x H Q => rSortedG X.K [x] H Q) := fun Z H d x z Q i rx h q => by
  unfold dSortG at h
  split at h
  · rename_i ds
    split at h
    · rename_i ho
      split at h
      · rename_i hz
        cases h
        obtain ⟨a, vs, rfl, ha, ra⟩ := rx.list
        have hf : D.flats 59 ds = true := by
          have ho' := ho
          unfold sortOk at ho'
          simp only [Bool.and_eq_true] at ho'
          exact ho'.1.1
        refine ⟨a, vs, ds, rfl, .inl ha, hK ▸ ra.dp hf, ho, hz, fun p hp => ?_⟩
        refine q _ _ (same_new hp) (new_lst i ?_ hp)
        have e : (((ds.zip vs).mergeSort fun x y => leD x.1 y.1).map (·.1)) = ds.mergeSort leD := by
          rw [List.map_mergeSort (s := leD) fun a _ b _ => rfl, List.map_fst_zip (by rw [ra.length]; exact Nat.le_refl _)]
        rw [← e]
        exact reps_of_zip fun p hp => reps_zip ra p ((List.mergeSort_perm _ _).mem_iff.mp hp)
      · cases h
    · cases h
  · cases h
end
end M
namespace M
open PySem PySem.Spec L2 PyProof.Rows
/-! ### sets of one kind, made by a comprehension -/
def insK {κ : Type} [DecidableEq κ] (l : List κ) (k : κ) : List κ := if k ∈ l then l else k :: l
abbrev emptySet (w : World) : Obj := { cls := .type "set", dict := none, data := .set #[] 0 (.fresh 0 0 (!w.params.followText "set-order")) }
/-- a kind of set: what stands at its address, what adding does -/
structure SetI (P : Program) (w : World) where
  κ : Type
  dec : DecidableEq κ
  enc : κ → V
  obj : Addr → List κ → HO
  mutO : ∀ D l, Mut (some (obj D l))
  ext : ∀ D l xs, obj D l ≠ .tup xs
  fresh : ∀ (H : Hp) (h : Heap), ObjOk P w H (h.push (emptySet w)) h.objs.size (obj h.objs.size [])
  add : ∀ {X : Cx} {pins : List (Addr × Obj)} {σ : L2.St} {H : Hp} {s : Shared} {E : Value → Shared → Prop} {D : Addr} {l : List κ} {k : κ} {u : Value} {Q : Value → Shared → Prop}, X.prog = P → X.w = w → Inv X pins σ H s → H D = some (obj D l) → RelV (enc k) u → l.length + 1 < scanBound →
    (∀ s', Inv X pins σ (upd H D (obj D (insK l k))) s' → Q .none s') → wpAny (model X.prog X.w) X.A (call (.builtin "set.add") [.ref D, u]) Q E s
instance SetI.decI {P : Program} {w : World} (I : SetI P w) : DecidableEq I.κ := I.dec
section
variable {X : Cx}
/-- {elt for target in iter if ..}: D the new set -/
def tScI (I : SetI X.prog X.w) (wi : TI) (g : TG) (tt : TT) (te : TE) (vs : List Nat) : TE := fun σ H Q => wi σ H fun J H1 => ∀ D, H1 D = none → ∃ W : Nat → Nat → Hp → Prop, (∃ m, W 0 m (upd H1 D (I.obj D []))) ∧ ∀ i m H, W i m H →
  (J.stop i H ∧ Q (.ref D) H) ∨ (J.go i H ∧ ∃ Nx : Hp → Prop, (∀ H', Nx H' → ∃ m', m' < m ∧ W (i + 1) m' H') ∧ ∀ x H', J.yld i H x H' → g x (wipe σ vs) H' fun σ2 H2 => wipe σ2 vs = wipe σ vs ∧ tt σ2 H2 fun b H3 =>
    if b = true then te σ2 H3 fun y H4 => ∃ (k : I.κ) (l : List I.κ), y = I.enc k ∧ H4 D = some (I.obj D l) ∧ l.length + 1 < scanBound ∧ Nx (upd H4 D (I.obj D (insK l k))) else Nx H3)
theorem scI_core {pins : List (Addr × Obj)} {s : Shared} {σ : L2.St} {H : Hp} {Q : VK} {elt tg iter : Expr} {ifs : List Expr} {scope : Scope} {own : List (PySem.Str × Nat)} {pos pos' : Pos} {wi : TI} {g : TG} {tt : TT} {te : TE} {use : Option (Value → Sem Unit)} {Qf : Value → Shared → Prop} (J : SetI X.prog X.w)
    (hc : X.calm = true) (hN : X.N.Nodup) (I : Inv X pins σ H s) (hi : PI X tg iter wi) (ok : BlkOk X.N X.env.scope scope own)
    (hg : ∀ (s : Shared) (H : Hp) (C : Addr) (cl : List (PySem.Str × Addr)) (fp : List Addr), PG (X.blk s H scope (compEnvC scope cl C X.env) fp) tg g) (ht : ∀ (s : Shared) (H : Hp) (C : Addr) (cl : List (PySem.Str × Addr)) (fp : List Addr), PTs (X.blk s H scope (compEnvC scope cl C X.env) fp) ifs tt)
    (he : ∀ (s : Shared) (H : Hp) (C : Addr) (cl : List (PySem.Str × Addr)) (fp : List Addr), PE (X.blk s H scope (compEnvC scope cl C X.env) fp) elt te) (hs : ∀ x, foldedSetIterable iter X.env x = pure x)
    (h : tScI J wi g tt te (own.map (·.2)) σ H Q)
    (hfin : ∀ D C s' m H', Inv X pins σ H' s' → Q (.ref D) H' → s'.heap.Ns C m → FpOk X pins H' C → compPost (model X.prog X.w) X.A X.xe use Qf (.ref D) C (.ok .next) s') :
    wpAny (model X.prog X.w) X.A (comprehension (.SetComp elt [⟨tg, iter, ifs, 0⟩] scope pos) scope X.env pos' (newSet (.type "set")) false (eval iter X.env) use) Qf X.xe s := by
  have free : ∀ y ∈ scope.names, y.2 = .free → ∃ c, X.env.cells.lookup y.1 = some c := fun y hy e => (ok.free y hy e).elim (fun k => I.ok.has _ (.inl k)) fun k => I.ok.has _ (.inr k)
  refine wpAny_comprehension_free (use := use) rfl hs (closure_ok free) ok.kind (fun y hy e => by rw [ok.uniq y hy, e])
    (thn (hi.run pins s σ H _ I h) fun xv s1 hx => thn hx fun itv s2 h2 => ?_)
  obtain ⟨it, fp, tn, Jt, H2, rfl, I2, T, t0, f2, q⟩ := h2
  refine PpSet.newSet_ok (newEnv_comp ?_)
  have hDn : H2 s2.heap.objs.size = none := I2.hok.fresh (Nat.le_refl _)
  obtain ⟨W, ⟨m0, w0⟩, turn⟩ := q _ hDn
  -- the new set
  obtain ⟨D, hD⟩ : ∃ D, D = s2.heap.objs.size := ⟨_, rfl⟩
  rw [← hD] at hDn w0 turn
  obtain ⟨s3, hs3⟩ : ∃ s3 : Shared, s3 = { s2 with heap := s2.heap.push (emptySet X.w) } := ⟨_, rfl⟩
  obtain ⟨H3, hH3⟩ : ∃ H3, H3 = upd H2 D (J.obj D []) := ⟨_, rfl⟩
  have I3 : Inv X pins σ H3 s3 := by
    subst hs3 hH3 hD
    exact I2.laid (t' := s2.toks) (fun b o e => Heap.get?_push_of_some _ e) (Nat.le_refl _) (J.fresh _ _)
  have keep3 : ∀ b o, s2.heap.get? b = some o → s3.heap.get? b = some o := fun b o e => by subst hs3; exact Heap.get?_push_of_some _ e
  have f3 : ∀ b ∈ fp, FpOk X pins H3 b ∧ b < s3.heap.objs.size := fun b hb => by
    obtain ⟨o, e, _⟩ := T.obj _ _ t0 b hb
    have lt := Heap.lt_size e
    refine ⟨⟨?_, (f2 b hb).2⟩, Heap.lt_size (keep3 b o e)⟩
    rw [hH3, upd_ne (by rw [hD]; exact Nat.ne_of_lt lt)]
    exact (f2 b hb).1
  have st3 : tn 0 s3.heap := T.keep _ _ _ t0 fun b _ o e => keep3 b o e
  have I4 := block_start I3 ok hN f3
  obtain ⟨C, hC⟩ : ∃ C, C = s3.heap.objs.size := ⟨_, rfl⟩
  obtain ⟨ce, hce⟩ : ∃ ce, ce = compEnvC scope (cellsFrom (s3.heap.objs.size + 1) scope.names (cloFrom X.env.cells scope.names [])) s3.heap.objs.size X.env := ⟨_, rfl⟩
  have pg := hg s3 H3 s3.heap.objs.size (cellsFrom (s3.heap.objs.size + 1) scope.names (cloFrom X.env.cells scope.names [])) fp
  have pt := ht s3 H3 s3.heap.objs.size (cellsFrom (s3.heap.objs.size + 1) scope.names (cloFrom X.env.cells scope.names [])) fp
  have pe := he s3 H3 s3.heap.objs.size (cellsFrom (s3.heap.objs.size + 1) scope.names (cloFrom X.env.cells scope.names [])) fp
  rw [← hce] at I4 pg pt pe
  have cL : ce.locals = C := by rw [hce, hC]; rfl
  obtain ⟨s4, hs4⟩ : ∃ s4 : Shared, s4 = { s3 with heap := pushCells (s3.heap.push { cls := .type "dict", data := .dict #[] }) scope.names } := ⟨_, rfl⟩
  rw [← hs4] at I4
  have goal4 : codeAny (model X.prog X.w) X.A (.compStart (.SetComp elt [⟨tg, iter, ifs, 0⟩] scope pos) 0 (.ref it) (.ref D) ce) (compPost (model X.prog X.w) X.A X.xe use Qf (.ref D) C) s4 := by
    have st4 : tn 0 s4.heap := T.keep _ _ _ st3 fun b _ o e => by rw [hs4]; exact pushCells_keeps _ _ _ _ (Heap.get?_push_of_some _ e)
    have nfp : ∀ b ∈ fp, H3 b = none := fun b hb => (f3 b hb).1.1
    have fpo : ∀ {σ' : L2.St} {H' : Hp} {s' : Shared}, Inv (X.blk s3 H3 scope ce fp) [] σ' H' s' → (∀ b ∈ fp, H' b = none) → ∀ b ∈ fp, FpOk (X.blk s3 H3 scope ce fp) [] H' b := fun {σ' H' s'} I' hn b hb =>
      ⟨hn b hb, (I'.ok.exf b hb).1, I'.ok.exfs b hb, .inl hb, fun x c e => (I'.ok.exf b hb).2 x c e, fun p hp => absurd (show p ∈ ([] : List (Addr × Obj)) ++ [] from hp) (by simp)⟩
    have loop : codeAny (model X.prog X.w) X.A (.compLoop (.SetComp elt [⟨tg, iter, ifs, 0⟩] scope pos) 0 (.ref it) (.ref D) ce) (compPost (model X.prog X.w) X.A X.xe use Qf (.ref D) C) s4 := by
      refine PpSet.compLoopS_any (fun n s' => ∃ i H', Inv (X.blk s3 H3 scope ce fp) [] (wipe σ (own.map (·.2))) H' s' ∧ tn i s'.heap ∧ (∀ b ∈ fp, H' b = none) ∧ W i n H') ?_ m0 ⟨0, H3, I4, st4, nfp, by rw [hH3]; exact w0⟩
      rintro n s5 ⟨i, H5, I5, st5, n5, w5⟩
      rcases turn i n H5 w5 with ⟨stop, qq⟩ | ⟨go, Nx, hNx, step⟩
      · refine thnF (T.done (X.blk s3 H3 scope ce fp) rfl rfl rfl hc i [] s5 _ H5 (fun _ _ => False) I5 (fpo I5 n5) st5 stop) fun r s6 ⟨hr, I6⟩ => ?_
        subst hr
        have I7 : Inv X pins σ H5 s6 := I3.call' (ch := fp) I6.os I6.base I6.hok I6.bare fun b hb => ⟨(f3 b hb).1.2.2.2.1, (f3 b hb).1.2.1, (f3 b hb).1.2.2.2.2.1, (f3 b hb).1.2.2.2.2.2⟩
        have nC : H5 C = none := by
          have z : H5 ce.locals = none := I6.free
          rwa [cL] at z
        obtain ⟨m, hn, _⟩ := I6.loc
        have hn : s6.heap.Ns ce.locals m := hn
        rw [cL] at hn
        exact hfin D C s6 m H5 I7 qq hn (I3.fpOk (by rw [hC]; exact Nat.le_refl _) nC)
      · refine thnF (T.item (X.blk s3 H3 scope ce fp) rfl rfl rfl hc i [] s5 _ H5 (fun _ _ => False) I5 (fpo I5 n5) st5 go) fun r s6 ⟨u, hr, h6⟩ => ?_
        subst hr
        refine thnF h6 fun _ s7 ⟨x, H7, I7, r7, y7, st7, n7⟩ => ?_
        refine thnF (pg.run _ s7 _ H7 x u _ (I7.pinned (fpo I7 n7) (T.obj _ _ st7)) r7 (step x H7 y7)) fun _ s8 ⟨σ8, H8, I8, hw8, q8⟩ => ?_
        refine thnF (pt.run _ s8 σ8 H8 _ I8 q8) fun b s9 ⟨H9, I9, q9⟩ => ?_
        have back : ∀ {s' : Shared} {H' : Hp}, Inv (X.blk s3 H3 scope ce fp) ([] ++ pinsAt fp s7.heap) σ8 H' s' → Nx H' → ∃ m, m < n ∧ ∃ i H', Inv (X.blk s3 H3 scope ce fp) [] (wipe σ (own.map (·.2))) H' s' ∧ tn i s'.heap ∧ (∀ b ∈ fp, H' b = none) ∧ W i m H' := fun {s' H'} I' nx => by
          obtain ⟨m', hm, w'⟩ := hNx H' nx
          have pin' : ∀ b ∈ fp, ∀ o, s7.heap.get? b = some o → s'.heap.get? b = some o ∧ H' b = none := fun b hb o e =>
            ⟨(I'.pin (b, o) (List.mem_append_right _ (List.mem_append_right _ (mem_pinsAt hb e)))).1, (I'.pin (b, o) (List.mem_append_right _ (List.mem_append_right _ (mem_pinsAt hb e)))).2.1⟩
          refine ⟨m', hm, i + 1, H', (I'.unpinned (pins := [])).weak (by rw [← hw8, wipe_length]) (fun j v e => (wipe_some (by rw [← hw8] at e; exact e)).1), T.keep _ _ _ st7 fun b hb o e => (pin' b hb o e).1, fun b hb => ?_, w'⟩
          obtain ⟨o, e, _⟩ := T.obj _ _ st7 b hb
          exact (pin' b hb o e).2
        cases b with
        | false =>
          simp only [Bool.false_eq_true, if_false] at q9 ⊢
          exact back I9 q9
        | true =>
          simp only [if_true] at q9 ⊢
          refine thnF (pe.run _ s9 σ8 H9 _ I9 q9) fun z s10 ⟨yv, H10, I10, r10, k, l, ey, hD10, hz10, nx⟩ => ?_
          subst ey
          exact J.add (X := X.blk s3 H3 scope ce fp) rfl rfl I10 hD10 r10 hz10 fun s11 I11 => back I11 nx
    exact PpSet.codeAny_compStart_set loop (T.self X.A 0 _ _ _ st4 loop)
  rw [hs4, hce, hC] at goal4
  subst hs3
  rw [hD] at goal4
  exact goal4
theorem pe_scI {elt tg iter : Expr} {ifs : List Expr} {scope : Scope} {own : List (PySem.Str × Nat)} {pos : Pos} {wi : TI} {g : TG} {tt : TT} {te : TE} (J : SetI X.prog X.w) (hc : X.calm = true) (hN : X.N.Nodup) (hi : PI X tg iter wi) (ok : BlkOk X.N X.env.scope scope own)
    (hg : ∀ (s : Shared) (H : Hp) (C : Addr) (cl : List (PySem.Str × Addr)) (fp : List Addr), PG (X.blk s H scope (compEnvC scope cl C X.env) fp) tg g) (ht : ∀ (s : Shared) (H : Hp) (C : Addr) (cl : List (PySem.Str × Addr)) (fp : List Addr), PTs (X.blk s H scope (compEnvC scope cl C X.env) fp) ifs tt)
    (he : ∀ (s : Shared) (H : Hp) (C : Addr) (cl : List (PySem.Str × Addr)) (fp : List Addr), PE (X.blk s H scope (compEnvC scope cl C X.env) fp) elt te) (hs : ∀ x, foldedSetIterable iter X.env x = pure x := by intro _; rfl) :
    PE X (.SetComp elt [⟨tg, iter, ifs, 0⟩] scope pos) (tScI J wi g tt te (own.map (·.2))) := by
  refine ⟨fun pins s σ H Q I h => ?_⟩
  rw [PpSet.eval_SetComp]
  refine scI_core J hc hN I hi ok hg ht he hs h fun D C s' m H' I' q hn f => ⟨m, hn, fun h'' sb => ⟨.ref D, H', ?_, rfl, q⟩⟩
  exact I'.turned (t' := s'.toks) (fun b o hb e => (sb.2 b hb).trans e) f.1 f.2.1 f.2.2.2.1 f.2.2.2.2.1 f.2.2.2.2.2
end
end M
namespace M
open PySem PySem.Spec L2 PyProof.Rows
theorem mem_insK {κ : Type} [DecidableEq κ] {l : List κ} {k j : κ} : j ∈ insK l k ↔ j ∈ l ∨ j = k := by
  unfold insK
  split
  · rename_i h
    exact ⟨.inl, fun q => q.elim id fun e => e ▸ h⟩
  · rw [List.mem_cons]; exact Or.comm
theorem nodup_insK {κ : Type} [DecidableEq κ] {l : List κ} {k : κ} (h : l.Nodup) : (insK l k).Nodup := by
  unfold insK
  split
  · exact h
  · rename_i hk; exact List.nodup_cons.mpr ⟨hk, h⟩
theorem len_insK {κ : Type} [DecidableEq κ] {l : List κ} {k : κ} : (insK l k).length = if decide (k ∈ l) = true then l.length else l.length + 1 := by
  unfold insK
  by_cases h : k ∈ l <;> simp [h]
/-! ### ints -/
def setInt (P : Program) (w : World) : SetI P w where
  κ := Int
  dec := inferInstance
  enc := V.int
  obj := fun D l => SetO w D (fun k => decide (k ∈ l)) l.length
  mutO := fun _ _ => trivial
  ext := fun _ _ _ => nofun
  fresh := fun H h => by
    have e : (fun k : Int => decide (k ∈ ([] : List Int))) = fun _ => false := by funext k; simp
    rw [e]
    exact setO_new (setR_fresh w)
  add := by
    intro X pins σ H s E D l k u Q hP hw I hD rk room h
    subst hP hw
    obtain ⟨tk, rfl⟩ := rk
    have R := setO_get I hD
    refine setR_add R room fun h' sb new => h _ ?_
    have he : ∃ u, h'.get? D = some u := by
      have ⟨o, _, _, _, ho, _⟩ := new
      exact ⟨o, ho⟩
    have e1 : (fun j => decide (j ∈ l) || decide (j = k)) = fun j => decide (j ∈ insK l k) := by
      funext j
      rw [Bool.eq_iff_iff]
      simp [mem_insK]
    have e2 : (if decide (k ∈ l) = true then l.length else l.length + 1) = (insK l k).length := len_insK.symm
    rw [e1, e2] at new
    exact I.write (e := D) (t' := s.toks + 1) (by rw [hD]; trivial) (.inl rfl) (fun b u hb hu => (sb.2 b hb).trans hu) he (setO_new new)
/-! ### texts -/
def StrSet (P : Program) (w : World) (h : Heap) (a : Addr) (l : List Str) : Prop := ∃ D : Froz.SD, h.get? a = some (Froz.sObj "set" D) ∧ Froz.TxOk P w D l ∧ l.Nodup ∧ Ris D.2.2.place.toList ∧ (w.params.followText "set-order" = true ∨ D.2.2.led = true) ∧ l.length < scanBound
theorem StrSet.at {P : Program} {w : World} {h h' : Heap} {a : Addr} {l : List Str} (R : StrSet P w h a l) (k : ∀ o, h.get? a = some o → h'.get? a = some o) : StrSet P w h' a l := by
  obtain ⟨D, ho, r⟩ := R
  exact ⟨D, k _ ho, r⟩
def StrO (P : Program) (w : World) (a : Addr) (l : List Str) : HO := .ext fun h => StrSet P w h a l
theorem strO_new {w : World} {P : Program} {H : Hp} {h : Heap} {a : Addr} {l : List Str} (R : StrSet P w h a l) : ObjOk P w H h a (StrO P w a l) := by
  have ⟨D, ho, _⟩ := R
  exact ⟨R, ⟨_, ho⟩, fun h1 h2 p k => StrSet.at p k⟩
theorem strO_get {X : Cx} {pins : List (Addr × Obj)} {σ : L2.St} {H : Hp} {s : Shared} {a : Addr} {l : List Str} (I : Inv X pins σ H s) (ha : H a = some (StrO X.prog X.w a l)) : StrSet X.prog X.w s.heap a l := (I.hok a _ ha).1
theorem strSet_fresh (P : Program) (w : World) (h : Heap) : StrSet P w (h.push (emptySet w)) h.objs.size [] :=
  ⟨(#[], 0, .fresh 0 0 (!w.params.followText "set-order")), Heap.get?_push_size _ rfl, Froz.TxOk.nil (by rfl), .nil, List.Pairwise.nil, by
    show _ ∨ (!w.params.followText "set-order") = true
    cases w.params.followText "set-order"
    · exact .inr rfl
    · exact .inl rfl, by decide⟩
theorem tail_place {ep : Nat} {es : Array (Int × Value)} {t : SetTable} {b : Bool} (hr : Ris t.place.toList) : Ris (Froz.tailTx ep es t b).2.2.place.toList ∧ (Froz.tailTx ep es t b).2.2.led = t.led := by
  unfold Froz.tailTx
  split
  · exact ⟨relayAll_ris _ _ _, relayAll_led _ _ _⟩
  · exact ⟨hr, rfl⟩
theorem add_place {h : Int} {v : Value} {D : Froz.SD} (hr : Ris D.2.2.place.toList) : Ris (Froz.addTx h v D).2.2.place.toList ∧ (Froz.addTx h v D).2.2.led = D.2.2.led := by
  unfold Froz.addTx
  have h1 := layNew_ris D.2.2 D.1 h v hr
  have h2 := layNew_led D.2.2 D.1 h v
  split
  · obtain ⟨a, b⟩ := tail_place (ep := D.2.1) (es := (layNew D.2.2 D.1 h v).1) (t := { (layNew D.2.2 D.1 h v).2.1 with plain := false }) (b := (layNew D.2.2 D.1 h v).2.2.1) h1
    exact ⟨a, b.trans h2⟩
  · obtain ⟨a, b⟩ := tail_place (ep := D.2.1) (es := (layNew D.2.2 D.1 h v).1) (t := (layNew D.2.2 D.1 h v).2.1) (b := (layNew D.2.2 D.1 h v).2.2.1) h1
    exact ⟨a, b.trans h2⟩
section
variable {P : Program} {w : World} {A : Around} {E : Value → Shared → Prop} {s : Shared}
/-- a text that is there is added: nothing changes -/
theorem add_same {a : Addr} {D : Froz.SD} {l : List Str} {k : Str} {u : Tok} {Q : Bool → Shared → Prop} (ho : s.heap.get? a = some (Froz.sObj "set" D)) (F : Froz.TxOk P w D l) (hk : k ∈ l) (hb : l.length < scanBound)
    (h : Q false s) : wpAny (model P w) A (setAddHashed a (.str k u) (hashStr w k)) Q E s := by
  obtain ⟨es, ep, t⟩ := D
  have hd : (Froz.sObj "set" (es, ep, t)).data = .set es ep t := rfl
  have hsz : es.size < scanBound := by have e : es.size = l.length := F.sz; omega
  have key : (strKind P w).is k (.str k u) = true := Froz.is_str k u
  unfold setAddHashed setAddHashedIn
  refine wpAny_holding (wpAny_bind (wpAny_setState_of ho hd F.fit ?_))
  dsimp only
  rw [byScan_of rfl hsz F.el]
  simp only [↓reduceIte]
  unfold setAddByScan
  refine wpAny_bind (wpAny_bind (wpAny_rule (wpAny_bind (wpAny_setScan_of (knd := strKind P w) (k := k) key ho hd F.fit F.el ?_))))
  cases hf : List.findIdx? (fun e => (strKind P w).is k e.2) es.toList with
  | some j => exact wpAny_pure (wpAny_pure h)
  | none =>
    obtain ⟨e, he, q⟩ := (F.mem k).mp hk
    have := List.findIdx?_eq_none_iff.mp hf e he
    rw [q] at this
    cases this
theorem strSet_add {a : Addr} {l : List Str} {k : Str} {u : Tok} {Q : Value → Shared → Prop} (R : StrSet P w s.heap a l) (room : l.length + 1 < scanBound)
    (hQ : ∀ h', Heap.SameBut a s.heap h' → StrSet P w h' a (insK l k) → Q .none { s with heap := h', toks := s.toks + 1 }) :
    wpAny (model P w) A (call (.builtin "set.add") [.ref a, .str k u]) Q E s := by
  obtain ⟨D, ho, tx, nd, hr, hl, hb⟩ := R
  refine wpAny_call_entry PySem.F.slot_set_add ⟨_, ho, rfl⟩ PySem.F.entry_set_add ?_ (PySem.F.args_set_add_2 _ _)
  unfold Builtin.«set.add» Builtin.Frozenset.oneOther
  simp only [List.isEmpty_nil, bind_assoc]
  unfold Builtin.Frozenset.addrOf setAdd
  refine wpAny_bind (wpAny_pure ?_)
  try dsimp only
  refine wpAny_bind (wpAny_pure ?_)
  try dsimp only
  refine wpAny_bind (wpAny_holding (wpAny_bind ((strKind P w).pyHash (Froz.is_str k u) ?_)))
  by_cases hk : k ∈ l
  · refine add_same (s := { s with toks := s.toks + 1 }) ho tx hk hb ?_
    show wpAny _ _ (ret Value.none) _ _ _
    refine wpAny_pure ⟨_, rfl, hQ s.heap (Heap.SameBut.refl a s.heap) ⟨D, ho, ?_⟩⟩
    unfold insK
    rw [if_pos hk]
    exact ⟨tx, nd, hr, hl, hb⟩
  · refine Froz.add_x (s := { s with toks := s.toks + 1 }) ho tx hk room ?_
    show wpAny _ _ (ret Value.none) _ _ _
    refine wpAny_pure ⟨_, rfl, hQ _ (Heap.SameBut.update s.heap a _) ⟨_, Froz.get_upd _ ho rfl, ?_⟩⟩
    unfold insK
    rw [if_neg hk]
    obtain ⟨p1, p2⟩ := add_place (h := hashStr w k) (v := .str k u) hr
    exact ⟨Froz.add_ok u tx, List.nodup_cons.mpr ⟨hk, nd⟩, p1, hl.imp id fun z => p2.trans z, by rw [List.length_cons]; exact room⟩
end
def setStr (P : Program) (w : World) : SetI P w where
  κ := Str
  dec := inferInstance
  enc := V.str
  obj := fun D l => StrO P w D l
  mutO := fun _ _ => trivial
  ext := fun _ _ _ => nofun
  fresh := fun H h => strO_new (strSet_fresh P w h)
  add := by
    intro X pins σ H s E D l k u Q hP hw I hD rk room h
    subst hP hw
    obtain ⟨tk, rfl⟩ := rk
    refine strSet_add (strO_get I hD) room fun h' sb new => h _ ?_
    have he : ∃ u, h'.get? D = some u := by
      have ⟨D2, ho, _⟩ := new
      exact ⟨_, ho⟩
    exact I.write (e := D) (t' := s.toks + 1) (by rw [hD]; trivial) (.inl rfl) (fun b u hb hu => (sb.2 b hb).trans hu) he (strO_new new)
end M
namespace M
open PySem PySem.Spec L2 PyProof.Rows
/-! ### sorted of a set of texts -/
theorem perm_of_sub {α : Type} [DecidableEq α] : ∀ {l m : List α}, l.Nodup → (∀ x ∈ l, x ∈ m) → m.length = l.length → m.Perm l
  | [], m, _, _, h => by
    have : m = [] := List.length_eq_zero_iff.mp h
    rw [this]
  | x :: l, m, nd, hs, h => by
    have hx := hs x List.mem_cons_self
    obtain ⟨n1, n2⟩ := List.nodup_cons.mp nd
    have p := List.perm_cons_erase hx
    refine p.trans (List.Perm.cons x (perm_of_sub n2 (fun y hy => ?_) ?_))
    · have ne : y ≠ x := fun e => n1 (e ▸ hy)
      exact (List.mem_erase_of_ne ne).mpr (hs y (List.mem_cons_of_mem _ hy))
    · have := p.length_eq
      simp only [List.length_cons] at this h
      omega
theorem strs_of : ∀ {vs : List Value}, (∀ v ∈ vs, ∃ k t, v = Value.str k t) → ∃ ks, StrsAre vs ks
  | [], _ => ⟨[], .nil⟩
  | v :: vs, h => by
    obtain ⟨k, t, rfl⟩ := h v List.mem_cons_self
    obtain ⟨ks, r⟩ := strs_of fun u hu => h u (List.mem_cons_of_mem _ hu)
    exact ⟨k :: ks, .cons k t r⟩
theorem strs_mem : ∀ {vs : List Value} {ks : List Str} {k : Str} {t : Tok}, StrsAre vs ks → Value.str k t ∈ vs → k ∈ ks
  | _, _, _, _, .nil, h => by simp at h
  | _, _, k, t, .cons y u r, h => by
    rcases List.mem_cons.mp h with e | h
    · cases e; exact List.mem_cons_self
    · exact List.mem_cons_of_mem _ (strs_mem r h)
theorem strs_len : ∀ {vs : List Value} {ks : List Str}, StrsAre vs ks → vs.length = ks.length
  | _, _, .nil => rfl
  | _, _, .cons _ _ r => congrArg (· + 1) (strs_len r)
def rSortedStr (P : Program) (w : World) : List V → Hp → VK → Prop := fun vs H Q => ∃ (a : Addr) (l : List Str), vs = [V.ref a] ∧ H a = some (StrO P w a l) ∧ l.length < 64 ∧
  ∀ (ys : List Str) (p : Addr), ys.Perm l → sortedS ys = true → H p = none → Q (.ref p) (upd H p (.lst (ys.map V.str)))
theorem cr_sortedStr {X : Cx} (hc : X.calm = true) : CallR X (.builtin "sorted") (rSortedStr X.prog X.w) := by
  intro pins s σ H vs us Q I r h
  obtain ⟨a, l, rfl, ha, h64, q⟩ := h
  rw [Vals.ref1 r]
  obtain ⟨⟨es, ep, t⟩, ho, tx, nd, hr, hl, hb⟩ := strO_get I ha
  have hsz : es.size = l.length := tx.sz
  refine Calls.call_function_entry kind_sorted plain_sorted entry_sorted (args_sorted1 _) ?_
  unfold Builtin.«sorted»
  refine wpAny_bind (m := checkCount "sorted" 1 1 _) (wpAny_pure ?_)
  refine wpAny_bind (collect_set (A := X.A.in1) (es := es) (ep := ep) (t := t) (I.ok.hd hc) ⟨_, ho, rfl, rfl⟩ tx.fit (by omega) hr hl fun s1 out k1 hz g1 o1 pm => ?_)
  have hol : out.length = l.length := by rw [pm.length_eq, List.length_map, Array.length_toList]; exact hsz
  obtain ⟨ks, hS⟩ := strs_of (vs := out) fun v hv => by
    obtain ⟨e, he, rfl⟩ := List.mem_map.mp (pm.mem_iff.mp hv)
    obtain ⟨⟨k, hk, _⟩, _⟩ := tx.el e he
    obtain ⟨u, hu⟩ := Value.isStrOf_shape hk
    exact ⟨k, u, hu⟩
  have hkl : ks.Perm l := perm_of_sub nd (fun x hx => by
    obtain ⟨e, he, hk⟩ := (tx.mem x).mp hx
    obtain ⟨u, hu⟩ := Value.isStrOf_shape hk
    exact strs_mem (t := u) hS (pm.mem_iff.mpr (List.mem_map.mpr ⟨e, he, hu⟩))) (by rw [← strs_len hS]; exact hol)
  have I1 : Inv X pins σ H s1 := by
    have e : s1 = { s with heap := s1.heap, gens := s1.gens, drawn := s1.drawn, toks := s1.toks } := by
      cases s1
      cases s
      cases o1
      rfl
    rw [e]
    exact I.call (ch := []) (Un.kept k1) (I.hok.kept k1) (by rw [g1]; exact I.bare) (fun _ z => nomatch z)
  refine wpAny_bind (wpAny_newList ?_ (by rw [hol, sizeLine_eq]; omega))
  have hoL : (s1.heap.push (seqObj "list" out.toArray 0)).get? s1.heap.objs.size = some (seqObj "list" out.toArray 0) := Heap.get?_push_size _ rfl
  refine wpAny_bind (wpAny_holding (wpAny_call_entry slot_list_sort ⟨_, hoL, rfl⟩ entry_list_sort
    (list_sort_treeK strKind_oneLt (s := { s1 with heap := s1.heap.push (seqObj "list" out.toArray 0) }) hoL hS.keysOf (fun v₁ v₂ rest e => keyKind_strs (by rw [← e]; exact hS)) (by rw [hol]; exact h64) fun st' hp hs => ⟨_, rfl, ?_⟩) (args_list_sort _)))
  obtain ⟨ys, y1, y2, y3⟩ := sorted_out_str hS hp hs
  obtain ⟨e', he'⟩ := sortedHeap_at (vs := out) (out := (arrOf st').map (·.2)) hoL
  have hlen : (ys.map V.str).length ≤ sizeLine := by
    rw [List.length_map, y2.length_eq, hkl.length_eq, sizeLine_eq]; omega
  refine wpAny_pure ⟨_, rfl, .ref s1.heap.objs.size, upd H s1.heap.objs.size (.lst (ys.map V.str)), I1.laid (t' := s1.toks) (fun b u e => ?_) (Nat.le_refl _)
    (show ObjOk X.prog X.w _ _ _ (.lst (ys.map V.str)) from ⟨hlen, ((arrOf st').map (·.2)).toList, e', vals_of_strs y1, by rw [Array.toArray_toList]; exact he'⟩), rfl, q ys _ (y2.trans hkl) y3 (I1.hok.fresh (Nat.le_refl _))⟩
  have lt := Heap.lt_size e
  rw [sortedHeap_old (Nat.ne_of_lt lt) (by rw [size_push']; exact Nat.lt_succ_of_lt lt)]
  exact Heap.get?_push_of_some _ e
end M
namespace M
open PySem PySem.Spec L2
/-! ### f({elt for tg in iter if ..}) -/
def optR {α β : Type} (o : Option α) (k : α → Res β) : Res β := match o with | some a => k a | none => .stuck
@[simp] theorem optR_some {α β : Type} (a : α) (k : α → Res β) : optR (some a) k = k a := rfl
@[simp] theorem optR_none {α β : Type} (k : α → Res β) : optR none k = .stuck := rfl
def compS {κ : Type} (toK : D → Option κ) (g : GD) (ft : DenB) (fe : Den) (ρ : Env) : List D → Sto → Res (List κ)
  | [], st => .ok [] st
  | x :: xs, st => match g x ρ with
    | none => .stuck
    | some ρ1 => match ft ρ1 st with
      | .ok true st => (match fe ρ1 st with
        | .ok d st => optR (toK d) fun k => (compS toK g ft fe ρ xs st).bind fun ks st => .ok (k :: ks) st
        | _ => .stuck)
      | .ok false st => compS toK g ft fe ρ xs st
      | _ => .stuck
@[simp] def eSetThen {κ : Type} [DecidableEq κ] (toK : D → Option κ) (fin : List κ → Option D) (fi : DenL) (g : GD) (ft : DenB) (fe : Den) (vs : List Nat) : Den := fun ρ st => (fi ρ st).bind fun items st =>
  if items.length < 64 then (compS toK g ft fe (wipeE ρ vs) items st).bind fun ks st => optR (fin (ks.foldl insK [])) fun d => .ok d st else .stuck
theorem foldl_insK_len {κ : Type} [DecidableEq κ] : ∀ (ks l : List κ), (ks.foldl insK l).length ≤ l.length + ks.length
  | [], l => by simp
  | k :: ks, l => by
    have h1 := foldl_insK_len ks (insK l k)
    have h2 : (insK l k).length ≤ l.length + 1 := by rw [len_insK]; split <;> omega
    simp only [List.foldl_cons, List.length_cons]
    omega
theorem foldl_insK_nodup {κ : Type} [DecidableEq κ] : ∀ (ks l : List κ), l.Nodup → (ks.foldl insK l).Nodup
  | [], l, h => h
  | k :: ks, l, h => foldl_insK_nodup ks _ (nodup_insK h)
theorem mem_foldl_insK {κ : Type} [DecidableEq κ] : ∀ (ks l : List κ) (x : κ), x ∈ ks.foldl insK l ↔ x ∈ l ∨ x ∈ ks
  | [], l, x => by simp
  | k :: ks, l, x => by
    rw [List.foldl_cons, mem_foldl_insK ks, mem_insK, List.mem_cons, or_assoc]
section

variable {G : Wd} {W : WX} {X : Cx} {Z Z' : Zone} {H H' : Hp} {L L' : List Addr} {st st' : Sto} {tg e : Expr} {pos : Pos}
structure CInvS (J : SetI X.prog X.w) (G : Wd) (Z : Zone) (p : Addr) (L1 : List Addr) (st1 : Sto) (H1 : Hp) (items : List D) (i : Nat) (acc : List J.κ) (L' : List Addr) (st' : Sto) (H' : Hp) : Prop where
  le : i ≤ items.length
  fw : Fw Z L1 st1 H1 L' st' H'
  ok : StOk G (Zp Z p) L' st' H'
  at_ : H' p = some (J.obj p (acc.foldl insK []))
  len : acc.length ≤ i
/-- what is called with the new set -/
def SetR2 (J : SetI X.prog X.w) (G : Wd) (fin : List J.κ → Option D) (r : List V → Hp → VK → Prop) : Prop := ∀ (H : Hp) (p : Addr) (l : List J.κ) (d : D) (Q : VK), H p = some (J.obj p l) → l.length < 64 → l.Nodup → fin l = some d →
  (∀ v H', Same H H' → (∀ Z, In Z H → Rep G Z H' d v) → Q v H') → r [.ref p] H Q
theorem setM_core (J : SetI X.prog X.w) {toK : D → Option J.κ} (hT : ∀ (Z : Zone) (H : Hp) (d : D) (v : V) (k : J.κ), Rep G Z H d v → toK d = some k → v = J.enc k) {fin : List J.κ → Option D} {r : List V → Hp → VK → Prop} (hr : SetR2 J G fin r)
    {fi : DenL} {gm : GD} {g : TG} {ft : DenB} {fe : Den} {vs : List Nat} (hg : GSim G g gm vs) {σ : L2.St} {H : Hp} {Q : VK} (q : tM G W (eSetThen toK fin fi gm ft fe vs) σ H Q) : tScI J (tMI G W fi) g (tMB G W0 ft) (tM G W0 fe) vs σ H fun x H1 => r [x] H1 Q := by
  obtain ⟨Z, ρ, st, L, S, q⟩ := q
  refine ⟨Z, ρ, st, L, S, ?_⟩
  have qq : match fi ρ st with
    | .ok items st1 => PostR G Z W (fun Z H => Rep G Z H) σ L st H (if items.length < 64 then (compS toK gm ft fe (wipeE ρ vs) items st1).bind fun ks st => optR (fin (ks.foldl insK [])) fun d => .ok d st else .stuck) Q
    | .exc c fs st' => ExP G Z L st H c fs st' fun cv dd H' => W cv dd σ H'
    | .stuck => False := by
    revert q
    unfold eSetThen
    cases fi ρ st <;> exact fun q => q
  clear q
  revert qq
  cases ei : fi ρ st with
  | stuck => exact fun q => q
  | exc c fs st1 => exact fun q => q
  | ok items st1 =>
    intro q JJ H1 L1 f1 o1 hy p hp
    have q : PostR G Z W (fun Z H => Rep G Z H) σ L st H (if items.length < 64 then (compS toK gm ft fe (wipeE ρ vs) items st1).bind fun ks st => optR (fin (ks.foldl insK [])) fun d => .ok d st else .stuck) Q := q
    by_cases hz : items.length < 64
    · rw [if_pos hz] at q
      have S1 := S.to f1 o1
      obtain ⟨C, hC0⟩ : ∃ C, compS toK gm ft fe (wipeE ρ vs) items st1 = C := ⟨_, rfl⟩
      rw [hC0] at q
      have noExc : ∀ (items : List D) (st : Sto) c fs st', compS toK gm ft fe (wipeE ρ vs) items st ≠ .exc c fs st' := by
        intro items
        induction items with
        | nil => intro st c fs st' h; cases h
        | cons d r ih =>
          intro st c fs st' h
          unfold compS at h
          split at h
          · cases h
          · split at h
            · split at h
              · rename_i d2 st2 _
                cases ek : toK d2 with
                | none => rw [ek] at h; cases h
                | some k =>
                  rw [ek] at h
                  cases hr : compS toK gm ft fe (wipeE ρ vs) r st2 with
                  | ok ds st3 => rw [optR_some, hr] at h; cases h
                  | exc c2 fs2 st3 => exact ih _ _ _ _ hr
                  | stuck => rw [optR_some, hr] at h; cases h
              · cases h
            · exact ih _ _ _ _ h
            · cases h
      cases hC1 : C with
      | stuck => rw [hC1] at q; exact q.elim
      | exc c fs st' => exact absurd (hC0.trans hC1) (noExc _ _ _ _ _)
      | ok all stE =>
      rw [hC1] at q hC0
      have q : PostR G Z W (fun Z H => Rep G Z H) σ L st H (optR (fin (all.foldl insK [])) fun d => .ok d stE) Q := q
      refine ⟨fun i m H' => ∃ acc L' st', m = items.length - i ∧ CInvS J G Z p L1 st1 H1 items i acc L' st' H' ∧ (compS toK gm ft fe (wipeE ρ vs) (items.drop i) st').bind (fun ds st => .ok (acc ++ ds) st) = .ok all stE, ⟨items.length, [], L1, st1, by simp, ⟨Nat.zero_le _, Fw.same (same_new hp), o1.enter hp (J.ext _ _), upd_same, Nat.le_refl _⟩, ?_⟩, ?_⟩
      · rw [List.drop_zero, hC0]
        rfl
      · rintro i m H' ⟨acc, L', st', rfl, I, hC⟩
        have hzz : ∀ a, Zp Z p a → Z a ∨ H1 a = none := fun a z => z.elim .inl fun e => .inr (by rw [e]; exact hp)
        obtain ⟨ys, yi⟩ := hy i (Zp Z p) L' st' H' hzz I.fw I.ok
        by_cases hi : i < items.length
        · obtain ⟨d, hd⟩ : ∃ d, items[i]? = some d := ⟨_, List.getElem?_eq_getElem hi⟩
          obtain ⟨go, hyl⟩ := yi d hd
          have hdrop : items.drop i = d :: items.drop (i + 1) := by
            rw [List.drop_eq_getElem_cons hi]
            rw [List.getElem?_eq_getElem hi] at hd
            cases hd
            rfl
          rw [hdrop] at hC
          unfold compS at hC
          refine .inr ⟨go, fun H2 => ∃ acc L' st', CInvS J G Z p L1 st1 H1 items (i + 1) acc L' st' H2 ∧ (compS toK gm ft fe (wipeE ρ vs) (items.drop (i + 1)) st').bind (fun ds st => .ok (acc ++ ds) st) = .ok all stE, fun H2 ⟨acc, L', st', I2, h2⟩ => ⟨_, by omega, acc, L', st', rfl, I2, h2⟩, fun x H2 hyx => ?_⟩
          obtain ⟨sm, rx⟩ := hyl x H2 hyx
          have k2 : Keeps (Zof (Zp Z p) L' st') (Zof (Zp Z p) L' st') H' H2 := Same.keeps sm
          have ok2 : StOk G (Zp Z p) L' st' H2 := I.ok.same sm
          have fw2 : Fw Z L1 st1 H1 L' st' H2 := I.fw.trans (Fw.same sm)
          have E2 : EnvOk G (Zof (Zp Z p) L' st') H2 L' (wipeE ρ vs) (wipe σ vs) := by
            have a2 : EnvOk G (Zof (Zp Z p) L' st') H2 L' ρ σ := ⟨S1.env.1, fun i s e => by
              obtain ⟨v, e2, r⟩ := S1.env.2 i s e
              refine ⟨v, e2, ?_⟩
              cases r with
              | p r => exact .p (r.mono (fw2.keepsZ hzz))
              | r e3 => exact .r (I.fw.get e3)
              | x y1 y2 y3 y4 => exact .x y1 y2 (y3.mono (fw2.keepsZ hzz)) (y4.mono (fw2.keepsZ hzz))⟩
            exact a2.wipe vs
          cases eg : gm d (wipeE ρ vs) with
          | none => rw [eg] at hC; cases hC
          | some ρ1 =>
            rw [eg] at hC
            refine hg _ _ _ _ _ _ _ ρ1 _ E2 rx eg fun σ2 E3 w2 => ⟨w2.trans (wipe_wipe σ vs), Zp Z p, ρ1, st', L', ⟨ok2, E3⟩, ?_⟩
            have hC : (match ft ρ1 st' with
              | .ok true st => (match fe ρ1 st with
                | .ok d st => optR (toK d) fun k => (compS toK gm ft fe (wipeE ρ vs) (items.drop (i + 1)) st).bind fun ks st => .ok (k :: ks) st
                | _ => .stuck)
              | .ok false st => compS toK gm ft fe (wipeE ρ vs) (items.drop (i + 1)) st
              | _ => .stuck : Res (List J.κ)).bind (fun ds st => .ok (acc ++ ds) st) = .ok all stE := hC
            cases et : ft ρ1 st' with
            | stuck => rw [et] at hC; cases hC
            | exc c fs st3 => rw [et] at hC; cases hC
            | ok b st3 =>
              rw [et] at hC
              intro b' H3 L3 f3 o3 rb
              have rb : b = b' := rb
              subst rb
              have fw3 : Fw Z L1 st1 H1 L3 st3 H3 := fw2.trans (f3.zone fun a z => .inl z)
              have hw3 : H3 p = some (J.obj p (acc.foldl insK [])) := f3.zk p _ (.inr rfl) (sm _ _ I.at_)
              cases b with
              | false =>
                exact ⟨acc, L3, st3, ⟨hi, fw3, o3, hw3, Nat.le_succ_of_le I.len⟩, hC⟩
              | true =>
                refine ⟨Zp Z p, ρ1, st3, L3, ⟨o3, E3.mono f3⟩, ?_⟩
                have hC : (match fe ρ1 st3 with
                  | .ok d st => optR (toK d) fun k => (compS toK gm ft fe (wipeE ρ vs) (items.drop (i + 1)) st).bind fun ks st => .ok (k :: ks) st
                  | _ => .stuck : Res (List J.κ)).bind (fun ds st => .ok (acc ++ ds) st) = .ok all stE := hC
                cases ee : fe ρ1 st3 with
                | stuck => rw [ee] at hC; cases hC
                | exc c fs st4 => rw [ee] at hC; cases hC
                | ok y st4 =>
                  rw [ee] at hC
                  have hC : (optR (toK y) fun k => (compS toK gm ft fe (wipeE ρ vs) (items.drop (i + 1)) st4).bind fun ks st => .ok (k :: ks) st : Res (List J.κ)).bind (fun ds st => .ok (acc ++ ds) st) = .ok all stE := hC
                  cases ek : toK y with
                  | none => rw [ek] at hC; cases hC
                  | some k =>
                  rw [ek] at hC
                  intro v H4 L4 f4 o4 ry
                  have fw4 : Fw Z L1 st1 H1 L4 st4 H4 := fw3.trans (f4.zone fun a z => .inl z)
                  have hw4 : H4 p = some (J.obj p (acc.foldl insK [])) := f4.zk p _ (.inr rfl) hw3
                  have hl := foldl_insK_len acc []
                  have il := I.len
                  have hsb : (64 : Nat) < scanBound := by decide
                  refine ⟨k, acc.foldl insK [], hT _ _ _ _ _ ry ek, hw4, by simp only [List.length_nil] at hl; omega, acc ++ [k], L4, st4, ⟨hi, Fw.own hp fw4, o4.own (J.ext _ _), by rw [List.foldl_append]; exact upd_same, by rw [List.length_append, List.length_singleton]; omega⟩, ?_⟩
                  have hC : ((compS toK gm ft fe (wipeE ρ vs) (items.drop (i + 1)) st4).bind fun ds st => .ok (k :: ds) st).bind (fun ds st => .ok (acc ++ ds) st) = .ok all stE := hC
                  rw [← hC]
                  cases compS toK gm ft fe (wipeE ρ vs) (items.drop (i + 1)) st4 with
                  | ok ds st5 => simp only [Res.bind, List.append_assoc, List.singleton_append]
                  | exc c fs st5 => rfl
                  | stuck => rfl
        · have e : i = items.length := by have := I.le; omega
          subst e
          rw [List.drop_length] at hC
          have hC : Res.ok (acc ++ []) st' = .ok all stE := hC
          rw [List.append_nil] at hC
          cases hC
          refine .inl ⟨ys (Nat.le_refl _), ?_⟩
          cases ef : fin (all.foldl insK []) with
          | none => rw [ef] at q; exact q.elim
          | some d =>
            rw [ef] at q
            have hl := foldl_insK_len all []
            have il := I.len
            simp only [List.length_nil] at hl
            have ok9 := StOk.shrink (Z := Z) (fun a z => Or.inl z) I.ok
            exact hr H' p _ d Q I.at_ (by omega) (foldl_insK_nodup _ _ .nil) ef fun v H2 sm hv => q v H2 L' ((f1.trans I.fw).trans (Fw.same sm)) (ok9.same sm) (hv _ ok9.inn)
    · rw [if_neg hz] at q
      exact q.elim
end
end M
namespace M
open PySem PySem.Spec L2 PyProof.Rows
/-! ### dict(t), t a tuple of pairs: as HandS.Dict has it for a list -/
theorem tup_keys_none : typeLookup (.type "tuple") "keys" = pure none := am_miss_of_fast (by first | decide +kernel | rfl)
section
variable {prog : Program} {w : World} {A : Around} {E : Value → Shared → Prop}
/-- a list knows no name 'keys': an AttributeError is made, and forgotten -/
theorem miss_tupK {s : Shared} {a : Addr} {o : Obj} {xs : Array Value} {k : Nat} {Q : Option Value → Shared → Prop} (hx : s.heap.get? a = some o) (hc : o.cls = .type "tuple") (hdat : o.data = .seq xs k) (hd : o.dict = none) (hA : A.handled = none)
    (h : ∀ h' tk, (∀ b ob, s.heap.get? b = some ob → h'.get? b = some ob) → Q none { s with heap := h', toks := tk }) : wpAny (model prog w) A (getAttr? (.ref a) "keys") Q E s := by
  obtain ⟨c, dct, dat, sl⟩ := o
  simp only at hc hdat hd
  subst hc hdat hd
  obtain ⟨hp, g, d, tk, os⟩ := s
  have hT : ∀ tk', (⟨hp, g, d, tk', os⟩ : Shared).TypeIs (.ref a) "tuple" := fun _ => ⟨_, hx, rfl⟩
  have hmiss := tup_keys_none
  have hname : (["__module__", "__name__", "__qualname__", "__doc__", "__annotations__"] : List Str).contains "keys" = false := by decide +kernel
  have hsz : ("keys" : Str).length + 100 ≤ sizeLine := by first | size_fits | decide +kernel
  have f1 := sub_AttributeError
  have f3 := PySem.F.slot_tuple_getattribute.lookup
  have f4 := PySem.F.slot_tuple_getattribute.bind (.ref a)
  have f5 := am_tuple_getattr_none
  unfold getAttr? getAttrBy? getAttrBy
  repeat (any_goals (first | assumption | exact hT _ | ((with_reducible show wpAny _ _ (call (Value.builtin "tuple.__getattribute__") _ _) _ _ _); refine call_meets PySem.F.slot_tuple_getattribute (hT _) am_entry_tuple_getattribute (PySem.F.args_tuple_getattribute_2 _ _) (meets_getattribute_miss_tuple a xs k sl "keys" _ hmiss hname hsz) ⟨hx, hA, fun h' tk' e hx' => ?_⟩) | wp_step))
  obtain ⟨t', u', he⟩ := hx'.there
  show wpAny _ _ (getattributeRaised _ _ _ _ _ _ _) _ _ _
  unfold getattributeRaised
  repeat (any_goals (first | assumption | wp_step))
  all_goals first | exact h _ _ hx'.keeps | (dsimp only; repeat (any_goals (first | assumption | exact h _ _ hx'.keeps | wp_step)))

/-- the walk over the pairs -/
theorem upd_loopT {R : Result → Shared → Prop} {S I l : Addr} {items : Array Value} {res : Value} (hh : A.handled = none) (hlI : l ≠ I) (hSI : S ≠ I) (hSl : S ≠ l) :
    ∀ (rest : List (Key × Value)) (i : Nat) (acc : List (Key × Value)) (ix : Int) (t : Tok) (s : Shared), items.size = i + rest.length → acc.length + rest.length ≤ sizeLine →
      (∀ (j : Nat) (q : Key × Value), rest[j]? = some q → ∃ (b : Addr) (u : Value), items[i + j]? = some (.ref b) ∧ b ≠ S ∧ b ≠ I ∧ IsTup s.heap b #[u, q.2] ∧ keyIs q.1 u = true) →
      s.heap.IsTupleIter I l i → s.heap.IsTuple l items → s.heap.DictOf (mixKind prog w) S acc →
      (∀ h' tk, h'.DictOf (mixKind prog w) S (merged acc rest) → (∀ b o, b ≠ S → b ≠ I → s.heap.get? b = some o → h'.get? b = some o) → R (.ok (.ret res)) { s with heap := h', toks := tk }) →
      codeAny (model prog w) A (.builtin "dict.update.loop" ⟨[.ref S, .ref I, .int ix t, res], []⟩) R s
  | [], i, acc, ix, t, s, hsz, hln, ht, hit, hl, hm, hR => by
    refine codeAny_builtin ud_entry ?_
    rw [Around.under_plainId ud_plain _]
    show wpAny _ A.in1 (pyNext (.ref I) >>= _) _ _ s
    refine wpAny_bind (wpAny_pyNext_tuple_end (A := A.in1) hh hit hl (by first | exact Array.getElem?_eq_none (Nat.le_of_eq hsz) | (simp at hsz; simp; omega)) fun h' he => ?_)
    show wpAny _ A.in1 (Builtin.Dict.addKeywords S [] >>= _) _ _ _
    refine wpAny_bind (wpAny_pure (wpAny_pure ?_))
    exact hR h' s.toks (hm.extBut he hSI) fun b o _ hb e => he b o hb e
  | q :: rest, i, acc, ix, t, s, hsz, hln, ht, hit, hl, hm, hR => by
    obtain ⟨b, u, hb, hbS, hbI, htup, hk⟩ := ht 0 q rfl
    rw [List.length_cons] at hsz hln
    refine codeAny_builtin ud_entry ?_
    rw [Around.under_plainId ud_plain _]
    show wpAny _ A.in1 (pyNext (.ref I) >>= _) _ _ s
    refine wpAny_bind (wpAny_pyNext_tuple_item (x := .ref b) hit hl (by simpa using hb) fun h1 hit1 hs1 => ?_)
    have ht1 : IsTup h1 b #[u, q.2] := htup.extBut hs1.extBut hbI
    have hl1 : h1.IsTuple l items := hl.extBut hs1.extBut hlI
    have hm1 : h1.DictOf (mixKind prog w) S acc := hm.extBut hs1.extBut hSI
    obtain ⟨o, ho, hc, n, hd⟩ := id ht1
    show wpAny _ A.in1 (holding [Value.ref b] _ >>= _) _ _ _
    refine wpAny_bind (wpAny_holding ?_)
    refine wpAny_bind (wpAny_tryCatch ?_)
    unfold Builtin.Dict.pairItems
    refine wpAny_bind (wpAny_typeOf (T := "tuple") ⟨o, ho, hc⟩ ?_)
    rw [if_pos (by first | decide | rfl | simp)]
    refine wpAny_bind (wpAny_seqItems ho hd (wpAny_pure ?_))
    show wpAny _ A.in1 (holding [u, q.2] (dictSet S u q.2)) _ _ _
    refine wpAny_holding (wpAny_dictSet_pairs (knd := mixKind prog w) (k := q.1) hk hm1 (fun h2 hm2 hs2 => ?_) (by omega))
    refine wpAny_pure ⟨plainId_quiet ud_plain _, upd_loopT (items := items) hh hlI hSI hSl rest (i + 1) (stored acc q.1 q.2) (ix + 1) 0 _ (show items.size = i + 1 + rest.length by omega) ?_ (fun j q' e => ?_) ?_ ?_ hm2 fun h' tk hd' k => ?_⟩
    · have z := stored_length_le acc q.1 q.2
      omega
    · obtain ⟨b', u', hb', hbS', hbI', htup', hk'⟩ := ht (j + 1) q' (by simpa using e)
      refine ⟨b', u', ?_, hbS', hbI', (htup'.extBut hs1.extBut hbI').extBut hs2.extBut hbS', hk'⟩
      rw [show i + 1 + j = i + (j + 1) by omega]
      exact hb'
    · exact hit1.extBut hs2.extBut (Ne.symm hSI)
    · exact hl1.extBut hs2.extBut (Ne.symm hSl)
    · exact hR h' tk hd' fun c oc h3 h4 e => k c oc h3 h4 (hs2.extBut c oc h3 (hs1.extBut c oc h4 e))

/-- dict(l) of a list of pairs -/
theorem call_dict_pairsT {s : Shared} {l : Addr} {ol : Obj} {items : Array Value} {n : Nat} {prs : List (Key × Value)} {Q : Value → Shared → Prop} (hh : A.handled = none) (hl : s.heap.get? l = some ol) (hc : ol.cls = .type "tuple") (hd : ol.dict = none)
    (hdat : ol.data = .seq items n) (hsz : items.size = prs.length) (hln : prs.length ≤ sizeLine)
    (ht : ∀ (j : Nat) (q : Key × Value), prs[j]? = some q → ∃ (b : Addr) (u : Value), items[j]? = some (.ref b) ∧ IsTup s.heap b #[u, q.2] ∧ keyIs q.1 u = true)
    (h : ∀ h' tk, h'.DictOf (mixKind prog w) s.heap.objs.size (merged [] prs) → (∀ b o, s.heap.get? b = some o → h'.get? b = some o) → Q (.ref s.heap.objs.size) { s with heap := h', toks := tk }) :
    wpAny (model prog w) A (call (.type "dict") [.ref l]) Q E s := by
  refine callType_codes (Q₁ := fun obj s₁ => obj = .ref s.heap.objs.size ∧ s₁ = { s with heap := s.heap.push { cls := .type "dict", data := .dict #[] } }) PySem.F.kt_called_dict (PySem.F.kt_typeCall_dict_1 _) PySem.F.entry_dict_init (kt_code_dict_new _ ⟨rfl, rfl⟩) ?_
  rintro obj s₁ ⟨rfl, rfl⟩
  have hnew : (s.heap.push { cls := .type "dict", data := .dict #[] }).DictOf (mixKind prog w) s.heap.objs.size [] := Heap.DictOf.new s.heap
  have k0 : ∀ b o, s.heap.get? b = some o → (s.heap.push { cls := .type "dict", data := .dict #[] }).get? b = some o := fun b o e => Heap.get?_push_of_some _ e
  refine ⟨hnew.typeIs, PySem.F.args_dict_init_2 _ _, ?_⟩
  unfold Builtin.«dict.__init__»
  refine wpAny_bind ?_
  unfold Builtin.Dict.selfAndRest
  refine wpAny_bind (wpAny_notOrdered_dict hnew.typeIs ?_)
  show wpAny _ _ (pure (s.heap.objs.size, [Value.ref l])) _ _ _
  refine wpAny_pure ?_
  show wpAny _ _ (Builtin.Dict.updateFrom "dict.__init__" s.heap.objs.size (.ref l) [] .none) _ _ _
  unfold Builtin.Dict.updateFrom
  refine wpAny_bind (wpAny_typeOf (T := "tuple") ⟨ol, k0 _ _ hl, hc⟩ ?_)
  rw [if_pos (by first | decide | rfl | simp)]
  refine wpAny_bind (miss_tupK (k0 _ _ hl) hc hdat hd hh fun h1 tk1 hk1 => ?_)
  rw [if_pos (show (none : Option Value).isNone = true from rfl)]
  refine wpAny_bind (wpAny_rule ?_)
  have hl1 : h1.IsTuple l items := ⟨ol, hk1 _ _ (k0 _ _ hl), hc, n, hdat⟩
  have hS1 : s.heap.objs.size < h1.objs.size := by
    have e : (s.heap.push { cls := .type "dict", data := .dict #[] }).get? s.heap.objs.size = some { cls := .type "dict", data := .dict #[] } := Heap.get?_push_size _ rfl
    exact Heap.lt_size (hk1 _ _ e)
  refine wpAny_bind (wpAny_pyIter_tuple hl1 ?_)
  have k2 : ∀ b o, h1.get? b = some o → (h1.push { cls := .type "tuple_iterator", data := .fields #[.ref l, .int 0 0] }).get? b = some o := fun b o e => Heap.get?_push_of_some _ e
  have hlt : l < s.heap.objs.size := Heap.lt_size hl
  have key := upd_loopT (prog := prog) (w := w) (A := A.in1) (R := wants (fun r s₂ => r = .none ∧ Q (.ref s.heap.objs.size) s₂) E) (S := s.heap.objs.size) (I := h1.objs.size) (l := l) (items := items) (res := Value.none) hh
    (Nat.ne_of_lt (Nat.lt_trans hlt hS1)) (Nat.ne_of_lt hS1) (Nat.ne_of_gt hlt) prs 0 [] 0 0
    { s with heap := h1.push { cls := .type "tuple_iterator", data := .fields #[.ref l, .int 0 0] }, toks := tk1 } (by rw [hsz, Nat.zero_add]) (by rw [List.length_nil, Nat.zero_add]; exact hln)
    (fun j q e => by
      obtain ⟨b, u, e1, e2, e3⟩ := ht j q e
      have hb : b < s.heap.objs.size := e2.lt
      exact ⟨b, u, by rw [Nat.zero_add]; exact e1, Nat.ne_of_lt hb, Nat.ne_of_lt (Nat.lt_trans hb hS1), e2.keeps fun c o z => k2 _ _ (hk1 _ _ (k0 _ _ z)), e3⟩)
    ⟨_, Heap.get?_push_size _ rfl, rfl, rfl⟩ (hl1.elim fun o z => ⟨o, k2 _ _ z.1, z.2⟩) ((hnew.at fun o e => hk1 _ _ e).at fun o e => k2 _ _ e)
    (fun h' tk hd' k => ⟨rfl, h h' tk hd' fun b o e => k b o (Nat.ne_of_lt (Heap.lt_size e)) (Nat.ne_of_lt (Nat.lt_trans (Heap.lt_size e) hS1)) (k2 _ _ (hk1 _ _ (k0 _ _ e)))⟩)
  first
    | exact wpAny_pure ⟨plainId_quiet ud_plain _, key⟩
    | exact wpAny_bind (wpAny_pure (wpAny_pure ⟨plainId_quiet ud_plain _, key⟩))
end
end M
namespace M
open PySem PySem.Spec L2 PyProof.Rows
/-! ### text * int -/
def strRep (x : Str) (n : Int) : Str := ⟨((List.replicate n.toNat x.cps.toList).flatten).toArray⟩
noncomputable def dMulS : D → D → Option D
  | .str x, .int n => if n ≤ 1000 ∧ -1000 ≤ n ∧ x.length ≤ 1000 then some (.str (strRep x n)) else none
  | d, e => dMul d e
def rMulS (K : PySem.W.Frag) : R2 := fun x y H Q => rMulM K x y H Q ∨ ∃ z n, x = .str z ∧ y = .int n ∧ n ≤ 1000 ∧ -1000 ≤ n ∧ z.length ≤ 1000 ∧ Q (.str (strRep z n)) H
theorem foldl_cps (x : Array Nat) : ∀ (n : Nat) (a : Array Nat), (List.replicate n x).foldl (· ++ ·) a = a ++ ((List.replicate n x.toList).flatten).toArray
  | 0, a => by simp
  | n + 1, a => by
    rw [List.replicate_succ, List.foldl_cons, foldl_cps x n, List.replicate_succ, List.flatten_cons]
    apply Array.ext'
    simp
theorem strRep_len (x : Str) (n : Int) : (strRep x n).length = n.toNat * x.length := by
  show ((List.replicate n.toNat x.cps.toList).flatten).toArray.size = _
  rw [List.size_toArray, PyProof.Rows.lm_len_rep_flat]
  rfl
section
variable {G : Wd} {X : Cx}
theorem op_mulS : OpR X (binaryOp .Mult) (rMulS X.K) := by
  intro pins s σ H x y v u Q I rx ry h
  rcases h with h | ⟨z, n, rfl, rfl, h1, h2, h3, q⟩
  · exact op_mulM pins s σ H x y v u Q I rx ry h
  obtain ⟨t, rfl⟩ := rx
  obtain ⟨k, rfl⟩ := ry
  have hz : (z.length : Int) ≤ 1000 := by omega
  refine P.mul_str (by rw [decide_eq_false (by omega), decide_eq_false (by omega)]; rfl) (fun hn _ => ?_) (fun hn _ => ?_) ?_
  · have : (1000 : Int) ≤ (2 ^ 63 - 1) / n := (Int.le_ediv_iff_mul_le (by omega)).mpr (by omega)
    omega
  · unfold Builtin.Str.tooLong
    have a1 : z.length * n.toNat ≤ 1000 * 1000 := Nat.mul_le_mul h3 (by omega)
    have a2 := sizeLine_eq
    first
      | (rw [decide_eq_false (by omega)])
      | (simp only [decide_eq_false_iff_not]; omega)
  · by_cases hn : n < 1
    · rw [if_pos hn]
      refine ⟨by rw [sizeLine_eq]; exact Nat.zero_le _, .str Str.empty, H, I.tok _, ⟨_, rfl⟩, ?_⟩
      have e : strRep z n = Str.empty := by
        unfold strRep
        rw [show n.toNat = 0 by omega]
        rfl
      rw [e] at q
      exact q
    · rw [if_neg hn]
      by_cases h4 : (n == 1 || z.length == 0) = true
      · rw [if_pos h4]
        refine ⟨.str z, H, I, ⟨_, rfl⟩, ?_⟩
        have e : strRep z n = z := by
          unfold strRep
          obtain ⟨c⟩ := z
          congr 1
          simp only [Bool.or_eq_true, beq_iff_eq] at h4
          rcases h4 with h4 | h4
          · rw [show n.toNat = 1 by omega]
            simp
          · have hc : c = #[] := Array.eq_empty_of_size_eq_zero h4
            subst hc
            simp
        rw [e] at q
        exact q
      · rw [if_neg h4]
        have e : strRep z n = ⟨(List.replicate n.toNat z.cps).foldl (· ++ ·) #[]⟩ := by
          unfold strRep
          rw [foldl_cps]
          simp
        refine ⟨?_, .str (strRep z n), H, I.tok _, ⟨_, by rw [e]⟩, q⟩
        rw [← e, strRep_len]
        have a1 : n.toNat * z.length ≤ 1000 * 1000 := Nat.mul_le_mul (by omega) h3
        have a2 := sizeLine_eq
        omega
theorem sim_mulS (hK : G.K = X.K) : Sim2 G dMulS (rMulS X.K) := fun Z H d e x y z Q i rx ry h q => by
  unfold dMulS at h
  split at h
  · split at h
    · rename_i hc
      cases h
      exact .inr ⟨_, _, rx.str', ry.int', hc.1, hc.2.1, hc.2.2, q _ H (Same.refl H) (.str _)⟩
    · cases h
  · exact .inl (sim_mul hK Z H _ _ x y z Q i rx ry h q)
/-! ### dict(t) -/
def pairD : D → Option (D × D)
  | .tup [k, v] => (kOf k).map fun _ => (k, v)
  | _ => none
def pairsD : List D → Option (List (D × D))
  | [] => some []
  | d :: ds => match pairD d with | some p => (pairsD ds).map (p :: ·) | none => none
def dTupleX : D → Option D
  | .lst ds => some (.tupX ds) | _ => none
def dDictX : D → Option D
  | .tupX ds => (pairsD ds).map fun l => .dic (l.foldl (fun acc p => putD acc p.1 p.2) [])
  | _ => none
def rTupX (K : PySem.W.Frag) : List V → Hp → VK → Prop := fun xs H Q => ∃ p ys, xs = [.ref p] ∧ SqL K H p ys ∧ ∀ l od, H l = none → od.cls = .type "tuple" → od.dict = none → Q (.ref l) (upd H l (.frz od (.tup ys)))
theorem call_tupleX : CallR X (.type "tuple") (rTupX X.K) := by
  intro pins s σ H xs us Q I r h
  obtain ⟨p, ys, rfl, hq, q⟩ := h
  obtain ⟨u, rfl, rx⟩ := vals1 r
  cases rx
  obtain ⟨its, r', pl, hz⟩ := I.list hq
  have hlen := r'.length
  refine call_tuple_list pl.isList (fun h' kp => ?_) (by simp only [List.size_toArray] <;> omega)
  have I1 : Inv X pins σ H { s with heap := h' } := I.kept (t' := s.toks) kp
  have I2 : Inv X pins σ (upd H h'.objs.size (.frz { cls := .type "tuple", data := .seq its.toArray } (.tup ys))) { s with heap := h'.push { cls := .type "tuple", data := .seq its.toArray } } :=
    I1.laid (t' := s.toks) (fun b o e => Heap.get?_push_of_some _ e) (Nat.le_refl _) (show ObjOk X.prog X.w _ _ _ (.frz _ (.tup ys)) from ⟨Heap.get?_push_size _ rfl, hz, its, r', IsTup.new _ _⟩)
  exact ⟨.ref h'.objs.size, _, I2, rfl, q _ _ (I1.hok.fresh (Nat.le_refl _)) rfl rfl⟩
theorem sim_tupleX (hK : G.K = X.K) : SimC G dTupleX (rTupX X.K) := fun Z H d x z Q i rx h q => by
  unfold dTupleX at h
  split at h
  · cases h
    obtain ⟨a, vs, rfl, ha, ra⟩ := rx.list
    refine ⟨a, vs, rfl, .inl ha, fun l od hl h1 h2 => ?_⟩
    have sm : Same H (upd H l (.frz od (.tup vs))) := same_new hl
    exact q _ _ sm (.tupX upd_same h1 h2 (i.not hl) (ra.mono (Same.keeps sm)))
  · cases h
def rDictX (K : PySem.W.Frag) : List V → Hp → VK → Prop := fun xs H Q => ∃ (a : Addr) (od : Obj) (ps : List Addr) (kvs : List (Key × V)), xs = [.ref a] ∧ H a = some (.frz od (.tup (ps.map V.ref))) ∧ od.cls = .type "tuple" ∧ od.dict = none ∧ Paired (fun p kv => SqT K H p [kV kv.1, kv.2]) ps kvs ∧
    ∀ p, H p = none → Q (.ref p) (upd H p (.dK (mergeK [] kvs)))
theorem call_dictX (hcalm : X.calm = true) : CallR X (.type "dict") (rDictX X.K) := by
  intro pins s σ H xs us Q I r q
  obtain ⟨a, od, ps, kvs, ex, hq, hc, hd, hp, q⟩ := q
  subst ex
  obtain ⟨u, eu, rx⟩ := vals1 r
  subst eu
  cases rx
  obtain ⟨ho, hz, its, rv, o2, ho2, hc2, n, hdat⟩ := I.hok a _ hq
  rw [ho] at ho2
  cases ho2
  have ei := refs_at rv
  subst ei
  rw [List.length_map] at hz
  obtain ⟨prs, rel, hl, hpr⟩ := pairs_of I hp
  refine call_dict_pairsT (prs := prs) (I.ok.hd hcalm) ho hc hd hdat (by simp [hl]) (by rw [hl]; exact hz) (fun j q' e => ?_) fun h' tk hd' k => ?_
  · obtain ⟨b, u, e1, e2, e3⟩ := hpr j q' e
    exact ⟨b, u, by simp [e1], e2, e3⟩
  · have hm : (s.heap.objs.size == sysModules) = false := beq_eq_false_iff_ne.mpr (Nat.ne_of_gt I.big)
    have hlen : (mergeK [] kvs).length ≤ sizeLine := by
      refine Nat.le_trans (length_mergeK kvs []) ?_
      rw [List.length_nil, Nat.zero_add, rel.length, hl]
      exact hz
    exact ⟨.ref s.heap.objs.size, upd H s.heap.objs.size (.dK (mergeK [] kvs)), I.laid (t' := tk) k (Nat.le_refl _) (show ObjOk X.prog X.w _ _ _ (.dK (mergeK [] kvs)) from ⟨hlen, hm, merged [] prs, KV.merge rel .nil, hd'⟩), rfl, q _ (I.hok.fresh (Nat.le_refl _))⟩
theorem pairs_rep {Z : Zone} {H : Hp} (hK : G.K = X.K) : ∀ {ds : List D} {vs : List V} {l : List (D × D)}, Reps G Z H ds vs → pairsD ds = some l → ∃ (ps : List Addr) (kvs : List (Key × V)), vs = ps.map V.ref ∧ Paired (fun p kv => SqT X.K H p [kV kv.1, kv.2]) ps kvs ∧ RepK G Z H l kvs
  | [], _, _, .nil, h => by cases h; exact ⟨[], [], rfl, .nil, .nil⟩
  | d :: ds, _, _, .cons r t, h => by
    unfold pairsD at h
    split at h
    · rename_i p hp
      obtain ⟨l', hl', rfl⟩ := Option.map_eq_some_iff.mp h
      obtain ⟨ps, kvs, rfl, h1, h2⟩ := pairs_rep hK t hl'
      unfold pairD at hp
      split at hp
      · rename_i k v
        obtain ⟨κ, hk, rfl⟩ := Option.map_eq_some_iff.mp hp
        obtain ⟨a, ws, rfl, ha, rw_⟩ := r.tup'
        cases rw_ with
        | cons r1 t1 => cases t1 with
          | cons r2 t2 =>
            cases t2
            have e1 := rep_kOf r1 hk
            subst e1
            exact ⟨a :: ps, (κ, _) :: kvs, rfl, .cons (hK ▸ ha) h1, RepK.mk (p := (k, v)) hk r2 h2⟩
      · cases hp
    · cases h
theorem merge_rep {Z : Zone} {H : Hp} : ∀ {l : List (D × D)} {kvs : List (Key × V)} {acc : List (D × D)} {accv : List (Key × V)}, RepK G Z H l kvs → RepK G Z H acc accv → RepK G Z H (l.foldl (fun acc p => putD acc p.1 p.2) acc) (mergeK accv kvs)
  | [], [], _, _, _, h => h
  | [], _ :: _, _, _, r, _ => nomatch r
  | _ :: _, [], _, _, r, _ => nomatch r
  | p :: l, q :: kvs, acc, accv, r, h => by
    obtain ⟨h1, h2, h3⟩ := r.cons'
    exact merge_rep (acc := putD acc p.1 p.2) (accv := putK accv q.1 q.2) h3 (h.put h1 h2)
theorem sim_dictX (hK : G.K = X.K) : SimC G dDictX (rDictX X.K) := fun Z H d x z Q i rx h q => by
  unfold dDictX at h
  split at h
  · rename_i ds
    obtain ⟨l, hl, rfl⟩ := Option.map_eq_some_iff.mp h
    cases rx with
    | rep rx =>
      cases rx with
      | tupX e c n z r =>
        obtain ⟨ps, kvs, rfl, h1, h2⟩ := pairs_rep hK r hl
        refine ⟨_, _, ps, kvs, rfl, e, c, n, h1, fun p hp => ?_⟩
        have sm : Same H (upd H p (.dK (mergeK [] kvs))) := same_new hp
        exact q _ _ sm (.dK (.inl upd_same) (i.not hp) ((merge_rep h2 .nil).mono (Same.keeps sm)))
  · cases h
end
end M
namespace M
open PySem PySem.Spec L2
/-! ### the order of sorted -/
theorem leD_trans (a b c : D) (h1 : leD a b = true) (h2 : leD b c = true) : leD a c = true := by
  unfold leD PySem.W.dataLt at *
  simp only [Bool.not_eq_true'] at *
  cases h : PyProof.Rows.lexLt PyProof.Rows.itemOrd (PySem.W.keyToks c.py) (PySem.W.keyToks a.py) with
  | false => rfl
  | true =>
    rcases PyProof.Rows.lex_negTrans _ (PySem.W.keyToks b.py) _ h with h | h
    · rw [h] at h2; cases h2
    · rw [h] at h1; cases h1
theorem leD_total (a b : D) : (leD a b || leD b a) = true := by
  unfold leD PySem.W.dataLt
  cases h : PyProof.Rows.lexLt PyProof.Rows.itemOrd (PySem.W.keyToks b.py) (PySem.W.keyToks a.py) with
  | false => rfl
  | true =>
    cases h2 : PyProof.Rows.lexLt PyProof.Rows.itemOrd (PySem.W.keyToks a.py) (PySem.W.keyToks b.py) with
    | false => rfl
    | true =>
      have := PyProof.Rows.lex_trans _ _ _ h h2
      rw [PyProof.Rows.lex_irrefl] at this
      cases this
theorem leD_toks {a b : D} (h1 : leD a b = true) (h2 : leD b a = true) : PySem.W.keyToks a.py = PySem.W.keyToks b.py := by
  unfold leD PySem.W.dataLt at *
  simp only [Bool.not_eq_true'] at *
  exact PyProof.Rows.lex_total _ _ h2 h1
theorem leD_str (x y : Str) : leD (.str x) (.str y) = !decide (y.cps.toList < x.cps.toList) := by
  unfold leD D.py PySem.W.dataLt PySem.W.keyToks
  rw [PySem.W.lex_one]
  show (!PyProof.Rows.itemLt (.inr _) (.inr _)) = _
  first
    | rfl
    | (congr 1; exact PyProof.Rows.ltCps_eq _ _)
theorem leD_int (i j : Int) : leD (.int i) (.int j) = decide (i ≤ j) := by
  unfold leD D.py PySem.W.dataLt PySem.W.keyToks
  rw [PySem.W.lex_one]
  show (!decide (j < i)) = _
  rw [Bool.eq_iff_iff]
  simp
noncomputable def sortD (ds : List D) : List D := ds.mergeSort leD
theorem sortD_perm (ds : List D) : (sortD ds).Perm ds := List.mergeSort_perm _ _
theorem sortD_sorted (ds : List D) : (sortD ds).Pairwise fun a b => leD a b = true := List.pairwise_mergeSort leD_trans leD_total ds
theorem sortD_len (ds : List D) : (sortD ds).length = ds.length := (sortD_perm ds).length_eq
theorem sortD_uniq {a b : List D} (p : a.Perm b) (ha : a.Pairwise fun a b => leD a b = true) (hinj : ∀ x ∈ b, ∀ y ∈ b, PySem.W.keyToks x.py = PySem.W.keyToks y.py → x = y) : a = sortD b :=
  List.Perm.eq_of_pairwise (fun x y hx hy h1 h2 => hinj x (p.mem_iff.mp hx) y ((sortD_perm b).mem_iff.mp hy) (leD_toks h1 h2)) ha (sortD_sorted b) (p.trans (sortD_perm b).symm)
theorem toks_str {x y : Str} (h : PySem.W.keyToks (D.str x).py = PySem.W.keyToks (D.str y).py) : x = y := by
  unfold D.py PySem.W.keyToks at h
  exact PySem.W.str_of_cps (by simpa using h)
theorem toks_int {x y : Int} (h : PySem.W.keyToks (D.int x).py = PySem.W.keyToks (D.int y).py) : x = y := by
  unfold D.py PySem.W.keyToks at h
  simpa using h
theorem sorted_ints {ns : List Int} {l : List Int} (p : ns.Perm l) (h : ns.Pairwise (· ≤ ·)) : ns.map D.int = sortD (l.map D.int) := by
  refine sortD_uniq (p.map _) ?_ fun x hx y hy e => ?_
  · rw [List.pairwise_map]
    exact h.imp fun {a b} h => by rw [leD_int]; exact decide_eq_true h
  · obtain ⟨i, _, rfl⟩ := List.mem_map.mp hx
    obtain ⟨j, _, rfl⟩ := List.mem_map.mp hy
    rw [toks_int e]
theorem risingS_all : ∀ (ss : List Str) (x : Str), PyProof.Rows.risingS x ss = true → (x :: ss).Pairwise fun a b => leD (.str a) (.str b) = true
  | [], x, _ => by simp
  | y :: r, x, h => by
    unfold PyProof.Rows.risingS at h
    rw [Bool.and_eq_true] at h
    have ih := risingS_all r y h.2
    have hxy : leD (.str x) (.str y) = true := by
      rw [leD_str, ← PyProof.Rows.ltCps_eq]
      exact h.1
    refine List.pairwise_cons.mpr ⟨fun z hz => ?_, ih⟩
    rcases List.mem_cons.mp hz with rfl | hz
    · exact hxy
    · exact leD_trans _ _ _ hxy ((List.pairwise_cons.mp ih).1 z hz)
theorem sortedS_all {ss : List Str} (h : PyProof.Rows.sortedS ss = true) : ss.Pairwise fun a b => leD (.str a) (.str b) = true := by
  cases ss with
  | nil => exact .nil
  | cons x r => exact risingS_all r x h
theorem sorted_strs {ns : List Str} {l : List Str} (p : ns.Perm l) (h : PyProof.Rows.sortedS ns = true) : ns.map D.str = sortD (l.map D.str) := by
  refine sortD_uniq (p.map _) ?_ fun x hx y hy e => ?_
  · rw [List.pairwise_map]
    exact sortedS_all h
  · obtain ⟨i, _, rfl⟩ := List.mem_map.mp hx
    obtain ⟨j, _, rfl⟩ := List.mem_map.mp hy
    rw [toks_str e]
/-! ### sorted({..}) -/
def toKI : D → Option Int | .int i => some i | _ => none
def toKS : D → Option Str | .str i => some i | _ => none
noncomputable def finI (l : List Int) : Option D := some (.lst (sortD (l.map D.int)))
noncomputable def finS (l : List Str) : Option D := some (.lst (sortD (l.map D.str)))
section
variable {G : Wd} {W : WX} {X : Cx} {pos cpos p : Pos}
theorem hT_int (Z : Zone) (H : Hp) (d : D) (v : V) (k : Int) (r : Rep G Z H d v) (h : toKI d = some k) : v = V.int k := by
  unfold toKI at h
  split at h
  · cases h; exact r.int'
  · cases h
theorem hT_str (Z : Zone) (H : Hp) (d : D) (v : V) (k : Str) (r : Rep G Z H d v) (h : toKS d = some k) : v = V.str k := by
  unfold toKS at h
  split at h
  · cases h; exact r.str'
  · cases h
theorem reps_strs {Z : Zone} {H : Hp} : ∀ ns : List Str, Reps G Z H (ns.map .str) (ns.map V.str)
  | [] => .nil
  | n :: ns => .cons (.str n) (reps_strs ns)
theorem perm_of_mem {α : Type} {a b : List α} [DecidableEq α] (ha : a.Nodup) (hb : b.Nodup) (h : ∀ x, x ∈ a ↔ x ∈ b) : a.Perm b :=
  (List.perm_ext_iff_of_nodup ha hb).mpr h
theorem setR2_int : SetR2 (setInt X.prog X.w) G finI (rSortedSet X.w) := fun H p (l : List Int) d Q hp hl nd hf q => by
  unfold finI at hf
  cases hf
  refine ⟨p, fun k => decide (k ∈ l), l.length, rfl, hp, hl, fun ns b hs hm hlen hb => ?_⟩
  have pm : ns.Perm l := perm_of_mem (hs.imp fun {a b} h => by omega) nd fun x => by rw [hm x]; simp
  refine q _ _ (same_new hb) fun Z i => ?_
  rw [← sorted_ints pm (hs.imp fun {a b} h => by omega)]
  exact new_lst i (reps_ints _) hb
theorem setR2_str : SetR2 (setStr X.prog X.w) G finS (rSortedStr X.prog X.w) := fun H p (l : List Str) d Q hp hl nd hf q => by
  unfold finS at hf
  cases hf
  refine ⟨p, l, rfl, hp, hl, fun ys b pm hs hb => ?_⟩
  refine q _ _ (same_new hb) fun Z i => ?_
  rw [← sorted_strs pm hs]
  exact new_lst i (reps_strs _) hb
theorem me_setThen (J : SetI X.prog X.w) {x : Str} {id : String} {toK : D → Option J.κ} (hT : ∀ (Z : Zone) (H : Hp) (d : D) (v : V) (k : J.κ), Rep G Z H d v → toK d = some k → v = J.enc k) {fin : List J.κ → Option D} {r : List V → Hp → VK → Prop} (hr : SetR2 J G fin r) (hcall : CallR X (.builtin id) r)
    {elt tg iter : Expr} {ifs : List Expr} {scope : Scope} {own : List (Str × Nat)} {fi : DenL} {gm : GD} {ft : DenB} {fe : Den} {g : TG} (hc : X.calm = true) (hN : X.N.Nodup) (hi : MI G W X tg iter fi) (ok : BlkOk X.N X.env.scope scope own) (hsim : GSim G g gm (own.map (·.2)))
    (hg : ∀ (s : Shared) (H : Hp) (C : Addr) (cl : List (Str × Addr)) (fp : List Addr), PG (X.blk s H scope (compEnvC scope cl C X.env) fp) tg g) (ht : ∀ (s : Shared) (H : Hp) (C : Addr) (cl : List (Str × Addr)) (fp : List Addr), MTs G W0 (X.blk s H scope (compEnvC scope cl C X.env) fp) ifs ft)
    (he : ∀ (s : Shared) (H : Hp) (C : Addr) (cl : List (Str × Addr)) (fp : List Addr), ME G W0 (X.blk s H scope (compEnvC scope cl C X.env) fp) elt fe)
    (hm : X.mg x = none) (hv : bootBuiltins x = some (.builtin id)) (hgl : Gl X x := by rfl) (hs : ∀ x, foldedSetIterable iter X.env x = pure x := by intro _; rfl) (hn : x ≠ "__name__" := by decide) (hdb : (x == ("__debug__" : Str)) = false := by decide)
    (hst : starEach [.SetComp elt [⟨tg, iter, ifs, 0⟩] scope pos] X.env = (false, eval (.SetComp elt [⟨tg, iter, ifs, 0⟩] scope pos) X.env) :: starEach [] X.env := by rfl) (hpl : (backTo cpos (starEach [] X.env)).any (·.1) = false := by rfl) :
    ME G W X (.Call (.Name x p) [.SetComp elt [⟨tg, iter, ifs, 0⟩] scope pos] [] cpos) (eSetThen toK fin fi gm ft fe (own.map (·.2))) :=
  PE.imp (pe_callB hcall hgl hm hv (pa_cons (pe_scI J hc hN hi ok hg ht he hs) pa_nil hst) hn hdb hst hpl) fun σ H Q q => setM_core J hT hr hsim q
end
end M
namespace M
open PySem PySem.Spec L2
theorem hu1 {k : Nat} {A : Around} (r : Room k A) : A.units + 1 < cLine := by have := r.un; omega
theorem hu67 {k : Nat} {A : Around} (r : Room k A) : A.units + 67 < cLine := by have := r.un; omega
theorem simC_of {G : Wd} {g : D → Option D} {r : List V → Hp → VK → Prop} (h : Sim1 G g (fun x H Q => r [x] H Q)) : SimC G g r := h
/-! ### x += e -/
def dIAdd : D → D → Option D
  | .int i, .int j => some (.int (i + j)) | _, _ => none
def dISub : D → D → Option D
  | .int i, .int j => some (.int (i - j)) | _, _ => none
theorem sim_iadd {G : Wd} : Sim2 G dIAdd (rI0 fun i j => .int (i + j)) := fun Z H d e x y z Q i rx ry h q => by
  unfold dIAdd at h
  split at h
  · cases h
    exact ⟨_, _, rx.int', ry.int', q _ H (Same.refl H) (.int _)⟩
  · cases h
theorem sim_isub {G : Wd} : Sim2 G dISub (rI0 fun i j => .int (i - j)) := fun Z H d e x y z Q i rx ry h q => by
  unfold dISub at h
  split at h
  · cases h
    exact ⟨_, _, rx.int', ry.int', q _ H (Same.refl H) (.int _)⟩
  · cases h
section
variable {G : Wd} {W : WX} {X : Cx}
theorem mt_cmpT {op : CmpOp} {r : R2} {a b : Expr} {f h : Den} {pos : Pos} {g : D → D → Option D} (ho : OpR X (compareOp op) r) (s : SimKt G g r) (ha : MKt G W X a f) (hb : MV G W X b h) (hm : behindInMarks op b = false) : MT G W X (.Compare a [op] [b] pos) (eB (eOp2 g f h)) :=
  PT.imp (pt_cmpR ho ha hb hm) fun σ H Q q => two_kt s (toB q)
end
end M
namespace M
open PySem PySem.Spec L2 PyProof.Rows
section
variable {G : Wd} {W : WX} {X : Cx} {pos cpos p : Pos} {Z : Zone} {H : Hp}
/-! ### sorted(a dict whose keys are texts), list(a dict) -/
def strKeys : List (D × D) → Option (List Str)
  | [] => some []
  | p :: r => match p.1 with | .str i => (strKeys r).map fun l => i :: l | _ => none
noncomputable def dSortedS : D → Option D
  | .dic kvs => (match strKeys kvs with | some l => if l.length < 64 then some (.lst (sortD (l.map .str))) else none | none => none)
  | _ => none
theorem strKeys_rep : ∀ {ds : List (D × D)} {vs : List (Key × V)} {l : List Str}, RepK G Z H ds vs → strKeys ds = some l → vs.map (·.1) = l.map Sum.inr
  | [], [], _, _, h => by cases h; rfl
  | [], _ :: _, _, h, _ => by cases h
  | _ :: _, [], _, h, _ => by cases h
  | p :: ds, q :: vs, l, h, e => by
    obtain ⟨h1, _, h3⟩ := h.cons'
    unfold strKeys at e
    split at e
    · rename_i i hi
      obtain ⟨l', e1, rfl⟩ := Option.map_eq_some_iff.mp e
      rw [hi] at h1
      have : q.1 = .inr i := (Option.some.inj h1).symm
      rw [List.map_cons, List.map_cons, this, strKeys_rep h3 e1]
    · cases e
theorem sim_sortedS : SimC G dSortedS (fun xs H Q => ∃ (a : Addr) (kvs : List (Key × V)) (ks : List Str), xs = [.ref a] ∧ Rd H a (.dK kvs) ∧ kvs.map (·.1) = ks.map Sum.inr ∧ ks.length < 64 ∧
    ∀ ys p, ys.Perm ks → sortedS ys = true → H p = none → Q (.ref p) (upd H p (.lst (ys.map V.str)))) := fun Z H d x z Q i rx h q => by
  unfold dSortedS at h
  split at h
  · split at h
    · rename_i l hl
      split at h
      · rename_i h64
        cases h
        obtain ⟨a, kvs, rfl, hd, rk⟩ := rx.dic
        refine ⟨a, kvs, l, rfl, hd, strKeys_rep rk hl, h64, fun ys p hp hs hn => ?_⟩
        have e := sorted_strs hp hs
        refine q _ _ (same_new hn) ?_
        rw [← e]
        exact new_lst i (reps_strs _) hn
      · cases h
    · cases h
  · cases h
def dListK : D → Option D
  | .dic kvs => some (.lst (kvs.map (·.1))) | _ => none
theorem keys_rep : ∀ {ds : List (D × D)} {vs : List (Key × V)}, RepK G Z H ds vs → Reps G Z H (ds.map (·.1)) (vs.map fun kv => kV kv.1)
  | _, _, .nil => .nil
  | _, _, .int _ t => .cons (.int _) (keys_rep t)
  | _, _, .str _ t => .cons (.str _) (keys_rep t)
theorem sim_listK : SimC G dListK (fun xs H Q => ∃ (a : Addr) (kvs : List (Key × V)), xs = [.ref a] ∧ Rd H a (.dK kvs) ∧ ∀ p, H p = none → Q (.ref p) (upd H p (.lst (kvs.map fun kv => kV kv.1)))) := fun Z H d x z Q i rx h q => by
  unfold dListK at h
  split at h
  · cases h
    obtain ⟨a, kvs, rfl, hd, rk⟩ := rx.dic
    exact ⟨a, kvs, rfl, hd, fun p hn => q _ _ (same_new hn) (new_lst i (keys_rep rk) hn)⟩
  · cases h
/-! ### d.get(k, x), d one's own -/
@[simp] def eGet2P (i : Nat) (fk fx : Den) : Den := fun ρ st => (eVarB i ρ st).bind fun d st => match d with
  | .dic _ => (fk ρ st).bind fun k st => (fx ρ st).bind fun x st => (eVarB i ρ st).bind fun d st => (match d with
    | .dic kvs => (match kOf k with | some _ => .ok ((lookD kvs k).getD x) st | none => .stuck)
    | _ => .stuck)
  | _ => .stuck
theorem me_get2P {x : Str} {i : Nat} {a b : Expr} {fk fx : Den} {apos cpos : Pos} (hu : X.A.units + 1 < cLine) (ho : PE X (.Name x p) (tVar i)) (ha : ME G W X a fk) (hb : ME G W X b fx)
    (m : M2 X (.Name x p) "get" apos a b cpos := by exact ⟨by rfl, by rfl, by rfl, by rfl⟩) : ME G W X (.Call (.Attribute (.Name x p) "get" apos) [a, b] [] cpos) (eGet2P i fk fx) :=
  PE.imp (pe_dget2 hu ho ha hb m) fun σ H Q q => by
    obtain ⟨Z, ρ, st, L, S, q⟩ := q
    unfold eGet2P at q
    cases e0 : eVarB i ρ st with
    | stuck => rw [e0] at q; exact q.elim
    | exc c fs st3 => exact (varB_exc e0).elim
    | ok d0 st0 =>
      rw [e0] at q
      obtain ⟨rfl, v, ev, w⟩ := varB S e0
      cases d0 with
      | dic kvs0 =>
        obtain ⟨a0, vs0, rfl, hd0, rk0⟩ := w.dic
        refine ⟨_, ev, a0, rfl, .inl ⟨vs0, hd0⟩, Z, ρ, _, L, S, PostR.bind q fun k st2 y H2 L2 ek f2 o2 r2 q2 => ?_⟩
        refine ⟨Z, ρ, st2, L2, S.to f2 o2, PostR.bind q2 fun x st3 z H3 L3 ex f3 o3 r3 q3 => ?_⟩
        have S3 := (S.to f2 o2).to f3 o3
        cases e1 : eVarB i ρ st3 with
        | stuck => rw [e1] at q3; exact q3.elim
        | exc c fs st4 => exact (varB_exc e1).elim
        | ok d st4 =>
          rw [e1] at q3
          obtain ⟨rfl, v', ev', w'⟩ := varB S3 e1
          rw [ev] at ev'
          cases ev'
          cases d with
          | dic kvs =>
            obtain ⟨a', vs, ea, hd, rk⟩ := w'.dic
            cases ea
            have q3 : PostR G Z W (fun Z H => Rep G Z H) σ L3 _ H3 (match kOf k with | some _ => Res.ok ((lookD kvs k).getD x) _ | none => .stuck) Q := q3
            split at q3
            · rename_i κ hk
              refine ⟨valV vs κ, .inl ⟨vs, κ, hd, rep_kOf r2 hk, rfl⟩, ?_⟩
              exact q3 _ H3 L3 Fw.refl o3 ((rk.look hk).getD r3)
            · exact q3.elim
          | _ => exact q3.elim
      | _ => exact q.elim
/-! ### x.pop(i), x one's own -/
def popAt (o : Option (Nat × List D)) (j : D) (st : Sto) : Res D := match o with
  | some p => (match j with
    | .int z => (match ixN p.2.length z with
      | some k => (match p.2[k]? with | some d => if p.2.length ≤ 1000000 then .ok d (st.set p.1 (.lst (p.2.eraseIdx k))) else .stuck | none => .stuck)
      | none => .stuck)
    | _ => .stuck)
  | none => .stuck
@[simp] def ePopAt (i : Nat) (f : Den) : Den := fun ρ st => match lstAt i ρ st with
  | none => .stuck
  | some _ => (f ρ st).bind fun j st => popAt (lstAt i ρ st) j st
theorem Reps.erase {Z : Zone} {H : Hp} : ∀ {ds : List D} {vs : List V} (k : Nat), Reps G Z H ds vs → Reps G Z H (ds.eraseIdx k) (vs.eraseIdx k)
  | _, _, _, .nil => .nil
  | _, _, 0, .cons _ t => t
  | _, _, k + 1, .cons h t => .cons h (Reps.erase k t)
theorem me_popAt {i : Nat} {f : Den} {x : Str} {e : Expr} {apos : Pos} (hv : PE X (.Name x p) (tVar i)) (he : ME G W X e f)
    (hbase : attributeBase (.Name x p) "pop" X.env (eval (.Name x p) X.env) = eval (.Name x p) X.env := by rfl)
    (hfew : ((backTo cpos (starEach [e] X.env)).all (fun x => !x.1) && (backToKw cpos (keywordEach [] X.env)).all (fun x => x.1.isSome)
      && decide ([e].length + ([] : List Keyword).length + (if ([] : List Keyword).isEmpty then 0 else 1) < 30)) = true := by rfl)
    (hline : (apos.endLine == cpos.line) = true := by rfl) (hst : starEach [e] X.env = (false, eval e X.env) :: starEach [] X.env := by rfl) (hplain : (backTo cpos (starEach [] X.env)).any (·.1) = false := by rfl) :
    ME G W X (.Call (.Attribute (.Name x p) "pop" apos) [e] [] cpos) (ePopAt i f) :=
  PE.imp (pe_bm PySem.F.plainAttrs_list PySem.F.slot_list_pop PySem.F.type_list_pop mt_popAt hv (pa_cons he pa_nil hst) hbase hfew hline hst hplain) fun σ H Q q => by
    obtain ⟨Z, ρ, st, L, S, q⟩ := q
    unfold ePopAt at q
    cases e0 : lstAt i ρ st with
    | none => rw [e0] at q; exact q.elim
    | some pp =>
      rw [e0] at q
      obtain ⟨n, ds⟩ := pp
      obtain ⟨a, vs, ev, e1, e2, h1, h2⟩ := lstAt_some S e0
      refine ⟨.ref a, ev, .inl ⟨rfl, vs, .inl (.inl h1)⟩, Z, ρ, st, L, S, PostR.bind q fun d st1 v H1 L1 ed f1 o1 r1 q1 => ?_⟩
      have S1 := S.to f1 o1
      cases e3 : lstAt i ρ st1 with
      | none => rw [e3] at q1; exact q1.elim
      | some pp =>
        rw [e3] at q1
        obtain ⟨m, ds1⟩ := pp
        obtain ⟨b, ws, ev2, g1, g2, k1, k2⟩ := lstAt_some S1 e3
        rw [ev] at ev2
        cases ev2
        cases d with
        | int z =>
          have q1 : PostR G Z W (fun Z H => Rep G Z H) σ L1 st1 H1 (match ixN ds1.length z with
            | some k => (match ds1[k]? with | some d => if ds1.length ≤ 1000000 then Res.ok d (st1.set m (.lst (ds1.eraseIdx k))) else .stuck | none => .stuck)
            | none => .stuck) Q := q1
          cases ek : ixN ds1.length z with
          | none => rw [ek] at q1; exact q1.elim
          | some k =>
            rw [ek] at q1
            obtain ⟨c1, c2, c3, c4⟩ := ixN_seq ek
            have q1 : PostR G Z W (fun Z H => Rep G Z H) σ L1 st1 H1 (match ds1[k]? with | some d => if ds1.length ≤ 1000000 then Res.ok d (st1.set m (.lst (ds1.eraseIdx k))) else .stuck | none => .stuck) Q := q1
            cases ey : ds1[k]? with
            | none => rw [ey] at q1; exact q1.elim
            | some dd =>
              rw [ey] at q1
              have q1 : PostR G Z W (fun Z H => Rep G Z H) σ L1 st1 H1 (if ds1.length ≤ 1000000 then Res.ok dd (st1.set m (.lst (ds1.eraseIdx k))) else .stuck) Q := q1
              split at q1
              · rename_i hlen
                obtain ⟨y, hy, ry⟩ := k2.get ey
                have hl := k2.length
                have r1 := r1.int'
                subst r1
                refine ⟨a, ws, z, k, y, rfl, rfl, k1, by omega, by omega, by rw [← hl]; exact c1, hy, ?_⟩
                have fws : Keeps (Zof Z L1 st1) (Zof Z L1 (st1.set m (.lst (ds1.eraseIdx k)))) H1 (upd H1 a (.lst (ws.eraseIdx k))) := fun b u e z => by
                  have la : Live L1 st1 a := ⟨m, _, g1, g2, rfl⟩
                  have ne : b ≠ a := fun q => z (.inr (q ▸ la))
                  refine ⟨.of (by rw [upd_ne ne]; exact e), fun q => ?_⟩
                  rcases q with q | ⟨j, u2, j1, j2, j3⟩
                  · exact z (.inl q)
                  · rcases getElem?_set_cases j2 with ⟨rfl, rfl, _⟩ | ⟨_, h⟩
                    · rw [g1] at j1; exact ne (Option.some.inj j1).symm
                    · exact z (.inr ⟨j, u2, j1, h, j3⟩)
                obtain ⟨fw, ok⟩ := wr (o' := .lst (ds1.eraseIdx k)) (ho := .lst (ws.eraseIdx k)) S1.ok g1 g2 rfl ⟨_, upd_same, (k2.mono fws).erase k⟩ rfl
                exact q1 y _ L1 fw ok (ry.mono fws)
              · exact q1.elim
        | _ => exact q1.elim
end
end M
namespace Law
open PySem PySem.Spec L2 M
def topS (i : Nat) : Stmt := PySem.Challenge.pw_craterounds_k22_whole_dues_whatever_come.main.body.getD i (.Pass ⟨0, 0, 0, 0⟩)
def inS (i j : Nat) : Stmt := (C8.clsBody (topS i)).getD j (.Pass ⟨0, 0, 0, 0⟩)
noncomputable def dn__law_taken : FD := dFn 2 4 (sSeq (sIf (eB (eOp2 dGt (eOp2P dIx 0 (eC (.int 3))) (eC (.int 0)))) (sSeq (sSet 3 (eOp2 dMod (eOp1 dInt (eOp2P dIx 0 (eC (.int 3)))) (eVar 1)))
  (sSeq (sSetIx 0 (eC (.int 3)) (eOp2 dFdiv (eOp2P dIx 0 (eC (.int 3))) (eVar 1)))
  (sRet (eVar 3)))) sNil)
  (sSeq (sSetIx 0 (eC (.int 1)) (eOp2 dAdd (eOp2P dIx 0 (eC (.int 1))) (eC (.int 1))))
  (sSeq (sIf (eB (eOp2 dGt (eOp2P dIx 0 (eC (.int 1))) (eOp1 dLen (eOp2P dIx 0 (eC (.int 0)))))) (sSeq (sSetIx 0 (eC (.int 2)) (eOp2 dMod (eOp1 dInt (eOp2 dAdd (eOp2 dMulS (eOp2P dIx 0 (eC (.int 2))) (eC (.int 48271))) (eC (.int 11)))) (eC (.int 2147483647))))
  (sRet (eOp2 dMod (eOp1 dInt (eOp2 dFdiv (eOp2P dIx 0 (eC (.int 2))) (eC (.int 7)))) (eVar 1)))) sNil)
  (sSeq (sSet 2 (eOp2 dIx (eOp2P dIx 0 (eC (.int 0))) (eOp2 dSub (eOp2P dIx 0 (eC (.int 1))) (eC (.int 1)))))
  (sSeq (sSetIx 0 (eC (.int 2)) (eOp2 dMod (eOp1 dInt (eOp2 dAdd (eOp2 dAdd (eOp2 dMulS (eOp2P dIx 0 (eC (.int 2))) (eC (.int 48271))) (eVar 2)) (eC (.int 11)))) (eC (.int 2147483647))))
  (sSeq (sIf (eB (eOp2 dGe (eVar 2) (eOp2 dPow (eC (.int 10)) (eC (.int 18))))) (sSeq (sSetIx 0 (eC (.int 3)) (eOp2 dFdiv (eVar 2) (eVar 1)))
  (sRet (eOp2 dMod (eOp1 dInt (eVar 2)) (eVar 1)))) sNil)
  (sRet (eOp2 dMod (eOp1 dInt (eOp2 dAdd (eOp2 dMulS (eOp2 dMod (eOp1 dInt (eVar 2)) (eC (.int 1000003))) (eC (.int 31))) (eOp2 dFdiv (eOp2P dIx 0 (eC (.int 2))) (eC (.int 11))))) (eVar 1)))))))))
noncomputable def dn__law_names_s1 : SDen := (sSet 2 (eC (.str "abcdefghijklmnopqrstuvwxyz")))
noncomputable def dn__law_names_s2 : SDen := (sPar [7, 8] (aVal (eCallS 2 dn__law_taken (aRef 0 (aVal (eC (.int 26)) aNil))) (aNew (nLst eNil) aNil)))
noncomputable def dn__law_names_s3 : SDen := (sSet 3 (eOp2 dMulS (eOp2 dIx (eVar 2) (eCallS 2 dn__law_taken (aRef 0 (aVal (eC (.int 26)) aNil)))) (eCallS 2 dn__law_taken (aRef 0 (aVal (eC (.int 4)) aNil)))))
noncomputable def dn__law_names_s4 : SDen := (sSet 4 (eOp2 dMulS (eOp2 dIx (eVar 2) (eCallS 2 dn__law_taken (aRef 0 (aVal (eC (.int 26)) aNil)))) (eCallS 2 dn__law_taken (aRef 0 (aVal (eC (.int 4)) aNil)))))
noncomputable def dn__law_names_s5 : SDen := (sSet 5 (eCallS 2 dn__law_taken (aRef 0 (aVal (eC (.int 2)) aNil))))
noncomputable def dn__law_names_s6 : SDen := (sSet 9 (eOp2 dIx (eVar 2) (eOp2 dMod (eOp1 dInt (eOp2 dAdd (eVar 7) (eOp2 dMulS (eC (.int 7)) (eVar 6)))) (eC (.int 26)))))
noncomputable def dn__law_names_s7 : SDen := (sMut1 kApp 8 (eIf (eB (eOp2 dEq (eVar 5) (eC (.int 0)))) (eOp2 dAdd (eOp2 dAdd (eVar 3) (eVar 9)) (eVar 4)) (eOp2 dAdd (eVar 9) (eOp2 dMulS (eOp2 dIx (eVar 2) (eCallS 2 dn__law_taken (aRef 0 (aVal (eC (.int 26)) aNil)))) (eCallS 2 dn__law_taken (aRef 0 (aVal (eC (.int 8)) aNil)))))))
noncomputable def dn__law_names_b1 : SDen := (sSeq dn__law_names_s6
  dn__law_names_s7)
noncomputable def dn__law_names_s8 : SDen := (sFor (iRange1 (eVar 1)) (gN 6) dn__law_names_b1)
noncomputable def dn__law_names : FD := dFn 2 10 (sSeq dn__law_names_s1
  (sSeq dn__law_names_s2
  (sSeq dn__law_names_s3
  (sSeq dn__law_names_s4
  (sSeq dn__law_names_s5
  (sSeq dn__law_names_s8
  (sRet (eVar 8))))))))
noncomputable def dn__law_pick : FD := dFn 2 2 (sRet (eOp2 dIx (eVar 1) (eCallS 2 dn__law_taken (aRef 0 (aVal (eOp1 dLen (eVar 1)) aNil)))))
noncomputable def dn__law_rows_s1 : SDen := (sPar [3, 4, 5, 6] (aVal (eCallS 2 dn__law_names (aRef 0 (aVal (eC (.int 3)) aNil))) (aVal (eCallS 2 dn__law_names (aRef 0 (aVal (eC (.int 2)) aNil))) (aNew (nLst eNil) (aNew nDicT aNil)))))
noncomputable def dn__law_rows_s2 : SDen := (sPar [7, 8] (aVal (eCallS 2 dn__law_taken (aRef 0 (aVal (eCallS 2 dn__law_pick (aRef 0 (aVal (eLst (eCons (eC (.int 3)) (eCons (eC (.int 20)) (eCons (eC (.int 1000)) eNil)))) aNil))) aNil))) (aVal (eCallS 2 dn__law_taken (aRef 0 (aVal (eCallS 2 dn__law_pick (aRef 0 (aVal (eLst (eCons (eC (.int 1)) (eCons (eC (.int 3)) (eCons (eC (.int 100)) eNil)))) aNil))) aNil))) aNil)))
noncomputable def dn__law_rows_s3 : SDen := (sPutT 6 (eTupK (eCons (eVar 7) (eCons (eVar 8) eNil))) (eTup (eCons (eVar 7) (eCons (eVar 8) (eCons (eCallS 2 dn__law_pick (aRef 0 (aVal (eVar 3) aNil))) (eCons (eCallS 2 dn__law_pick (aRef 0 (aVal (eLst (eCons (eC (.str "sold")) (eCons (eC (.str "back")) eNil))) aNil))) (eCons (eCallS 2 dn__law_pick (aRef 0 (aVal (eVar 4) aNil))) (eCons (eCallS 2 dn__law_taken (aRef 0 (aVal (eCallS 2 dn__law_pick (aRef 0 (aVal (eLst (eCons (eC (.int 3)) (eCons (eC (.int 40)) (eCons (eC (.int 1000)) eNil)))) aNil))) aNil))) eNil))))))))
noncomputable def dn__law_rows_s4 : SDen := (sIf (eB (eOp2 dNotInT (eTupK (eCons (eVar 7) (eCons (eVar 8) eNil))) (eVarB 6))) dn__law_rows_s3 sNil)
noncomputable def dn__law_rows_s5 : SDen := (sMut1 kApp 5 (eOp2P dGetT 6 (eTupK (eCons (eVar 7) (eCons (eVar 8) eNil)))))
noncomputable def dn__law_rows_b1 : SDen := (sSeq dn__law_rows_s2
  (sSeq dn__law_rows_s4
  dn__law_rows_s5))
noncomputable def dn__law_rows_s6 : SDen := (sFor (iRange1 (eCallS 2 dn__law_taken (aRef 0 (aVal (eOp2 dAdd (eVar 1) (eC (.int 1))) aNil)))) (gN 2) dn__law_rows_b1)
noncomputable def dn__law_rows : FD := dFn 2 9 (sSeq dn__law_rows_s1
  (sSeq dn__law_rows_s6
  (sRet (eOp1 dTuple (eVarB 5)))))
noncomputable def dn__law_alike : Nat → FD
  | 0 => fun _ _ => .stuck
  | n + 1 => dFn 2 3 (sSeq (sIf (eB (eOp1 (dIsi2 "tuple" "list") (eVar 1))) (sSeq (sIf (eOr (eNot (eB (eOp1 (dIsi2 "tuple" "list") (eVar 0)))) (eB (eOp2 dNe (eOp1 (dIsi "list") (eVar 0)) (eOp1 (dIsi "list") (eVar 1))))) (sRet (eC (.bl false))) sNil)
  (sSeq (sIf (eB (eOp2 dNe (eOp1 dLen (eVar 0)) (eOp1 dLen (eVar 1)))) (sRet (eC (.bl false))) sNil)
  (sRet (eOp2 dEq (ePure (eComp (iRange1 (eOp1 dLen (eVar 1))) (gN 2) (eNot (eB (eCall 2 (dn__law_alike n) (eCons (eOp2 dIx (eVar 0) (eVar 2)) (eCons (eOp2 dIx (eVar 1) (eVar 2)) eNil))))) (eVar 2) [2])) (eLst eNil))))) sNil)
  (sSeq (sIf (eOr (eB (eOp2 dIs (eVar 1) (eC .non))) (eB (eOp1 (dIsi "str") (eVar 1)))) (sRet (eAndV (eOp2 dEq (eVar 0) (eVar 1)) (eOp2 dEq (eOp1 (dIsi "str") (eVar 0)) (eOp1 (dIsi "str") (eVar 1))))) sNil)
  (sRet (eAndV (eOp1 (dIsi "int") (eVar 0)) (eAndV (eOp2 dEq (eOp1 (dIsi "bool") (eVar 0)) (eOp1 (dIsi "bool") (eVar 1))) (eOp2 dEq (eVar 0) (eVar 1)))))))
noncomputable def dn_is_whole : FD := dFn 1 1 (sRet (eAndV (eOp1 (dIsi "int") (eVar 0)) (eNotV (eOp1 (dIsi "bool") (eVar 0)))))
noncomputable def dn_is_within : FD := dFn 3 3 (sRet (eAndV (eCall 1 dn_is_whole (eCons (eVar 0) eNil)) (eChain dLe dLe (eVar 1) (eVar 0) (eVar 2))))
noncomputable def dn_is_row : FD := dFn 2 2 (sRet (eAndV (eOp1 (dIsi "tuple") (eVar 0)) (eOp2 dEq (eOp1 dLen (eVar 0)) (eVar 1))))
noncomputable def dn_is_name : FD := dFn 1 2 (sSeq (sIf (eOr (eNot (eB (eOp1 (dIsi "str") (eVar 0)))) (eNot (eB (eChain dLe dLe (eC (.int 1)) (eOp1 dLen (eVar 0)) (eC (.int 8)))))) (sRet (eC (.bl false))) sNil)
  (sRet (eOp1 dAll (ePure (eComp (iSeq (eVar 0)) (gN 1) eYes (eOp2 dIn (eVar 1) (eC (.str "abcdefghijklmnopqrstuvwxyz"))) [1])))))
noncomputable def dn_is_told_row_s1 : SDen := (sIf (eOr (eNot (eB (eCall 2 dn_is_row (eCons (eVar 0) (eCons (eC (.int 6)) eNil))))) (eOr (eNot (eB (eCall 3 dn_is_within (eCons (eOp2 dIx (eVar 0) (eC (.int 0))) (eCons (eC (.int 0)) (eCons (eC (.int 999)) eNil)))))) (eNot (eB (eCall 3 dn_is_within (eCons (eOp2 dIx (eVar 0) (eC (.int 1))) (eCons (eC (.int 0)) (eCons (eC (.int 99)) eNil)))))))) (sRet (eC (.bl false))) sNil)
noncomputable def dn_is_told_row_s2 : SDen := (sIf (eOr (eNot (eB (eCall 1 dn_is_name (eCons (eOp2 dIx (eVar 0) (eC (.int 2))) eNil)))) (eOr (eNot (eB (eOp1 (dIsi "str") (eOp2 dIx (eVar 0) (eC (.int 3)))))) (eOr (eB (eOp2 dNotIn (eOp2 dIx (eVar 0) (eC (.int 3))) (eTup (eCons (eC (.str "sold")) (eCons (eC (.str "back")) eNil))))) (eNot (eB (eCall 1 dn_is_name (eCons (eOp2 dIx (eVar 0) (eC (.int 4))) eNil))))))) (sRet (eC (.bl false))) sNil)
noncomputable def dn_is_told_row_s3 : SDen := (sIf (eNot (eB (eCall 3 dn_is_within (eCons (eOp2 dIx (eVar 0) (eC (.int 5))) (eCons (eC (.int 0)) (eCons (eC (.int 999)) eNil)))))) (sRet (eC (.bl false))) sNil)
noncomputable def dn_is_told_row_t1 : DenB := (eB (eOp2 dEq (eCut (eVar 2) eNo (eSo (eC (.int 2)))) (eCut (eVar 0) eNo (eSo (eC (.int 2))))))
noncomputable def dn_is_told_row_s4 : SDen := (sRet (eOp1 dAll (ePure (eComp (iSeq (eVar 1)) (gN 2) dn_is_told_row_t1 (eOp2 dEq (eVar 2) (eVar 0)) [2]))))
noncomputable def dn_is_told_row : FD := dFn 2 3 (sSeq dn_is_told_row_s1
  (sSeq dn_is_told_row_s2
  (sSeq dn_is_told_row_s3
  dn_is_told_row_s4)))
noncomputable def tabF : FTab := fun y => if y = "is_told_row" then some (2, dn_is_told_row) else none
noncomputable def dn_first_wrong_s1 : SDen := (sIf (eOr (eNot (eB (eOp1 (dIsi "tuple") (eVar 0)))) (eNot (eB (eChain dLe dLe (eVar 1) (eOp1 dLen (eVar 0)) (eVar 2))))) (sRet (eOp1 dNeg (eC (.int 1)))) sNil)
noncomputable def dn_first_wrong_s2 : SDen := (sIf (eNot (eB (eCallV 3 tabF (eCons (eVar 5) (eCons (eCut (eVar 0) eNo (eSo (eVar 4))) eNil))))) (sRet (eVar 4)) sNil)
noncomputable def dn_first_wrong_s3 : SDen := (sFor (iEnumD (eVar 0)) (gT (gsCons (gN 4) (gsCons (gN 5) gsNil)) 2) dn_first_wrong_s2)
noncomputable def dn_first_wrong : FD := dFn 4 6 (sSeq dn_first_wrong_s1
  (sSeq dn_first_wrong_s3
  (sRet (eC .non))))
noncomputable def dn_place_told : FD := dFn 1 1 (sRet (eIf (eB (eOp2 dEq (eVar 0) (eOp1 dNeg (eC (.int 1))))) (eC .non) (eVar 0)))
noncomputable def dn_require_rows_s1 : SDen := (sSet 1 (eCall 4 dn_first_wrong (eCons (eVar 0) (eCons (eC (.int 0)) (eCons (eC (.int 60)) (eCons (eC (.fn "is_told_row")) eNil))))))
noncomputable def dn_require_rows_s2 : SDen := (sIf (eB (eOp2 dIsNot (eVar 1) (eC .non))) sNever sNil)
noncomputable def dn_require_rows : FD := dFn 1 2 (sSeq dn_require_rows_s1
  dn_require_rows_s2)
noncomputable def dn_standing_of_s1 : SDen := (sPutK 1 (eOp2P dIx 2 (eC (.int 0))) (eVar 2))
noncomputable def dn_standing_of_s2 : SDen := (sIf (eOr (eB (eOp2 dNotInK (eOp2P dIx 2 (eC (.int 0))) (eVarB 1))) (eB (eOp2 dLt (eOp2 dIx (eOp2P dGetK 1 (eOp2P dIx 2 (eC (.int 0)))) (eC (.int 1))) (eOp2P dIx 2 (eC (.int 1)))))) dn_standing_of_s1 sNil)
noncomputable def dn_standing_of_s3 : SDen := (sFor (iSeq (eVar 0)) (gN 2) dn_standing_of_s2)
noncomputable def dn_standing_of_s4 : SDen := (sRet (ePure (eComp (iSeq (eOp1 dSortedK (eVarB 1))) (gN 3) eYes (eOp2P dGetK 1 (eVar 3)) [3])))
noncomputable def dn_standing_of : FD := dFn 1 4 (sSeq (sNew 1 nDicK)
  (sSeq dn_standing_of_s3
  dn_standing_of_s4))
noncomputable def dn_standing : FD := dFn 1 1 (sSeq (sExpr (eCall 1 dn_require_rows (eCons (eVar 0) eNil)))
  (sRet (eOp1 dTuple (eCall 1 dn_standing_of (eCons (eVar 0) eNil)))))
noncomputable def dn_are_alike : FD := dFn 2 2 (sRet (eOp2 dEq (eCall 1 dn_standing (eCons (eVar 0) eNil)) (eCall 1 dn_standing (eCons (eVar 1) eNil))))
noncomputable def dn__law_standing_t1 : DenB := (eB (eOp2 dEq (eOp2 dIx (eVar 4) (eC (.int 0))) (eVar 2)))
noncomputable def dn__law_standing_s1 : SDen := (sSet 3 (ePure (eComp (iSeq (eVar 0)) (gN 4) dn__law_standing_t1 (eVar 4) [4])))
noncomputable def dn__law_standing_s2 : SDen := (sMut1 kApp 1 (eOp2 dIx (eOp1 dSortG (eVar 3)) (eOp1 dNeg (eC (.int 1)))))
noncomputable def dn__law_standing_s3 : SDen := (sIf (eB (eOp2 dNe (eVar 3) (eLst eNil))) dn__law_standing_s2 sNil)
noncomputable def dn__law_standing_b1 : SDen := (sSeq dn__law_standing_s1
  dn__law_standing_s3)
noncomputable def dn__law_standing_s4 : SDen := (sFor (iRange1 (eC (.int 1000))) (gN 2) dn__law_standing_b1)
noncomputable def dn__law_standing : FD := dFn 1 5 (sSeq (sNew 1 (nLst eNil))
  (sSeq dn__law_standing_s4
  (sRet (eVar 1))))
noncomputable def dn_require_deposits_e1 : Den := (eCall 1 dn_is_name (eCons (eVar 2) eNil))
noncomputable def dn_require_deposits_s1 : SDen := (sIf (eOr (eNot (eB (eOp1 (dIsi "dict") (eVar 0)))) (eNot (eB (eOp1 dAll (ePure (eComp (iKeysD (eVar 0)) (gN 2) eYes dn_require_deposits_e1 [2])))))) sNever sNil)
noncomputable def dn_require_deposits_s2 : SDen := (sIf (eNot (eB (eCall 3 dn_is_within (eCons (eVar 1) (eCons (eC (.int 0)) (eCons (eC (.int 99)) eNil)))))) sNever sNil)
noncomputable def dn_require_deposits_s3 : SDen := (sFor (iValsD (eVar 0)) (gN 1) dn_require_deposits_s2)
noncomputable def dn_require_deposits : FD := dFn 1 3 (sSeq dn_require_deposits_s1
  dn_require_deposits_s3)
noncomputable def dn_due_of_s1 : SDen := (sAug 3 dIAdd (eOp2 dMulS (eIf (eB (eOp2 dEq (eOp2 dIx (eVar 4) (eC (.int 3))) (eC (.str "back")))) (eOp2 dIx (eVar 4) (eC (.int 5))) (eOp2 dSub (eC (.int 0)) (eOp2 dIx (eVar 4) (eC (.int 5))))) (eGet2 (eVar 1) (eOp2 dIx (eVar 4) (eC (.int 4))) (eC (.int 0)))))
noncomputable def dn_due_of_s2 : SDen := (sIf (eB (eOp2 dEq (eOp2 dIx (eVar 4) (eC (.int 2))) (eVar 2))) dn_due_of_s1 sNil)
noncomputable def dn_due_of_s3 : SDen := (sFor (iSeq (eVar 0)) (gN 4) dn_due_of_s2)
noncomputable def dn_due_of : FD := dFn 3 5 (sSeq (sSet 3 (eC (.int 0)))
  (sSeq dn_due_of_s3
  (sRet (eVar 3))))
noncomputable def dn_houses_in : FD := dFn 1 2 (sRet (eOp1 dTuple (eSetThen toKS finS (iSeq (eCall 1 dn_standing (eCons (eVar 0) eNil))) (gN 1) eYes (eOp2 dIx (eVar 1) (eC (.int 2))) [1])))
noncomputable def dn_duesX : FD := dFn 2 4 (sSeq (sSet 2 (eCall 1 dn_standing (eCons (eVar 0) eNil)))
  (sSeq (sExpr (eCall 1 dn_require_deposits (eCons (eVar 1) eNil)))
  (sRet (eOp1 dTupleX (ePure (eComp (iSeq (eCall 1 dn_houses_in (eCons (eVar 0) eNil))) (gN 3) eYes (eTup (eCons (eVar 3) (eCons (eCall 3 dn_due_of (eCons (eVar 2) (eCons (eVar 1) (eCons (eVar 3) eNil)))) eNil))) [3]))))))
noncomputable def dn_change_s1 : SDen := (sPar [5, 6] (aVal (eOp1 dDictX (eCall 2 dn_duesX (eCons (eVar 0) (eCons (eVar 2) eNil)))) (aVal (eOp1 dDictX (eCall 2 dn_duesX (eCons (eOp2 dAdd (eVar 0) (eTup (eCons (eVar 1) eNil))) (eCons (eVar 2) eNil)))) aNil)))
noncomputable def dn_change_s2 : SDen := (sSet 7 (eOp2 dSub (eGet2 (eVar 6) (eVar 4) (eC (.int 0))) (eGet2 (eVar 5) (eVar 4) (eC (.int 0)))))
noncomputable def dn_change_s3 : SDen := (sMut1 kApp 3 (eTup (eCons (eVar 4) (eCons (eVar 7) eNil))))
noncomputable def dn_change_s4 : SDen := (sIf (eB (eOp2 dNe (eVar 7) (eC (.int 0)))) dn_change_s3 sNil)
noncomputable def dn_change_s5 : SDen := (sFor (iSeq (eOp1 dSortG (eOp2 dAdd (eOp1 dListK (eVar 5)) (ePure (eComp (iKeysD (eVar 6)) (gN 8) (eB (eOp2 dNotInK (eVar 8) (eVar 5))) (eVar 8) [8]))))) (gN 4) (sSeq dn_change_s2
  dn_change_s4))
noncomputable def dn_change : FD := dFn 3 9 (sSeq dn_change_s1
  (sSeq (sNew 3 (nLst eNil))
  (sSeq dn_change_s5
  (sRet (eOp1 dTuple (eVarB 3))))))
noncomputable def dn_dues_s1 : SDen := (sSet 2 (eCall 1 dn_standing (eCons (eVar 0) eNil)))
noncomputable def dn_dues_s2 : SDen := (sExpr (eCall 1 dn_require_deposits (eCons (eVar 1) eNil)))
noncomputable def dn_dues_e1 : Den := (eTup (eCons (eVar 3) (eCons (eCall 3 dn_due_of (eCons (eVar 2) (eCons (eVar 1) (eCons (eVar 3) eNil)))) eNil)))
noncomputable def dn_dues_s3 : SDen := (sRet (eOp1 dTuple (ePure (eComp (iSeq (eCall 1 dn_houses_in (eCons (eVar 0) eNil))) (gN 3) eYes dn_dues_e1 [3]))))
noncomputable def dn_dues : FD := dFn 2 4 (sSeq dn_dues_s1
  (sSeq dn_dues_s2
  dn_dues_s3))
noncomputable def dn_held_back : FD := dFn 2 4 (sRet (eOp2 dSub (eC (.int 0)) (eOp1 dSum (ePure (eComp (iSeq (eCall 2 dn_dues (eCons (eVar 0) (eCons (eVar 1) eNil)))) (gT (gsCons (gN 2) (gsCons (gN 3) gsNil)) 2) eYes (eVar 3) [2, 3])))))
noncomputable def dn_law_s1 : SDen := (sNew 1 (nLst (eCons (eVar 0) (eCons (eC (.int 0)) (eCons (eC (.int 5221)) (eCons (eC (.int 0)) eNil))))))
noncomputable def dn_law_s2 : SDen := (sSet 3 (eCallS 2 dn__law_rows (aRef 1 (aVal (eCallS 2 dn__law_pick (aRef 1 (aVal (eLst (eCons (eC (.int 5)) (eCons (eC (.int 25)) eNil))) aNil))) aNil))))
noncomputable def dn_law_s3 : SDen := (sPutK 4 (eOp2P dIx 5 (eC (.int 4))) (eCallS 2 dn__law_taken (aRef 1 (aVal (eC (.int 100)) aNil))))
noncomputable def dn_law_s4 : SDen := (sFor (iSeq (eCut (eVar 3) eNo (eSo (eC (.int 3))))) (gN 5) dn_law_s3)
noncomputable def dn_law_s5 : SDen := (sPar [15, 7] (aNew (nOf lstO (eVar 3)) (aNew (nLst eNil) aNil)))
noncomputable def dn_law_s6 : SDen := (sMut1 kApp 7 (ePopAt 15 (eCallS 2 dn__law_taken (aRef 1 (aVal (eOp1 dLen (eVarB 15)) aNil)))))
noncomputable def dn_law_s7 : SDen := (sFor (iRange1 (eOp1 dLen (eVar 3))) (gN 6) dn_law_s6)
noncomputable def dn_law_s8 : SDen := (sSet 7 (eOp2 dAdd (eOp1 dTuple (eVarB 7)) (eCut (eVar 3) eNo (eSo (eCallS 2 dn__law_taken (aRef 1 (aVal (eC (.int 3)) aNil)))))))
noncomputable def dn_law_s9 : SDen := (sIf (eOr (eB (eOp2 dIsNot (eCall 2 dn_are_alike (eCons (eVar 3) (eCons (eVar 7) eNil))) (eC (.bl true)))) (eNot (eB (eCall 2 (dn__law_alike 10) (eCons (eTup (eCons (eCall 2 dn_dues (eCons (eVar 7) (eCons (eVar 4) eNil))) (eCons (eCall 2 dn_held_back (eCons (eVar 7) (eCons (eVar 4) eNil))) eNil))) (eCons (eTup (eCons (eCall 2 dn_dues (eCons (eVar 3) (eCons (eVar 4) eNil))) (eCons (eCall 2 dn_held_back (eCons (eVar 3) (eCons (eVar 4) eNil))) eNil))) eNil)))))) (sRet (eC (.bl false))) sNil)
noncomputable def dn_law_s10 : SDen := (sSet 8 (eCut (eVar 3) (eSo (eC (.int 1))) eNo))
noncomputable def dn_law_s11 : SDen := (sIf (eNot (eB (eCall 2 (dn__law_alike 10) (eCons (eCall 2 dn_are_alike (eCons (eVar 3) (eCons (eVar 8) eNil))) (eCons (eOp2 dEq (eCall 1 dn__law_standing (eCons (eVar 3) eNil)) (eCall 1 dn__law_standing (eCons (eVar 8) eNil))) eNil))))) (sRet (eC (.bl false))) sNil)
noncomputable def dn_law_s12 : SDen := (sSet 9 (eIf (eAnd (eB (eOp2 dNe (eVar 3) (eTup eNil))) (eB (eOp2 dEq (eCallS 2 dn__law_taken (aRef 1 (aVal (eC (.int 2)) aNil))) (eC (.int 0))))) (eOp2 dIx (eOp2 dIx (eVar 3) (eC (.int 0))) (eC (.int 0))) (eCallS 2 dn__law_taken (aRef 1 (aVal (eC (.int 1000)) aNil)))))
noncomputable def dn_law_s13 : SDen := (sSet 10 (eCallS 2 dn__law_taken (aRef 1 (aVal (eC (.int 100)) aNil))))
noncomputable def dn_law_t1 : DenB := (eB (eOp2 dEq (eCut (eVar 5) eNo (eSo (eC (.int 2)))) (eTup (eCons (eVar 9) (eCons (eVar 10) eNil)))))
noncomputable def dn_law_s14 : SDen := (sSet 11 (ePure (eComp (iSeq (eVar 3)) (gN 5) dn_law_t1 (eVar 5) [5])))
noncomputable def dn_law_s15 : SDen := (sPar [16, 17] (aVal (eCallS 2 dn__law_pick (aRef 1 (aVal (eOp2 dAdd (ePure (eComp (iSeq (eVar 3)) (gN 5) eYes (eOp2P dIx 5 (eC (.int 2))) [5])) (eLst (eCons (eC (.str "hall")) eNil))) aNil))) (aVal (eCallS 2 dn__law_pick (aRef 1 (aVal (eOp2 dAdd (ePure (eComp (iSeq (eVar 3)) (gN 5) eYes (eOp2P dIx 5 (eC (.int 4))) [5])) (eLst (eCons (eC (.str "jar")) eNil))) aNil))) aNil)))
noncomputable def dn_law_s16 : SDen := (sSet 12 (eIf (eB (eOp2 dNe (eVar 11) (eLst eNil))) (eOp2 dIx (eVar 11) (eC (.int 0))) (eTup (eCons (eVar 9) (eCons (eVar 10) (eCons (eVar 16) (eCons (eCallS 2 dn__law_pick (aRef 1 (aVal (eLst (eCons (eC (.str "sold")) (eCons (eC (.str "back")) eNil))) aNil))) (eCons (eVar 17) (eCons (eCallS 2 dn__law_taken (aRef 1 (aVal (eC (.int 40)) aNil))) eNil)))))))))
noncomputable def dn_law_s17 : SDen := (sPutK 13 (eOp2P dIx 5 (eC (.int 2))) (eOp2 dAdd (eGet2P 13 (eOp2P dIx 5 (eC (.int 2))) (eC (.int 0))) (eOp2 dMulS (eOp2 dMulS (eVar 18) (eIf (eB (eOp2 dEq (eOp2P dIx 5 (eC (.int 3))) (eC (.str "back")))) (eOp2P dIx 5 (eC (.int 5))) (eOp2 dSub (eC (.int 0)) (eOp2P dIx 5 (eC (.int 5)))))) (eGet2P 4 (eOp2P dIx 5 (eC (.int 4))) (eC (.int 0))))))
noncomputable def dn_law_s18 : SDen := (sFor (iSeq (eVar 19)) (gN 5) dn_law_s17)
noncomputable def dn_law_s19 : SDen := (sFor (iSeq (eLst (eCons (eTup (eCons (eOp1 dNeg (eC (.int 1))) (eCons (eCall 1 dn__law_standing (eCons (eVar 3) eNil)) eNil))) (eCons (eTup (eCons (eC (.int 1)) (eCons (eCall 1 dn__law_standing (eCons (eOp2 dAdd (eVar 3) (eTup (eCons (eVar 12) eNil))) eNil)) eNil))) eNil)))) (gT (gsCons (gN 18) (gsCons (gN 19) gsNil)) 2) dn_law_s18)
noncomputable def dn_law_t2 : DenB := (eB (eOp2 dNe (eOp2P dGetK 13 (eVar 16)) (eC (.int 0))))
noncomputable def dn_law_e1 : Den := (eTup (eCons (eVar 16) (eCons (eOp2P dGetK 13 (eVar 16)) eNil)))
noncomputable def dn_law_s20 : SDen := (sSet 14 (eOp1 dTuple (ePure (eComp (iSeq (eOp1 dSortedS (eVarB 13))) (gN 16) dn_law_t2 dn_law_e1 [16]))))
noncomputable def dn_law_s21 : SDen := (sIf (eNot (eB (eCall 2 (dn__law_alike 10) (eCons (eCall 3 dn_change (eCons (eVar 3) (eCons (eVar 12) (eCons (eVar 4) eNil)))) (eCons (eVar 14) eNil))))) (sRet (eC (.bl false))) sNil)
noncomputable def dn_law_s22 : SDen := (sIf (eNot (eB (eCall 2 (dn__law_alike 10) (eCons (eOp2 dSub (eCall 2 dn_held_back (eCons (eOp2 dAdd (eVar 3) (eTup (eCons (eVar 12) eNil))) (eCons (eVar 4) eNil))) (eCall 2 dn_held_back (eCons (eVar 3) (eCons (eVar 4) eNil)))) (eCons (eOp2 dSub (eC (.int 0)) (eOp1 dSum (ePure (eComp (iSeq (eVar 14)) (gN 5) eYes (eOp2P dIx 5 (eC (.int 1))) [5])))) eNil))))) (sRet (eC (.bl false))) sNil)
noncomputable def dn_law_b1 : SDen := (sSeq dn_law_s2
  (sSeq (sNew 4 nDicK)
  (sSeq dn_law_s4
  (sSeq dn_law_s5
  (sSeq dn_law_s7
  (sSeq dn_law_s8
  (sSeq dn_law_s9
  (sSeq dn_law_s10
  (sSeq dn_law_s11
  (sSeq dn_law_s12
  (sSeq dn_law_s13
  (sSeq dn_law_s14
  (sSeq dn_law_s15
  (sSeq dn_law_s16
  (sSeq (sNew 13 nDicK)
  (sSeq dn_law_s19
  (sSeq dn_law_s20
  (sSeq dn_law_s21
  dn_law_s22))))))))))))))))))
noncomputable def dn_law_s23 : SDen := (sFor (iRange1 (eC (.int 4))) (gN 2) dn_law_b1)
noncomputable def dn_law : FD := dFn 1 20 (sSeq dn_law_s1
  (sSeq dn_law_s23
  (sRet (eC (.bl true)))))
structure Facts (K : PySem.W.Frag) (mg : Str → Option Value) : Prop where
  n_all : mg "all" = none
  n_bool : mg "bool" = none
  n_dict : mg "dict" = none
  n_enumerate : mg "enumerate" = none
  n_int : mg "int" = none
  n_isinstance : mg "isinstance" = none
  n_len : mg "len" = none
  n_list : mg "list" = none
  n_range : mg "range" = none
  n_sorted : mg "sorted" = none
  n_str : mg "str" = none
  n_sum : mg "sum" = none
  n_tuple : mg "tuple" = none
  g_BACK : ∃ t, mg "BACK" = some (.str "back" t)
  g_LETTERS : ∃ t, mg "LETTERS" = some (.str "abcdefghijklmnopqrstuvwxyz" t)
  g_LONGEST : ∃ t, mg "LONGEST" = some (.int 8 t)
  g_MOST_DEPOSIT : ∃ t, mg "MOST_DEPOSIT" = some (.int 99 t)
  g_MOST_MARK : ∃ t, mg "MOST_MARK" = some (.int 999 t)
  g_MOST_PIECES : ∃ t, mg "MOST_PIECES" = some (.int 999 t)
  g_MOST_RANK : ∃ t, mg "MOST_RANK" = some (.int 99 t)
  g_MOST_ROWS : ∃ t, mg "MOST_ROWS" = some (.int 60 t)
  g_SOLD : ∃ t, mg "SOLD" = some (.str "sold" t)
structure FactsX (P : Program) (w : World) (K : PySem.W.Frag) (mg : Str → Option Value) (base : Heap) (G : Wd) : Prop where
  xc : XCls G K
  fns : ∀ y a, G.fn y = some a → mg y = some (.ref a)
  fv_is_told_row : ∃ a, mg "is_told_row" = some (.ref a) ∧ G.fn "is_told_row" = some a
section
variable {P : Program} {w : World} {K : PySem.W.Frag} {mg : Str → Option Value} {base : Heap} {G : Wd}
theorem tabF_ok (hf : ∀ y a, G.fn y = some a → mg y = some (.ref a)) (c_is_told_row : MCal P w K mg base G 3 "is_told_row" 2 dn_is_told_row) {y : Str} {a : Addr} {q : Nat × FD} (h1 : G.fn y = some a) (h2 : tabF y = some q) : MHeld P w K mg base G 3 a q.1 q.2 := by
  unfold tabF at h2
  split at h2
  · rename_i e
    subst e
    cases h2
    exact (MCal.held c_is_told_row (hf _ _ h1)).mono (by omega)
  cases h2
abbrev s__law_taken : Stmt := topS 33
theorem sc__law_taken : FnScope ["row", "many", "cell", "found"] ["row", "many"] (defScope s__law_taken) := ⟨rfl, rfl, rfl, by decide +kernel, rfl, by decide +kernel, by decide +kernel⟩
theorem ok__law_taken (T : Facts K mg) (XF : FactsX P w K mg base G) (hK : G.K = K) {fa : Addr} {fd : FuncData} (F : Fun K "_law_taken" "_law_taken" s__law_taken fa fd) (hm : mg "_law_taken" = some (.ref fa)) (b : Binds K fd ["row", "many"] [])  : MCal P w K mg base G 1 "_law_taken" 2 dn__law_taken := by
  have sc := sc__law_taken
  exact cal_M F (fn_M (k := 0) F sc rfl (by decide) fun cdv A outer sh H E hr tk hp =>
      (mss_cons (ms_if (mt_cmp op_gt sim_gt (me_ixP ix_seq (sim_ix hK) (pv 0) (mv_of me_int) (fun _ _ => rfl)) (mv_of me_int) (nomark _)) (mss_cons (ms_set 3 sc.nd (me_bin op_mod sim_mod (me_ty1 (call_int1) sim_int (by decide +kernel) T.n_int (mv_of (me_ixP ix_seq (sim_ix hK) (pv 0) (mv_of me_int) (fun _ _ => rfl)))) (mv_of (me_var 1 (pv 1)))))
      (mss_cons (ms_setix (pv 0) me_int (me_bin op_fdiv sim_fdiv (me_ixP ix_seq (sim_ix hK) (pv 0) (mv_of me_int) (fun _ _ => rfl)) (mv_of (me_var 1 (pv 1)))))
      (mss_one (ms_ret (me_var 3 (pv 3)))))) mss_nil)
      (mss_cons (ms_setix (pv 0) me_int (me_bin op_addM (sim_add hK) (me_ixP ix_seq (sim_ix hK) (pv 0) (mv_of me_int) (fun _ _ => rfl)) (mv_of me_int)))
      (mss_cons (ms_if (mt_cmp op_gt sim_gt (me_ixP ix_seq (sim_ix hK) (pv 0) (mv_of me_int) (fun _ _ => rfl)) (mv_of (me_bi1 (cr_lenM) (sim_len hK) (by decide +kernel) T.n_len (mv_of (me_ixP ix_seq (sim_ix hK) (pv 0) (mv_of me_int) (fun _ _ => rfl))))) (nomark _)) (mss_cons (ms_setix (pv 0) me_int (me_bin op_mod sim_mod (me_ty1 (call_int1) sim_int (by decide +kernel) T.n_int (mv_of (me_bin op_addM (sim_add hK) (me_bin op_mulS (sim_mulS hK) (me_ixP ix_seq (sim_ix hK) (pv 0) (mv_of me_int) (fun _ _ => rfl)) (mv_of me_int)) (mv_of me_int)))) (mv_of me_int)))
      (mss_one (ms_ret (me_bin op_mod sim_mod (me_ty1 (call_int1) sim_int (by decide +kernel) T.n_int (mv_of (me_bin op_fdiv sim_fdiv (me_ixP ix_seq (sim_ix hK) (pv 0) (mv_of me_int) (fun _ _ => rfl)) (mv_of me_int)))) (mv_of (me_var 1 (pv 1))))))) mss_nil)
      (mss_cons (ms_set 2 sc.nd (me_ix ix_seq (sim_ix hK) (me_ixP ix_seq (sim_ix hK) (pv 0) (mv_of me_int) (fun _ _ => rfl)) (mv_of (me_bin op_sub sim_sub (me_ixP ix_seq (sim_ix hK) (pv 0) (mv_of me_int) (fun _ _ => rfl)) (mv_of me_int))) (fun _ _ => rfl)))
      (mss_cons (ms_setix (pv 0) me_int (me_bin op_mod sim_mod (me_ty1 (call_int1) sim_int (by decide +kernel) T.n_int (mv_of (me_bin op_addM (sim_add hK) (me_bin op_addM (sim_add hK) (me_bin op_mulS (sim_mulS hK) (me_ixP ix_seq (sim_ix hK) (pv 0) (mv_of me_int) (fun _ _ => rfl)) (mv_of me_int)) (mv_of (me_var 2 (pv 2)))) (mv_of me_int)))) (mv_of me_int)))
      (mss_cons (ms_if (mt_cmp op_ge sim_ge (me_var 2 (pv 2)) (mv_of (me_bin op_pow sim_pow me_int (mv_of me_int))) (nomark _)) (mss_cons (ms_setix (pv 0) me_int (me_bin op_fdiv sim_fdiv (me_var 2 (pv 2)) (mv_of (me_var 1 (pv 1)))))
      (mss_one (ms_ret (me_bin op_mod sim_mod (me_ty1 (call_int1) sim_int (by decide +kernel) T.n_int (mv_of (me_var 2 (pv 2)))) (mv_of (me_var 1 (pv 1))))))) mss_nil)
      (mss_one (ms_ret (me_bin op_mod sim_mod (me_ty1 (call_int1) sim_int (by decide +kernel) T.n_int (mv_of (me_bin op_addM (sim_add hK) (me_bin op_mulS (sim_mulS hK) (me_bin op_mod sim_mod (me_ty1 (call_int1) sim_int (by decide +kernel) T.n_int (mv_of (me_var 2 (pv 2)))) (mv_of me_int)) (mv_of me_int)) (mv_of (me_bin op_fdiv sim_fdiv (me_ixP ix_seq (sim_ix hK) (pv 0) (mv_of me_int) (fun _ _ => rfl)) (mv_of me_int)))))) (mv_of (me_var 1 (pv 1))))))))))))) hm b
abbrev s__law_names : Stmt := topS 36
theorem sc__law_names : FnScope ["row", "many", "letters", "head", "tail", "kind", "k", "start", "names", "sign"] ["row", "many"] (defScope s__law_names) := ⟨rfl, rfl, rfl, by decide +kernel, rfl, by decide +kernel, by decide +kernel⟩
theorem ok__law_names (T : Facts K mg) (XF : FactsX P w K mg base G) (hK : G.K = K) {fa : Addr} {fd : FuncData} (F : Fun K "_law_names" "_law_names" s__law_names fa fd) (hm : mg "_law_names" = some (.ref fa)) (b : Binds K fd ["row", "many"] []) (c__law_taken : MCal P w K mg base G 1 "_law_taken" 2 dn__law_taken) : MCal P w K mg base G 2 "_law_names" 2 dn__law_names := by
  have sc := sc__law_names
  exact cal_M F (fn_M (k := 1) F sc rfl (by decide) fun cdv A outer sh H E hr tk hp =>
      (mss_cons (ms_set 2 sc.nd me_str)
      (mss_cons (ms_par2 rfl sc.nd (mas_val (me_callS c__law_taken (hr.mono (by omega)) tk (mas_ref (pv 0) (mas_val me_int mas_nil))) (mas_new (mn_lst ma_nil) mas_nil)))
      (mss_cons (ms_set 3 sc.nd (me_bin op_mulS (sim_mulS hK) (me_ix ix_seq (sim_ix hK) (me_var 2 (pv 2)) (mv_of (me_callS c__law_taken (hr.mono (by omega)) tk (mas_ref (pv 0) (mas_val me_int mas_nil)))) (fun _ _ => rfl)) (mv_of (me_callS c__law_taken (hr.mono (by omega)) tk (mas_ref (pv 0) (mas_val me_int mas_nil))))))
      (mss_cons (ms_set 4 sc.nd (me_bin op_mulS (sim_mulS hK) (me_ix ix_seq (sim_ix hK) (me_var 2 (pv 2)) (mv_of (me_callS c__law_taken (hr.mono (by omega)) tk (mas_ref (pv 0) (mas_val me_int mas_nil)))) (fun _ _ => rfl)) (mv_of (me_callS c__law_taken (hr.mono (by omega)) tk (mas_ref (pv 0) (mas_val me_int mas_nil))))))
      (mss_cons (ms_set 5 sc.nd (me_callS c__law_taken (hr.mono (by omega)) tk (mas_ref (pv 0) (mas_val me_int mas_nil))))
      (mss_cons (ms_for (vs := [6]) hp rfl (mi_range1 T.n_range (me_var 1 (pv 1))) (mg_name 6 sc.nd) (mss_cons (ms_set 9 sc.nd (me_ix ix_seq (sim_ix hK) (me_var 2 (pv 2)) (mv_of (me_bin op_mod sim_mod (me_ty1 (call_int1) sim_int (by decide +kernel) T.n_int (mv_of (me_bin op_addM (sim_add hK) (me_var 7 (pv 7)) (mv_of (me_bin op_mulS (sim_mulS hK) me_int (mv_of (me_var 6 (pv 6)))))))) (mv_of me_int))) (fun _ _ => rfl)))
      (mss_one (ms_app (pv 8) (me_if (mt_cmp (op_eqD (hu64 hr)) (sim_eq hK) (me_var 5 (pv 5)) (mv_of me_int) (nomark _)) (me_bin op_addM (sim_add hK) (me_bin op_addM (sim_add hK) (me_var 3 (pv 3)) (mv_of (me_var 9 (pv 9)))) (mv_of (me_var 4 (pv 4)))) (me_bin op_addM (sim_add hK) (me_var 9 (pv 9)) (mv_of (me_bin op_mulS (sim_mulS hK) (me_ix ix_seq (sim_ix hK) (me_var 2 (pv 2)) (mv_of (me_callS c__law_taken (hr.mono (by omega)) tk (mas_ref (pv 0) (mas_val me_int mas_nil)))) (fun _ _ => rfl)) (mv_of (me_callS c__law_taken (hr.mono (by omega)) tk (mas_ref (pv 0) (mas_val me_int mas_nil))))))))))))
      (mss_one (ms_ret (me_var 8 (pv 8))))))))))) hm b
abbrev s__law_pick : Stmt := topS 34
theorem sc__law_pick : FnScope ["row", "things"] ["row", "things"] (defScope s__law_pick) := ⟨rfl, rfl, rfl, by decide +kernel, rfl, by decide +kernel, by decide +kernel⟩
theorem ok__law_pick (T : Facts K mg) (XF : FactsX P w K mg base G) (hK : G.K = K) {fa : Addr} {fd : FuncData} (F : Fun K "_law_pick" "_law_pick" s__law_pick fa fd) (hm : mg "_law_pick" = some (.ref fa)) (b : Binds K fd ["row", "things"] []) (c__law_taken : MCal P w K mg base G 1 "_law_taken" 2 dn__law_taken) : MCal P w K mg base G 2 "_law_pick" 2 dn__law_pick := by
  have sc := sc__law_pick
  exact cal_M F (fn_M (k := 1) F sc rfl (by decide) fun cdv A outer sh H E hr tk hp =>
      (mss_one (ms_ret (me_ix ix_seq (sim_ix hK) (me_var 1 (pv 1)) (mv_of (me_callS c__law_taken (hr.mono (by omega)) tk (mas_ref (pv 0) (mas_val (me_bi1 (cr_lenM) (sim_len hK) (by decide +kernel) T.n_len (mv_of (me_var 1 (pv 1)))) mas_nil)))) (fun _ _ => rfl))))) hm b
abbrev s__law_rows : Stmt := topS 37
theorem sc__law_rows : FnScope ["row", "most", "k", "names", "kinds", "found", "known", "mark", "rank"] ["row", "most"] (defScope s__law_rows) := ⟨rfl, rfl, rfl, by decide +kernel, rfl, by decide +kernel, by decide +kernel⟩
theorem ok__law_rows (T : Facts K mg) (XF : FactsX P w K mg base G) (hK : G.K = K) {fa : Addr} {fd : FuncData} (F : Fun K "_law_rows" "_law_rows" s__law_rows fa fd) (hm : mg "_law_rows" = some (.ref fa)) (b : Binds K fd ["row", "most"] []) (c__law_taken : MCal P w K mg base G 1 "_law_taken" 2 dn__law_taken) (c__law_names : MCal P w K mg base G 2 "_law_names" 2 dn__law_names) (c__law_pick : MCal P w K mg base G 2 "_law_pick" 2 dn__law_pick) : MCal P w K mg base G 3 "_law_rows" 2 dn__law_rows := by
  have sc := sc__law_rows
  exact cal_M F (fn_M (k := 2) F sc rfl (by decide) fun cdv A outer sh H E hr tk hp =>
      (mss_cons (ms_parT (is := [3, 4, 5, 6]) hK rfl (mas_val (me_callS c__law_names (hr.mono (by omega)) tk (mas_ref (pv 0) (mas_val me_int mas_nil))) (mas_val (me_callS c__law_names (hr.mono (by omega)) tk (mas_ref (pv 0) (mas_val me_int mas_nil))) (mas_new (mn_lst ma_nil) (mas_new mn_dicT mas_nil)))) (pgs_cons (pg_name (i := 3) sc.nd rfl (by first | exact .inl rfl | exact .inr rfl)) (pgs_cons (pg_name (i := 4) sc.nd rfl (by first | exact .inl rfl | exact .inr rfl)) (pgs_cons (pg_name (i := 5) sc.nd rfl (by first | exact .inl rfl | exact .inr rfl)) (pgs_cons (pg_name (i := 6) sc.nd rfl (by first | exact .inl rfl | exact .inr rfl)) pgs_nil)))))
      (mss_cons (ms_for (vs := [2]) hp rfl (mi_range1 T.n_range (me_callS c__law_taken (hr.mono (by omega)) tk (mas_ref (pv 0) (mas_val (me_bin op_addM (sim_add hK) (me_var 1 (pv 1)) (mv_of me_int)) mas_nil)))) (mg_name 2 sc.nd) (mss_cons (ms_par2 rfl sc.nd (mas_val (me_callS c__law_taken (hr.mono (by omega)) tk (mas_ref (pv 0) (mas_val (me_callS c__law_pick (hr.mono (by omega)) tk (mas_ref (pv 0) (mas_val (me_lst (ma_cons me_int (ma_cons me_int (ma_cons me_int ma_nil)))) mas_nil))) mas_nil))) (mas_val (me_callS c__law_taken (hr.mono (by omega)) tk (mas_ref (pv 0) (mas_val (me_callS c__law_pick (hr.mono (by omega)) tk (mas_ref (pv 0) (mas_val (me_lst (ma_cons me_int (ma_cons me_int (ma_cons me_int ma_nil)))) mas_nil))) mas_nil))) mas_nil)))
      (mss_cons (ms_if (mt_cmpT (op_dNotIn (hu1 hr)) sim_dNotInT (mk_tup (ma_cons (me_var 7 (pv 7)) (ma_cons (me_var 8 (pv 8)) ma_nil))) (mv_var 6 (pv 6)) (by rfl)) (mss_one (ms_putT (hu1 hr) (pv 6) (mk_tup (ma_cons (me_var 7 (pv 7)) (ma_cons (me_var 8 (pv 8)) ma_nil))) (me_tup (ma_cons (me_var 7 (pv 7)) (ma_cons (me_var 8 (pv 8)) (ma_cons (me_callS c__law_pick (hr.mono (by omega)) tk (mas_ref (pv 0) (mas_val (me_var 3 (pv 3)) mas_nil))) (ma_cons (me_callS c__law_pick (hr.mono (by omega)) tk (mas_ref (pv 0) (mas_val (me_lst (ma_cons me_str (ma_cons me_str ma_nil))) mas_nil))) (ma_cons (me_callS c__law_pick (hr.mono (by omega)) tk (mas_ref (pv 0) (mas_val (me_var 4 (pv 4)) mas_nil))) (ma_cons (me_callS c__law_taken (hr.mono (by omega)) tk (mas_ref (pv 0) (mas_val (me_callS c__law_pick (hr.mono (by omega)) tk (mas_ref (pv 0) (mas_val (me_lst (ma_cons me_int (ma_cons me_int (ma_cons me_int ma_nil)))) mas_nil))) mas_nil))) ma_nil))))))))) mss_nil)
      (mss_one (ms_app (pv 5) (me_dgetPT (hu1 hr) (pv 6) (mk_tup (ma_cons (me_var 7 (pv 7)) (ma_cons (me_var 8 (pv 8)) ma_nil)))))))))
      (mss_one (ms_ret (me_ty1 (call_tuple_of) (sim_tuple hK) (by decide +kernel) T.n_tuple (mv_var 5 (pv 5)))))))) hm b
abbrev s__law_alike : Stmt := topS 35
theorem sc__law_alike : FnScope ["found", "due", "k"] ["found", "due"] (defScope s__law_alike) := ⟨rfl, rfl, rfl, by decide +kernel, rfl, by decide +kernel, by decide +kernel⟩
theorem ok__law_alike (T : Facts K mg) (XF : FactsX P w K mg base G) (hK : G.K = K) {fa : Addr} {fd : FuncData} (F : Fun K "_law_alike" "_law_alike" s__law_alike fa fd) (hm : mg "_law_alike" = some (.ref fa)) (b : Binds K fd ["found", "due"] [])  : ∀ n : Nat, MCal P w K mg base G (1 + n) "_law_alike" 2 (dn__law_alike n)
  | 0 => cal_M F (FnOk.mono (fn_stuck F sc__law_alike rfl) (by omega)) hm b
  | n + 1 => by
    have c__law_alike := ok__law_alike T XF hK F hm b  n
    have sc := sc__law_alike
    exact cal_M F (FnOk.mono (fn_M (k := 1 + n) F sc rfl (by decide) fun cdv A outer sh H E hr tk hp =>
      (mss_cons (ms_if (mt_val (me_isi2 hK T.n_isinstance (by decide +kernel) (by decide +kernel) T.n_tuple T.n_list (me_var 1 (pv 1)))) (mss_cons (ms_if (mt_w (mw_or (mt_not (mt_val (me_isi2 hK T.n_isinstance (by decide +kernel) (by decide +kernel) T.n_tuple T.n_list (me_var 0 (pv 0))))) (mw_or1 (mt_cmp (op_neD (hu64 hr)) (sim_ne hK) (me_isi hK T.n_isinstance (by decide +kernel) T.n_list (mv_of (me_var 0 (pv 0)))) (mv_of (me_isi hK T.n_isinstance (by decide +kernel) T.n_list (mv_of (me_var 1 (pv 1))))) (nomark _))))) (mss_one (ms_ret me_bl)) mss_nil)
      (mss_cons (ms_if (mt_cmp (op_neD (hu64 hr)) (sim_ne hK) (me_bi1 (cr_lenM) (sim_len hK) (by decide +kernel) T.n_len (mv_of (me_var 0 (pv 0)))) (mv_of (me_bi1 (cr_lenM) (sim_len hK) (by decide +kernel) T.n_len (mv_of (me_var 1 (pv 1))))) (nomark _)) (mss_one (ms_ret me_bl)) mss_nil)
      (mss_one (ms_ret (me_cmp (op_eqD (hu64 hr)) (sim_eq hK) (me_own (mn_comp (own := [("k", 2)]) rfl sc.nd (mi_range1 T.n_range (me_bi1 (cr_lenM) (sim_len hK) (by decide +kernel) T.n_len (mv_of (me_var 1 (pv 1))))) (blkOk_by (by kernel_rfl)) (gsim_name 2) (fun _ _ _ _ _ => (pg_name (i := 2) sc.nd rfl (by first | exact .inl rfl | exact .inr rfl))) (fun _ _ _ _ _ => (mts_one (mt_not (mt_val (me_call c__law_alike (hr.mono (by omega)) takes0N (ma_cons (me_ix ix_seq (sim_ix hK) (me_var 0 (pv 0)) (mv_of (me_var 2 (pv 2))) (fun _ _ => rfl)) (ma_cons (me_ix ix_seq (sim_ix hK) (me_var 1 (pv 1)) (mv_of (me_var 2 (pv 2))) (fun _ _ => rfl)) ma_nil))))))) (fun _ _ _ _ _ => (me_var 2 (pv 2))))) (mv_of (me_lst ma_nil)) (nomark _)))))) mss_nil)
      (mss_cons (ms_if (mt_w (mw_or (mt_cmp op_isM sim_is (me_var 1 (pv 1)) (mv_of me_non) (nomark _)) (mw_or1 (mt_val (me_isi hK T.n_isinstance (by decide +kernel) T.n_str (mv_of (me_var 1 (pv 1)))))))) (mss_one (ms_ret (me_and (me_cmp (op_eqD (hu64 hr)) (sim_eq hK) (me_var 0 (pv 0)) (mv_of (me_var 1 (pv 1))) (nomark _)) (me_one (me_cmp (op_eqD (hu64 hr)) (sim_eq hK) (me_isi hK T.n_isinstance (by decide +kernel) T.n_str (mv_of (me_var 0 (pv 0)))) (mv_of (me_isi hK T.n_isinstance (by decide +kernel) T.n_str (mv_of (me_var 1 (pv 1))))) (nomark _)))))) mss_nil)
      (mss_one (ms_ret (me_and (me_isi hK T.n_isinstance (by decide +kernel) T.n_int (mv_of (me_var 0 (pv 0)))) (me_and (me_cmp (op_eqD (hu64 hr)) (sim_eq hK) (me_isi hK T.n_isinstance (by decide +kernel) T.n_bool (mv_of (me_var 0 (pv 0)))) (mv_of (me_isi hK T.n_isinstance (by decide +kernel) T.n_bool (mv_of (me_var 1 (pv 1))))) (nomark _)) (me_one (me_cmp (op_eqD (hu64 hr)) (sim_eq hK) (me_var 0 (pv 0)) (mv_of (me_var 1 (pv 1))) (nomark _)))))))))) (by omega)) hm b
abbrev s_is_whole : Stmt := topS 3
theorem sc_is_whole : FnScope ["value"] ["value"] (defScope s_is_whole) := ⟨rfl, rfl, rfl, by decide +kernel, rfl, by decide +kernel, by decide +kernel⟩
theorem ok_is_whole (T : Facts K mg) (XF : FactsX P w K mg base G) (hK : G.K = K) {fa : Addr} {fd : FuncData} (F : Fun K "is_whole" "is_whole" s_is_whole fa fd) (hm : mg "is_whole" = some (.ref fa)) (b : Binds K fd ["value"] [])  : MCal P w K mg base G 1 "is_whole" 1 dn_is_whole := by
  have sc := sc_is_whole
  exact cal_M F (fn_M (k := 0) F sc rfl (by decide) fun cdv A outer sh H E hr tk hp =>
      (mss_one (ms_ret (me_and (me_isi hK T.n_isinstance (by decide +kernel) T.n_int (mv_of (me_var 0 (pv 0)))) (me_one (me_not (me_isi hK T.n_isinstance (by decide +kernel) T.n_bool (mv_of (me_var 0 (pv 0)))))))))) hm b
abbrev s_is_within : Stmt := topS 4
theorem sc_is_within : FnScope ["value", "least", "most"] ["value", "least", "most"] (defScope s_is_within) := ⟨rfl, rfl, rfl, by decide +kernel, rfl, by decide +kernel, by decide +kernel⟩
theorem ok_is_within (T : Facts K mg) (XF : FactsX P w K mg base G) (hK : G.K = K) {fa : Addr} {fd : FuncData} (F : Fun K "is_within" "is_within" s_is_within fa fd) (hm : mg "is_within" = some (.ref fa)) (b : Binds K fd ["value", "least", "most"] []) (c_is_whole : MCal P w K mg base G 1 "is_whole" 1 dn_is_whole) : MCal P w K mg base G 2 "is_within" 3 dn_is_within := by
  have sc := sc_is_within
  exact cal_M F (fn_M (k := 1) F sc rfl (by decide) fun cdv A outer sh H E hr tk hp =>
      (mss_one (ms_ret (me_and (me_call c_is_whole (hr.mono (by omega)) tk (ma_cons (me_var 0 (pv 0)) ma_nil)) (me_one (me_chain op_le op_le sim_le sim_le (me_var 1 (pv 1)) (me_var 0 (pv 0)) (me_var 2 (pv 2)))))))) hm b
abbrev s_is_row : Stmt := topS 6
theorem sc_is_row : FnScope ["value", "size"] ["value", "size"] (defScope s_is_row) := ⟨rfl, rfl, rfl, by decide +kernel, rfl, by decide +kernel, by decide +kernel⟩
theorem ok_is_row (T : Facts K mg) (XF : FactsX P w K mg base G) (hK : G.K = K) {fa : Addr} {fd : FuncData} (F : Fun K "is_row" "is_row" s_is_row fa fd) (hm : mg "is_row" = some (.ref fa)) (b : Binds K fd ["value", "size"] [])  : MCal P w K mg base G 1 "is_row" 2 dn_is_row := by
  have sc := sc_is_row
  exact cal_M F (fn_M (k := 0) F sc rfl (by decide) fun cdv A outer sh H E hr tk hp =>
      (mss_one (ms_ret (me_and (me_isi hK T.n_isinstance (by decide +kernel) T.n_tuple (mv_of (me_var 0 (pv 0)))) (me_one (me_cmp (op_eqD (hu64 hr)) (sim_eq hK) (me_bi1 (cr_lenM) (sim_len hK) (by decide +kernel) T.n_len (mv_of (me_var 0 (pv 0)))) (mv_of (me_var 1 (pv 1))) (nomark _))))))) hm b
abbrev s_is_name : Stmt := topS 5
theorem sc_is_name : FnScope ["value", "sign"] ["value"] (defScope s_is_name) := ⟨rfl, rfl, rfl, by decide +kernel, rfl, by decide +kernel, by decide +kernel⟩
theorem ok_is_name (T : Facts K mg) (XF : FactsX P w K mg base G) (hK : G.K = K) {fa : Addr} {fd : FuncData} (F : Fun K "is_name" "is_name" s_is_name fa fd) (hm : mg "is_name" = some (.ref fa)) (b : Binds K fd ["value"] [])  : MCal P w K mg base G 1 "is_name" 1 dn_is_name := by
  obtain ⟨_, g_LETTERS⟩ := T.g_LETTERS
  obtain ⟨_, g_LONGEST⟩ := T.g_LONGEST
  have sc := sc_is_name
  exact cal_M F (fn_M (k := 0) F sc rfl (by decide) fun cdv A outer sh H E hr tk hp =>
      (mss_cons (ms_if (mt_w (mw_or (mt_not (mt_val (me_isi hK T.n_isinstance (by decide +kernel) T.n_str (mv_of (me_var 0 (pv 0)))))) (mw_or1 (mt_not (mt_chain op_le op_le sim_le sim_le me_int (me_bi1 (cr_lenM) (sim_len hK) (by decide +kernel) T.n_len (mv_of (me_var 0 (pv 0)))) (me_gint g_LONGEST)))))) (mss_one (ms_ret me_bl)) mss_nil)
      (mss_one (ms_ret (me_bi1 (cr_all rfl) sim_all (by decide +kernel) T.n_all (mv_of (me_own (mn_comp (own := [("sign", 1)]) rfl sc.nd (mi_seq hK (me_var 0 (pv 0))) (blkOk_by (by kernel_rfl)) (gsim_name 1) (fun _ _ _ _ _ => (pg_name (i := 1) sc.nd rfl (by first | exact .inl rfl | exact .inr rfl))) (fun _ _ _ _ _ => mts_nil) (fun _ _ _ _ _ => (me_cmp (op_inM (hu65 hr)) (sim_in hK) (me_var 1 (pv 1)) (mv_of (me_gstr g_LETTERS)) (by rfl))))))))))) hm b
abbrev s_is_told_row : Stmt := topS 21
theorem sc_is_told_row : FnScope ["row", "ahead", "one"] ["row", "ahead"] (defScope s_is_told_row) := ⟨rfl, rfl, rfl, by decide +kernel, rfl, by decide +kernel, by decide +kernel⟩
theorem ok_is_told_row (T : Facts K mg) (XF : FactsX P w K mg base G) (hK : G.K = K) {fa : Addr} {fd : FuncData} (F : Fun K "is_told_row" "is_told_row" s_is_told_row fa fd) (hm : mg "is_told_row" = some (.ref fa)) (b : Binds K fd ["row", "ahead"] []) (c_is_within : MCal P w K mg base G 2 "is_within" 3 dn_is_within) (c_is_row : MCal P w K mg base G 1 "is_row" 2 dn_is_row) (c_is_name : MCal P w K mg base G 1 "is_name" 1 dn_is_name) : MCal P w K mg base G 3 "is_told_row" 2 dn_is_told_row := by
  obtain ⟨_, g_BACK⟩ := T.g_BACK
  obtain ⟨_, g_MOST_MARK⟩ := T.g_MOST_MARK
  obtain ⟨_, g_MOST_PIECES⟩ := T.g_MOST_PIECES
  obtain ⟨_, g_MOST_RANK⟩ := T.g_MOST_RANK
  obtain ⟨_, g_SOLD⟩ := T.g_SOLD
  have sc := sc_is_told_row
  exact cal_M F (fn_M (k := 2) F sc rfl (by decide) fun cdv A outer sh H E hr tk hp =>
      (mss_cons (ms_if (mt_w (mw_or (mt_not (mt_val (me_call c_is_row (hr.mono (by omega)) tk (ma_cons (me_var 0 (pv 0)) (ma_cons me_int ma_nil))))) (mw_or (mt_not (mt_val (me_call c_is_within (hr.mono (by omega)) tk (ma_cons (me_ix ix_seq (sim_ix hK) (me_var 0 (pv 0)) (mv_of me_int) (fun _ _ => rfl)) (ma_cons me_int (ma_cons (me_gint g_MOST_MARK) ma_nil)))))) (mw_or1 (mt_not (mt_val (me_call c_is_within (hr.mono (by omega)) tk (ma_cons (me_ix ix_seq (sim_ix hK) (me_var 0 (pv 0)) (mv_of me_int) (fun _ _ => rfl)) (ma_cons me_int (ma_cons (me_gint g_MOST_RANK) ma_nil)))))))))) (mss_one (ms_ret me_bl)) mss_nil)
      (mss_cons (ms_if (mt_w (mw_or (mt_not (mt_val (me_call c_is_name (hr.mono (by omega)) tk (ma_cons (me_ix ix_seq (sim_ix hK) (me_var 0 (pv 0)) (mv_of me_int) (fun _ _ => rfl)) ma_nil)))) (mw_or (mt_not (mt_val (me_isi hK T.n_isinstance (by decide +kernel) T.n_str (mv_of (me_ix ix_seq (sim_ix hK) (me_var 0 (pv 0)) (mv_of me_int) (fun _ _ => rfl)))))) (mw_or (mt_cmp (op_notInM (hu65 hr)) (sim_notIn hK) (me_ix ix_seq (sim_ix hK) (me_var 0 (pv 0)) (mv_of me_int) (fun _ _ => rfl)) (mv_of (me_tup (ma_cons (me_gstr g_SOLD) (ma_cons (me_gstr g_BACK) ma_nil)))) (by rfl)) (mw_or1 (mt_not (mt_val (me_call c_is_name (hr.mono (by omega)) tk (ma_cons (me_ix ix_seq (sim_ix hK) (me_var 0 (pv 0)) (mv_of me_int) (fun _ _ => rfl)) ma_nil))))))))) (mss_one (ms_ret me_bl)) mss_nil)
      (mss_cons (ms_if (mt_not (mt_val (me_call c_is_within (hr.mono (by omega)) tk (ma_cons (me_ix ix_seq (sim_ix hK) (me_var 0 (pv 0)) (mv_of me_int) (fun _ _ => rfl)) (ma_cons me_int (ma_cons (me_gint g_MOST_PIECES) ma_nil)))))) (mss_one (ms_ret me_bl)) mss_nil)
      (mss_one (ms_ret (me_bi1 (cr_all rfl) sim_all (by decide +kernel) T.n_all (mv_of (me_own (mn_comp (own := [("one", 2)]) rfl sc.nd (mi_seq hK (me_var 1 (pv 1))) (blkOk_by (by kernel_rfl)) (gsim_name 2) (fun _ _ _ _ _ => (pg_name (i := 2) sc.nd rfl (by first | exact .inl rfl | exact .inr rfl))) (fun _ _ _ _ _ => (mts_one (mt_cmp (op_eqD (hu64 hr)) (sim_eq hK) (me_cut hK (me_var 2 (pv 2)) mo_none (mo_some me_int)) (mv_of (me_cut hK (me_var 0 (pv 0)) mo_none (mo_some me_int))) (nomark _)))) (fun _ _ _ _ _ => (me_cmp (op_eqD (hu64 hr)) (sim_eq hK) (me_var 2 (pv 2)) (mv_of (me_var 0 (pv 0))) (nomark _))))))))))))) hm b
abbrev s_first_wrong : Stmt := topS 7
theorem sc_first_wrong : FnScope ["value", "least", "most", "judge", "place", "row"] ["value", "least", "most", "judge"] (defScope s_first_wrong) := ⟨rfl, rfl, rfl, by decide +kernel, rfl, by decide +kernel, by decide +kernel⟩
theorem ok_first_wrong (T : Facts K mg) (XF : FactsX P w K mg base G) (hK : G.K = K) {fa : Addr} {fd : FuncData} (F : Fun K "first_wrong" "first_wrong" s_first_wrong fa fd) (hm : mg "first_wrong" = some (.ref fa)) (b : Binds K fd ["value", "least", "most", "judge"] []) (c_is_told_row : MCal P w K mg base G 3 "is_told_row" 2 dn_is_told_row) : MCal P w K mg base G 4 "first_wrong" 4 dn_first_wrong := by
  have sc := sc_first_wrong
  exact cal_M F (fn_M (k := 3) F sc rfl (by decide) fun cdv A outer sh H E hr tk hp =>
      (mss_cons (ms_if (mt_w (mw_or (mt_not (mt_val (me_isi hK T.n_isinstance (by decide +kernel) T.n_tuple (mv_of (me_var 0 (pv 0)))))) (mw_or1 (mt_not (mt_chain op_le op_le sim_le sim_le (me_var 1 (pv 1)) (me_bi1 (cr_lenM) (sim_len hK) (by decide +kernel) T.n_len (mv_of (me_var 0 (pv 0)))) (me_var 2 (pv 2))))))) (mss_one (ms_ret (me_un un_neg sim_neg (mv_of me_int)))) mss_nil)
      (mss_cons (ms_for (vs := [4, 5]) hp rfl (mi_enum hK T.n_enumerate (me_var 0 (pv 0))) (mg_tup hK rfl (mgs_cons (mg_name 4 sc.nd) (mgs_cons (mg_name 5 sc.nd) mgs_nil))) (mss_one (ms_if (mt_not (mt_val (me_callV (fun y a q h1 h2 => tabF_ok XF.fns c_is_told_row h1 h2) (hr.mono (by omega)) tk (pv 3) (ma_cons (me_var 5 (pv 5)) (ma_cons (me_cut hK (me_var 0 (pv 0)) mo_none (mo_some (me_var 4 (pv 4)))) ma_nil))))) (mss_one (ms_ret (me_var 4 (pv 4)))) mss_nil)))
      (mss_one (ms_ret me_non))))) hm b
abbrev s_place_told : Stmt := topS 8
theorem sc_place_told : FnScope ["place"] ["place"] (defScope s_place_told) := ⟨rfl, rfl, rfl, by decide +kernel, rfl, by decide +kernel, by decide +kernel⟩
theorem ok_place_told (T : Facts K mg) (XF : FactsX P w K mg base G) (hK : G.K = K) {fa : Addr} {fd : FuncData} (F : Fun K "place_told" "place_told" s_place_told fa fd) (hm : mg "place_told" = some (.ref fa)) (b : Binds K fd ["place"] [])  : MCal P w K mg base G 1 "place_told" 1 dn_place_told := by
  have sc := sc_place_told
  exact cal_M F (fn_M (k := 0) F sc rfl (by decide) fun cdv A outer sh H E hr tk hp =>
      (mss_one (ms_ret (me_if (mt_cmp (op_eqD (hu64 hr)) (sim_eq hK) (me_var 0 (pv 0)) (mv_of (me_un un_neg sim_neg (mv_of me_int))) (nomark _)) me_non (me_var 0 (pv 0)))))) hm b
abbrev s_require_rows : Stmt := topS 22
theorem sc_require_rows : FnScope ["rows", "place"] ["rows"] (defScope s_require_rows) := ⟨rfl, rfl, rfl, by decide +kernel, rfl, by decide +kernel, by decide +kernel⟩
theorem ok_require_rows (T : Facts K mg) (XF : FactsX P w K mg base G) (hK : G.K = K) {fa : Addr} {fd : FuncData} (F : Fun K "require_rows" "require_rows" s_require_rows fa fd) (hm : mg "require_rows" = some (.ref fa)) (b : Binds K fd ["rows"] []) (c_first_wrong : MCal P w K mg base G 4 "first_wrong" 4 dn_first_wrong) : MCal P w K mg base G 5 "require_rows" 1 dn_require_rows := by
  obtain ⟨_, g_MOST_ROWS⟩ := T.g_MOST_ROWS
  have sc := sc_require_rows
  exact cal_M F (fn_M (k := 4) F sc rfl (by decide) fun cdv A outer sh H E hr tk hp =>
      (mss_cons (ms_set 1 sc.nd (me_call c_first_wrong (hr.mono (by omega)) tk (ma_cons (me_var 0 (pv 0)) (ma_cons me_int (ma_cons (me_gint g_MOST_ROWS) (ma_cons (me_fnv XF.fv_is_told_row.choose_spec.1 XF.fv_is_told_row.choose_spec.2) ma_nil))))))
      (mss_one (ms_if (mt_cmp op_isNotM sim_isNot (me_var 1 (pv 1)) (mv_of me_non) (nomark _)) (mss_one ms_never) mss_nil)))) hm b
abbrev s_standing_of : Stmt := topS 23
theorem sc_standing_of : FnScope ["rows", "best", "row", "mark"] ["rows"] (defScope s_standing_of) := ⟨rfl, rfl, rfl, by decide +kernel, rfl, by decide +kernel, by decide +kernel⟩
theorem ok_standing_of (T : Facts K mg) (XF : FactsX P w K mg base G) (hK : G.K = K) {fa : Addr} {fd : FuncData} (F : Fun K "standing_of" "standing_of" s_standing_of fa fd) (hm : mg "standing_of" = some (.ref fa)) (b : Binds K fd ["rows"] [])  : MCal P w K mg base G 1 "standing_of" 1 dn_standing_of := by
  have sc := sc_standing_of
  exact cal_M F (fn_M (k := 0) F sc rfl (by decide) fun cdv A outer sh H E hr tk hp =>
      (mss_cons (ms_new 1 sc.nd mn_dicK)
      (mss_cons (ms_for (vs := [2]) hp rfl (mi_seq hK (me_var 0 (pv 0))) (mg_name 2 sc.nd) (mss_one (ms_if (mt_w (mw_or (mt_cmp (op_dNotIn (hu1 hr)) sim_dNotInK (me_ixP ix_seq (sim_ix hK) (pv 2) (mv_of me_int) (fun _ _ => rfl)) (mv_var 1 (pv 1)) (by rfl)) (mw_or1 (mt_cmp op_ltM sim_lt (me_ix ix_seq (sim_ix hK) (me_dgetP (hu1 hr) (pv 1) (mv_of (me_ixP ix_seq (sim_ix hK) (pv 2) (mv_of me_int) (fun _ _ => rfl)))) (mv_of me_int) (fun _ _ => rfl)) (mv_of (me_ixP ix_seq (sim_ix hK) (pv 2) (mv_of me_int) (fun _ _ => rfl))) (nomark _))))) (mss_one (ms_putK (hu1 hr) (pv 1) (me_ixP ix_seq (sim_ix hK) (pv 2) (mv_of me_int) (fun _ _ => rfl)) (me_var 2 (pv 2)))) mss_nil)))
      (mss_one (ms_ret (me_own (mn_comp (own := [("mark", 3)]) rfl sc.nd (mi_seq hK (me_bi1 (call_sortedDI rfl) (simC_of sim_sortedK) (by decide +kernel) T.n_sorted (mv_var 1 (pv 1)))) (blkOk_by (by kernel_rfl)) (gsim_name 3) (fun _ _ _ _ _ => (pg_name (i := 3) sc.nd rfl (by first | exact .inl rfl | exact .inr rfl))) (fun _ _ _ _ _ => mts_nil) (fun _ _ _ _ _ => (me_dgetP (hu1 hr) (pv 1) (mv_of (me_var 3 (pv 3)))))))))))) hm b
abbrev s_standing : Stmt := topS 24
theorem sc_standing : FnScope ["rows"] ["rows"] (defScope s_standing) := ⟨rfl, rfl, rfl, by decide +kernel, rfl, by decide +kernel, by decide +kernel⟩
theorem ok_standing (T : Facts K mg) (XF : FactsX P w K mg base G) (hK : G.K = K) {fa : Addr} {fd : FuncData} (F : Fun K "standing" "standing" s_standing fa fd) (hm : mg "standing" = some (.ref fa)) (b : Binds K fd ["rows"] []) (c_require_rows : MCal P w K mg base G 5 "require_rows" 1 dn_require_rows) (c_standing_of : MCal P w K mg base G 1 "standing_of" 1 dn_standing_of) : MCal P w K mg base G 6 "standing" 1 dn_standing := by
  have sc := sc_standing
  exact cal_M F (fn_M (k := 5) F sc rfl (by decide) fun cdv A outer sh H E hr tk hp =>
      (mss_cons (ms_expr (me_call c_require_rows (hr.mono (by omega)) tk (ma_cons (me_var 0 (pv 0)) ma_nil)))
      (mss_one (ms_ret (me_ty1 (call_tuple_of) (sim_tuple hK) (by decide +kernel) T.n_tuple (mv_of (me_call c_standing_of (hr.mono (by omega)) tk (ma_cons (me_var 0 (pv 0)) ma_nil)))))))) hm b
abbrev s_are_alike : Stmt := topS 25
theorem sc_are_alike : FnScope ["one", "other"] ["one", "other"] (defScope s_are_alike) := ⟨rfl, rfl, rfl, by decide +kernel, rfl, by decide +kernel, by decide +kernel⟩
theorem ok_are_alike (T : Facts K mg) (XF : FactsX P w K mg base G) (hK : G.K = K) {fa : Addr} {fd : FuncData} (F : Fun K "are_alike" "are_alike" s_are_alike fa fd) (hm : mg "are_alike" = some (.ref fa)) (b : Binds K fd ["one", "other"] []) (c_standing : MCal P w K mg base G 6 "standing" 1 dn_standing) : MCal P w K mg base G 7 "are_alike" 2 dn_are_alike := by
  have sc := sc_are_alike
  exact cal_M F (fn_M (k := 6) F sc rfl (by decide) fun cdv A outer sh H E hr tk hp =>
      (mss_one (ms_ret (me_cmp (op_eqD (hu64 hr)) (sim_eq hK) (me_call c_standing (hr.mono (by omega)) tk (ma_cons (me_var 0 (pv 0)) ma_nil)) (mv_of (me_call c_standing (hr.mono (by omega)) tk (ma_cons (me_var 1 (pv 1)) ma_nil))) (nomark _))))) hm b
abbrev s__law_standing : Stmt := topS 38
theorem sc__law_standing : FnScope ["rows", "found", "mark", "mine", "one"] ["rows"] (defScope s__law_standing) := ⟨rfl, rfl, rfl, by decide +kernel, rfl, by decide +kernel, by decide +kernel⟩
theorem ok__law_standing (T : Facts K mg) (XF : FactsX P w K mg base G) (hK : G.K = K) {fa : Addr} {fd : FuncData} (F : Fun K "_law_standing" "_law_standing" s__law_standing fa fd) (hm : mg "_law_standing" = some (.ref fa)) (b : Binds K fd ["rows"] [])  : MCal P w K mg base G 1 "_law_standing" 1 dn__law_standing := by
  have sc := sc__law_standing
  exact cal_M F (fn_M (k := 0) F sc rfl (by decide) fun cdv A outer sh H E hr tk hp =>
      (mss_cons (ms_new 1 sc.nd (mn_lst ma_nil))
      (mss_cons (ms_for (vs := [2]) hp rfl (mi_range1 T.n_range me_int) (mg_name 2 sc.nd) (mss_cons (ms_setComp (own := [("one", 4)]) 3 rfl sc.nd (mi_seq hK (me_var 0 (pv 0))) (blkOk_by (by kernel_rfl)) (gsim_name 4) (fun _ _ _ _ _ => (pg_name (i := 4) sc.nd rfl (by first | exact .inl rfl | exact .inr rfl))) (fun _ _ _ _ _ => (mts_one (mt_cmp (op_eqD (hu64 hr)) (sim_eq hK) (me_ix ix_seq (sim_ix hK) (me_var 4 (pv 4)) (mv_of me_int) (fun _ _ => rfl)) (mv_of (me_var 2 (pv 2))) (nomark _)))) (fun _ _ _ _ _ => (me_var 4 (pv 4))) (sw_true rfl rfl rfl (by kernel_rfl)))
      (mss_one (ms_if (mt_cmp (op_neD (hu64 hr)) (sim_ne hK) (me_var 3 (pv 3)) (mv_of (me_lst ma_nil)) (nomark _)) (mss_one (ms_app (pv 1) (me_ix ix_seq (sim_ix hK) (me_bi1 (cr_sortedG (hu67 hr)) (simC_of (sim_sortedG hK)) (by decide +kernel) T.n_sorted (mv_of (me_var 3 (pv 3)))) (mv_of (me_un un_neg sim_neg (mv_of me_int))) (fun _ _ => rfl)))) mss_nil))))
      (mss_one (ms_ret (me_var 1 (pv 1))))))) hm b
abbrev s_require_deposits : Stmt := topS 26
theorem sc_require_deposits : FnScope ["deposits", "money", "kind"] ["deposits"] (defScope s_require_deposits) := ⟨rfl, rfl, rfl, by decide +kernel, rfl, by decide +kernel, by decide +kernel⟩
theorem ok_require_deposits (T : Facts K mg) (XF : FactsX P w K mg base G) (hK : G.K = K) {fa : Addr} {fd : FuncData} (F : Fun K "require_deposits" "require_deposits" s_require_deposits fa fd) (hm : mg "require_deposits" = some (.ref fa)) (b : Binds K fd ["deposits"] []) (c_is_within : MCal P w K mg base G 2 "is_within" 3 dn_is_within) (c_is_name : MCal P w K mg base G 1 "is_name" 1 dn_is_name) : MCal P w K mg base G 3 "require_deposits" 1 dn_require_deposits := by
  obtain ⟨_, g_MOST_DEPOSIT⟩ := T.g_MOST_DEPOSIT
  have sc := sc_require_deposits
  exact cal_M F (fn_M (k := 2) F sc rfl (by decide) fun cdv A outer sh H E hr tk hp =>
      (mss_cons (ms_if (mt_w (mw_or (mt_not (mt_val (me_isi hK T.n_isinstance (by decide +kernel) T.n_dict (mv_of (me_var 0 (pv 0)))))) (mw_or1 (mt_not (mt_val (me_bi1 (cr_all rfl) sim_all (by decide +kernel) T.n_all (mv_of (me_own (mn_comp (own := [("kind", 2)]) rfl sc.nd (mi_keysD (me_var 0 (pv 0))) (blkOk_by (by kernel_rfl)) (gsim_name 2) (fun _ _ _ _ _ => (pg_name (i := 2) sc.nd rfl (by first | exact .inl rfl | exact .inr rfl))) (fun _ _ _ _ _ => mts_nil) (fun _ _ _ _ _ => (me_call c_is_name (hr.mono (by omega)) takes0N (ma_cons (me_var 2 (pv 2)) ma_nil)))))))))))) (mss_one ms_never) mss_nil)
      (mss_one (ms_for (vs := [1]) hp rfl (mi_valsD (me_var 0 (pv 0))) (mg_name 1 sc.nd) (mss_one (ms_if (mt_not (mt_val (me_call c_is_within (hr.mono (by omega)) tk (ma_cons (me_var 1 (pv 1)) (ma_cons me_int (ma_cons (me_gint g_MOST_DEPOSIT) ma_nil)))))) (mss_one ms_never) mss_nil)))))) hm b
abbrev s_due_of : Stmt := topS 28
theorem sc_due_of : FnScope ["rows", "deposits", "house", "total", "row"] ["rows", "deposits", "house"] (defScope s_due_of) := ⟨rfl, rfl, rfl, by decide +kernel, rfl, by decide +kernel, by decide +kernel⟩
theorem ok_due_of (T : Facts K mg) (XF : FactsX P w K mg base G) (hK : G.K = K) {fa : Addr} {fd : FuncData} (F : Fun K "due_of" "due_of" s_due_of fa fd) (hm : mg "due_of" = some (.ref fa)) (b : Binds K fd ["rows", "deposits", "house"] [])  : MCal P w K mg base G 1 "due_of" 3 dn_due_of := by
  obtain ⟨_, g_BACK⟩ := T.g_BACK
  have sc := sc_due_of
  exact cal_M F (fn_M (k := 0) F sc rfl (by decide) fun cdv A outer sh H E hr tk hp =>
      (mss_cons (ms_set 3 sc.nd me_int)
      (mss_cons (ms_for (vs := [4]) hp rfl (mi_seq hK (me_var 0 (pv 0))) (mg_name 4 sc.nd) (mss_one (ms_if (mt_cmp (op_eqD (hu64 hr)) (sim_eq hK) (me_ix ix_seq (sim_ix hK) (me_var 4 (pv 4)) (mv_of me_int) (fun _ _ => rfl)) (mv_of (me_var 2 (pv 2))) (nomark _)) (mss_one (ms_aug iop_add sim_iadd sc.nd (me_bin op_mulS (sim_mulS hK) (me_if (mt_cmp (op_eqD (hu64 hr)) (sim_eq hK) (me_ix ix_seq (sim_ix hK) (me_var 4 (pv 4)) (mv_of me_int) (fun _ _ => rfl)) (mv_of (me_gstr g_BACK)) (nomark _)) (me_ix ix_seq (sim_ix hK) (me_var 4 (pv 4)) (mv_of me_int) (fun _ _ => rfl)) (me_bin op_sub sim_sub me_int (mv_of (me_ix ix_seq (sim_ix hK) (me_var 4 (pv 4)) (mv_of me_int) (fun _ _ => rfl))))) (mv_of (me_get2 (hu1 hr) (me_var 1 (pv 1)) (me_ix ix_seq (sim_ix hK) (me_var 4 (pv 4)) (mv_of me_int) (fun _ _ => rfl)) me_int))))) mss_nil)))
      (mss_one (ms_ret (me_var 3 (pv 3))))))) hm b
abbrev s_houses_in : Stmt := topS 27
theorem sc_houses_in : FnScope ["rows", "row"] ["rows"] (defScope s_houses_in) := ⟨rfl, rfl, rfl, by decide +kernel, rfl, by decide +kernel, by decide +kernel⟩
theorem ok_houses_in (T : Facts K mg) (XF : FactsX P w K mg base G) (hK : G.K = K) {fa : Addr} {fd : FuncData} (F : Fun K "houses_in" "houses_in" s_houses_in fa fd) (hm : mg "houses_in" = some (.ref fa)) (b : Binds K fd ["rows"] []) (c_standing : MCal P w K mg base G 6 "standing" 1 dn_standing) : MCal P w K mg base G 7 "houses_in" 1 dn_houses_in := by
  have sc := sc_houses_in
  exact cal_M F (fn_M (k := 6) F sc rfl (by decide) fun cdv A outer sh H E hr tk hp =>
      (mss_one (ms_ret (me_ty1 (call_tuple_of) (sim_tuple hK) (by decide +kernel) T.n_tuple (mv_of (me_setThen (setStr _ _) (own := [("row", 1)]) hT_str setR2_str (cr_sortedStr rfl) rfl sc.nd (mi_seq hK (me_call c_standing (hr.mono (by omega)) tk (ma_cons (me_var 0 (pv 0)) ma_nil))) (blkOk_by (by kernel_rfl)) (gsim_name 1) (fun _ _ _ _ _ => (pg_name (i := 1) sc.nd rfl (by first | exact .inl rfl | exact .inr rfl))) (fun _ _ _ _ _ => mts_nil) (fun _ _ _ _ _ => (me_ix ix_seq (sim_ix hK) (me_var 1 (pv 1)) (mv_of me_int) (fun _ _ => rfl))) T.n_sorted (by decide +kernel))))))) hm b
abbrev s_duesX : Stmt := topS 29
theorem sc_duesX : FnScope ["rows", "deposits", "there", "house"] ["rows", "deposits"] (defScope s_duesX) := ⟨rfl, rfl, rfl, by decide +kernel, rfl, by decide +kernel, by decide +kernel⟩
theorem ok_duesX (T : Facts K mg) (XF : FactsX P w K mg base G) (hK : G.K = K) {fa : Addr} {fd : FuncData} (F : Fun K "dues" "dues" s_duesX fa fd) (hm : mg "dues" = some (.ref fa)) (b : Binds K fd ["rows", "deposits"] []) (c_standing : MCal P w K mg base G 6 "standing" 1 dn_standing) (c_require_deposits : MCal P w K mg base G 3 "require_deposits" 1 dn_require_deposits) (c_due_of : MCal P w K mg base G 1 "due_of" 3 dn_due_of) (c_houses_in : MCal P w K mg base G 7 "houses_in" 1 dn_houses_in) : MCal P w K mg base G 8 "dues" 2 dn_duesX := by
  have sc := sc_duesX
  exact cal_M F (fn_M (k := 7) F sc rfl (by decide) fun cdv A outer sh H E hr tk hp =>
      (mss_cons (ms_set 2 sc.nd (me_call c_standing (hr.mono (by omega)) tk (ma_cons (me_var 0 (pv 0)) ma_nil)))
      (mss_cons (ms_expr (me_call c_require_deposits (hr.mono (by omega)) tk (ma_cons (me_var 1 (pv 1)) ma_nil)))
      (mss_one (ms_ret (me_ty1 call_tupleX (sim_tupleX hK) (by decide +kernel) T.n_tuple (mv_of (me_own (mn_comp (own := [("house", 3)]) rfl sc.nd (mi_seq hK (me_call c_houses_in (hr.mono (by omega)) tk (ma_cons (me_var 0 (pv 0)) ma_nil))) (blkOk_by (by kernel_rfl)) (gsim_name 3) (fun _ _ _ _ _ => (pg_name (i := 3) sc.nd rfl (by first | exact .inl rfl | exact .inr rfl))) (fun _ _ _ _ _ => mts_nil) (fun _ _ _ _ _ => (me_tup (ma_cons (me_var 3 (pv 3)) (ma_cons (me_call c_due_of (hr.mono (by omega)) takes0N (ma_cons (me_var 2 (pv 2)) (ma_cons (me_var 1 (pv 1)) (ma_cons (me_var 3 (pv 3)) ma_nil)))) ma_nil))))))))))))) hm b
abbrev s_change : Stmt := topS 31
theorem sc_change : FnScope ["rows", "row", "deposits", "found", "house", "before", "behind", "money", "one"] ["rows", "row", "deposits"] (defScope s_change) := ⟨rfl, rfl, rfl, by decide +kernel, rfl, by decide +kernel, by decide +kernel⟩
theorem ok_change (T : Facts K mg) (XF : FactsX P w K mg base G) (hK : G.K = K) {fa : Addr} {fd : FuncData} (F : Fun K "change" "change" s_change fa fd) (hm : mg "change" = some (.ref fa)) (b : Binds K fd ["rows", "row", "deposits"] []) (c_duesX : MCal P w K mg base G 8 "dues" 2 dn_duesX) : MCal P w K mg base G 9 "change" 3 dn_change := by
  have sc := sc_change
  exact cal_M F (fn_M (k := 8) F sc rfl (by decide) fun cdv A outer sh H E hr tk hp =>
      (mss_cons (ms_parT (is := [5, 6]) hK rfl (mas_val (me_ty1 (call_dictX rfl) (sim_dictX hK) (by decide +kernel) T.n_dict (mv_of (me_call c_duesX (hr.mono (by omega)) tk (ma_cons (me_var 0 (pv 0)) (ma_cons (me_var 2 (pv 2)) ma_nil))))) (mas_val (me_ty1 (call_dictX rfl) (sim_dictX hK) (by decide +kernel) T.n_dict (mv_of (me_call c_duesX (hr.mono (by omega)) tk (ma_cons (me_bin op_addM (sim_add hK) (me_var 0 (pv 0)) (mv_of (me_tup (ma_cons (me_var 1 (pv 1)) ma_nil)))) (ma_cons (me_var 2 (pv 2)) ma_nil))))) mas_nil)) (pgs_cons (pg_name (i := 5) sc.nd rfl (by first | exact .inl rfl | exact .inr rfl)) (pgs_cons (pg_name (i := 6) sc.nd rfl (by first | exact .inl rfl | exact .inr rfl)) pgs_nil)))
      (mss_cons (ms_new 3 sc.nd (mn_lst ma_nil))
      (mss_cons (ms_for (vs := [4]) hp rfl (mi_seq hK (me_bi1 (cr_sortedG (hu67 hr)) (simC_of (sim_sortedG hK)) (by decide +kernel) T.n_sorted (mv_of (me_bin op_addM (sim_add hK) (me_ty1 (call_listD rfl) sim_listK (by decide +kernel) T.n_list (mv_of (me_var 5 (pv 5)))) (mv_of (me_own (mn_comp (own := [("one", 8)]) rfl sc.nd (mi_keysD (me_var 6 (pv 6))) (blkOk_by (by kernel_rfl)) (gsim_name 8) (fun _ _ _ _ _ => (pg_name (i := 8) sc.nd rfl (by first | exact .inl rfl | exact .inr rfl))) (fun _ _ _ _ _ => (mts_one (mt_cmp (op_dNotIn (hu1 hr)) sim_dNotInK (me_var 8 (pv 8)) (mv_of (me_var 5 (pv 5))) (by rfl)))) (fun _ _ _ _ _ => (me_var 8 (pv 8)))))))))) (mg_name 4 sc.nd) (mss_cons (ms_set 7 sc.nd (me_bin op_sub sim_sub (me_get2 (hu1 hr) (me_var 6 (pv 6)) (me_var 4 (pv 4)) me_int) (mv_of (me_get2 (hu1 hr) (me_var 5 (pv 5)) (me_var 4 (pv 4)) me_int))))
      (mss_one (ms_if (mt_cmp (op_neD (hu64 hr)) (sim_ne hK) (me_var 7 (pv 7)) (mv_of me_int) (nomark _)) (mss_one (ms_app (pv 3) (me_tup (ma_cons (me_var 4 (pv 4)) (ma_cons (me_var 7 (pv 7)) ma_nil))))) mss_nil))))
      (mss_one (ms_ret (me_ty1 (call_tuple_of) (sim_tuple hK) (by decide +kernel) T.n_tuple (mv_var 3 (pv 3))))))))) hm b
abbrev s_dues : Stmt := topS 29
theorem sc_dues : FnScope ["rows", "deposits", "there", "house"] ["rows", "deposits"] (defScope s_dues) := ⟨rfl, rfl, rfl, by decide +kernel, rfl, by decide +kernel, by decide +kernel⟩
theorem ok_dues (T : Facts K mg) (XF : FactsX P w K mg base G) (hK : G.K = K) {fa : Addr} {fd : FuncData} (F : Fun K "dues" "dues" s_dues fa fd) (hm : mg "dues" = some (.ref fa)) (b : Binds K fd ["rows", "deposits"] []) (c_standing : MCal P w K mg base G 6 "standing" 1 dn_standing) (c_require_deposits : MCal P w K mg base G 3 "require_deposits" 1 dn_require_deposits) (c_due_of : MCal P w K mg base G 1 "due_of" 3 dn_due_of) (c_houses_in : MCal P w K mg base G 7 "houses_in" 1 dn_houses_in) : MCal P w K mg base G 8 "dues" 2 dn_dues := by
  have sc := sc_dues
  exact cal_M F (fn_M (k := 7) F sc rfl (by decide) fun cdv A outer sh H E hr tk hp =>
      (mss_cons (ms_set 2 sc.nd (me_call c_standing (hr.mono (by omega)) tk (ma_cons (me_var 0 (pv 0)) ma_nil)))
      (mss_cons (ms_expr (me_call c_require_deposits (hr.mono (by omega)) tk (ma_cons (me_var 1 (pv 1)) ma_nil)))
      (mss_one (ms_ret (me_ty1 (call_tuple_of) (sim_tuple hK) (by decide +kernel) T.n_tuple (mv_of (me_own (mn_comp (own := [("house", 3)]) rfl sc.nd (mi_seq hK (me_call c_houses_in (hr.mono (by omega)) tk (ma_cons (me_var 0 (pv 0)) ma_nil))) (blkOk_by (by kernel_rfl)) (gsim_name 3) (fun _ _ _ _ _ => (pg_name (i := 3) sc.nd rfl (by first | exact .inl rfl | exact .inr rfl))) (fun _ _ _ _ _ => mts_nil) (fun _ _ _ _ _ => (me_tup (ma_cons (me_var 3 (pv 3)) (ma_cons (me_call c_due_of (hr.mono (by omega)) takes0N (ma_cons (me_var 2 (pv 2)) (ma_cons (me_var 1 (pv 1)) (ma_cons (me_var 3 (pv 3)) ma_nil)))) ma_nil))))))))))))) hm b
abbrev s_held_back : Stmt := topS 30
theorem sc_held_back : FnScope ["rows", "deposits", "house", "money"] ["rows", "deposits"] (defScope s_held_back) := ⟨rfl, rfl, rfl, by decide +kernel, rfl, by decide +kernel, by decide +kernel⟩
theorem ok_held_back (T : Facts K mg) (XF : FactsX P w K mg base G) (hK : G.K = K) {fa : Addr} {fd : FuncData} (F : Fun K "held_back" "held_back" s_held_back fa fd) (hm : mg "held_back" = some (.ref fa)) (b : Binds K fd ["rows", "deposits"] []) (c_dues : MCal P w K mg base G 8 "dues" 2 dn_dues) : MCal P w K mg base G 9 "held_back" 2 dn_held_back := by
  have sc := sc_held_back
  exact cal_M F (fn_M (k := 8) F sc rfl (by decide) fun cdv A outer sh H E hr tk hp =>
      (mss_one (ms_ret (me_bin op_sub sim_sub me_int (mv_of (me_bi1 (cr_sumM rfl) (sim_sum hK) (by decide +kernel) T.n_sum (mv_of (me_own (mn_comp (own := [("house", 2), ("money", 3)]) rfl sc.nd (mi_seq hK (me_call c_dues (hr.mono (by omega)) tk (ma_cons (me_var 0 (pv 0)) (ma_cons (me_var 1 (pv 1)) ma_nil)))) (blkOk_by (by kernel_rfl)) (gsim_tup hK (gssim_cons (gsim_name 2) (gssim_cons (gsim_name 3) gssim_nil))) (fun _ _ _ _ _ => (pg_tup rfl (pgs_cons (pg_name (i := 2) sc.nd rfl (by first | exact .inl rfl | exact .inr rfl)) (pgs_cons (pg_name (i := 3) sc.nd rfl (by first | exact .inl rfl | exact .inr rfl)) pgs_nil)))) (fun _ _ _ _ _ => mts_nil) (fun _ _ _ _ _ => (me_var 3 (pv 3)))))))))))) hm b
abbrev s_law : Stmt := topS 39
theorem sc_law : FnScope ["script", "row", "turn", "rows", "deposits", "one", "k", "other", "fewer", "mark", "rank", "same", "more", "sums", "told", "left", "house", "kind", "sign", "there"] ["script"] (defScope s_law) := ⟨rfl, rfl, rfl, by decide +kernel, rfl, by decide +kernel, by decide +kernel⟩
theorem ok_law (T : Facts K mg) (XF : FactsX P w K mg base G) (hK : G.K = K) {fa : Addr} {fd : FuncData} (F : Fun K "law" "law" s_law fa fd) (hm : mg "law" = some (.ref fa)) (b : Binds K fd ["script"] []) (c__law_taken : MCal P w K mg base G 1 "_law_taken" 2 dn__law_taken) (c__law_pick : MCal P w K mg base G 2 "_law_pick" 2 dn__law_pick) (c__law_rows : MCal P w K mg base G 3 "_law_rows" 2 dn__law_rows) (c__law_alike : MCal P w K mg base G 11 "_law_alike" 2 (dn__law_alike 10)) (c_are_alike : MCal P w K mg base G 7 "are_alike" 2 dn_are_alike) (c__law_standing : MCal P w K mg base G 1 "_law_standing" 1 dn__law_standing) (c_change : MCal P w K mg base G 9 "change" 3 dn_change) (c_dues : MCal P w K mg base G 8 "dues" 2 dn_dues) (c_held_back : MCal P w K mg base G 9 "held_back" 2 dn_held_back) : FnG P w K mg base 12 fa fd ["script"] (spM G 1 dn_law) := by
  have sc := sc_law
  exact fn_MG (k := 11) F sc rfl (by decide) fun cdv A outer sh H E hr hgd tk hp =>
      (mss_cons (ms_new 1 sc.nd (mn_lst (ma_cons (me_var 0 (pv 0)) (ma_cons me_int (ma_cons me_int (ma_cons me_int ma_nil))))))
      (mss_cons (ms_for (vs := [2]) hp rfl (mi_range1 T.n_range me_int) (mg_name 2 sc.nd) (mss_cons (ms_set 3 sc.nd (me_callS c__law_rows (hr.mono (by omega)) tk (mas_ref (pv 1) (mas_val (me_callS c__law_pick (hr.mono (by omega)) tk (mas_ref (pv 1) (mas_val (me_lst (ma_cons me_int (ma_cons me_int ma_nil))) mas_nil))) mas_nil))))
      (mss_cons (ms_new 4 sc.nd mn_dicK)
      (mss_cons (ms_for (vs := [5]) hp rfl (mi_seq hK (me_cut hK (me_var 3 (pv 3)) mo_none (mo_some me_int))) (mg_name 5 sc.nd) (mss_one (ms_putK (hu1 hr) (pv 4) (me_ixP ix_seq (sim_ix hK) (pv 5) (mv_of me_int) (fun _ _ => rfl)) (me_callS c__law_taken (hr.mono (by omega)) tk (mas_ref (pv 1) (mas_val me_int mas_nil))))))
      (mss_cons (ms_par2 rfl sc.nd (mas_new (mn_list hK T.n_list (mv_of (me_var 3 (pv 3)))) (mas_new (mn_lst ma_nil) mas_nil)))
      (mss_cons (ms_for (vs := [6]) hp rfl (mi_range1 T.n_range (me_bi1 (cr_lenM) (sim_len hK) (by decide +kernel) T.n_len (mv_of (me_var 3 (pv 3))))) (mg_name 6 sc.nd) (mss_one (ms_app (pv 7) (me_popAt (pv 15) (me_callS c__law_taken (hr.mono (by omega)) tk (mas_ref (pv 1) (mas_val (me_bi1 (cr_lenM) (sim_len hK) (by decide +kernel) T.n_len (mv_var 15 (pv 15))) mas_nil)))))))
      (mss_cons (ms_set 7 sc.nd (me_bin op_addM (sim_add hK) (me_ty1 (call_tuple_of) (sim_tuple hK) (by decide +kernel) T.n_tuple (mv_var 7 (pv 7))) (mv_of (me_cut hK (me_var 3 (pv 3)) mo_none (mo_some (me_callS c__law_taken (hr.mono (by omega)) tk (mas_ref (pv 1) (mas_val me_int mas_nil))))))))
      (mss_cons (ms_if (mt_w (mw_or (mt_cmp op_isNotM sim_isNot (me_call c_are_alike (hr.mono (by omega)) tk (ma_cons (me_var 3 (pv 3)) (ma_cons (me_var 7 (pv 7)) ma_nil))) (mv_of me_bl) (nomark _)) (mw_or1 (mt_not (mt_val (me_call c__law_alike (hr.mono (by omega)) tk (ma_cons (me_tup (ma_cons (me_call c_dues (hr.mono (by omega)) tk (ma_cons (me_var 7 (pv 7)) (ma_cons (me_var 4 (pv 4)) ma_nil))) (ma_cons (me_call c_held_back (hr.mono (by omega)) tk (ma_cons (me_var 7 (pv 7)) (ma_cons (me_var 4 (pv 4)) ma_nil))) ma_nil))) (ma_cons (me_tup (ma_cons (me_call c_dues (hr.mono (by omega)) tk (ma_cons (me_var 3 (pv 3)) (ma_cons (me_var 4 (pv 4)) ma_nil))) (ma_cons (me_call c_held_back (hr.mono (by omega)) tk (ma_cons (me_var 3 (pv 3)) (ma_cons (me_var 4 (pv 4)) ma_nil))) ma_nil))) ma_nil)))))))) (mss_one (ms_ret me_bl)) mss_nil)
      (mss_cons (ms_set 8 sc.nd (me_cut hK (me_var 3 (pv 3)) (mo_some me_int) mo_none))
      (mss_cons (ms_if (mt_not (mt_val (me_call c__law_alike (hr.mono (by omega)) tk (ma_cons (me_call c_are_alike (hr.mono (by omega)) tk (ma_cons (me_var 3 (pv 3)) (ma_cons (me_var 8 (pv 8)) ma_nil))) (ma_cons (me_cmp (op_eqD (hu64 hr)) (sim_eq hK) (me_call c__law_standing (hr.mono (by omega)) tk (ma_cons (me_var 3 (pv 3)) ma_nil)) (mv_of (me_call c__law_standing (hr.mono (by omega)) tk (ma_cons (me_var 8 (pv 8)) ma_nil))) (nomark _)) ma_nil))))) (mss_one (ms_ret me_bl)) mss_nil)
      (mss_cons (ms_set 9 sc.nd (me_if (mt_w (mw_and (mt_cmp (op_neD (hu64 hr)) (sim_ne hK) (me_var 3 (pv 3)) (mv_of (me_tup ma_nil)) (nomark _)) (mw_and1 (mt_cmp (op_eqD (hu64 hr)) (sim_eq hK) (me_callS c__law_taken (hr.mono (by omega)) tk (mas_ref (pv 1) (mas_val me_int mas_nil))) (mv_of me_int) (nomark _))))) (me_ix ix_seq (sim_ix hK) (me_ix ix_seq (sim_ix hK) (me_var 3 (pv 3)) (mv_of me_int) (fun _ _ => rfl)) (mv_of me_int) (fun _ _ => rfl)) (me_callS c__law_taken (hr.mono (by omega)) tk (mas_ref (pv 1) (mas_val me_int mas_nil)))))
      (mss_cons (ms_set 10 sc.nd (me_callS c__law_taken (hr.mono (by omega)) tk (mas_ref (pv 1) (mas_val me_int mas_nil))))
      (mss_cons (ms_setComp (own := [("one", 5)]) 11 rfl sc.nd (mi_seq hK (me_var 3 (pv 3))) (blkOk_by (by kernel_rfl)) (gsim_name 5) (fun _ _ _ _ _ => (pg_name (i := 5) sc.nd rfl (by first | exact .inl rfl | exact .inr rfl))) (fun _ _ _ _ _ => (mts_one (mt_cmp (op_eqD (hu64 hr)) (sim_eq hK) (me_cut hK (me_var 5 (pv 5)) mo_none (mo_some me_int)) (mv_of (me_tup (ma_cons (me_var 9 (pv 9)) (ma_cons (me_var 10 (pv 10)) ma_nil)))) (nomark _)))) (fun _ _ _ _ _ => (me_var 5 (pv 5))) (sw_true rfl rfl rfl (by kernel_rfl)))
      (mss_cons (ms_par2 rfl sc.nd (mas_val (me_callS c__law_pick (hr.mono (by omega)) tk (mas_ref (pv 1) (mas_val (me_bin op_addM (sim_add hK) (me_own (mn_comp (own := [("one", 5)]) rfl sc.nd (mi_seq hK (me_var 3 (pv 3))) (blkOk_by (by kernel_rfl)) (gsim_name 5) (fun _ _ _ _ _ => (pg_name (i := 5) sc.nd rfl (by first | exact .inl rfl | exact .inr rfl))) (fun _ _ _ _ _ => mts_nil) (fun _ _ _ _ _ => (me_ixP ix_seq (sim_ix hK) (pv 5) (mv_of me_int) (fun _ _ => rfl))))) (mv_of (me_lst (ma_cons me_str ma_nil)))) mas_nil))) (mas_val (me_callS c__law_pick (hr.mono (by omega)) tk (mas_ref (pv 1) (mas_val (me_bin op_addM (sim_add hK) (me_own (mn_comp (own := [("one", 5)]) rfl sc.nd (mi_seq hK (me_var 3 (pv 3))) (blkOk_by (by kernel_rfl)) (gsim_name 5) (fun _ _ _ _ _ => (pg_name (i := 5) sc.nd rfl (by first | exact .inl rfl | exact .inr rfl))) (fun _ _ _ _ _ => mts_nil) (fun _ _ _ _ _ => (me_ixP ix_seq (sim_ix hK) (pv 5) (mv_of me_int) (fun _ _ => rfl))))) (mv_of (me_lst (ma_cons me_str ma_nil)))) mas_nil))) mas_nil)))
      (mss_cons (ms_set 12 sc.nd (me_if (mt_cmp (op_neD (hu64 hr)) (sim_ne hK) (me_var 11 (pv 11)) (mv_of (me_lst ma_nil)) (nomark _)) (me_ix ix_seq (sim_ix hK) (me_var 11 (pv 11)) (mv_of me_int) (fun _ _ => rfl)) (me_tup (ma_cons (me_var 9 (pv 9)) (ma_cons (me_var 10 (pv 10)) (ma_cons (me_var 16 (pv 16)) (ma_cons (me_callS c__law_pick (hr.mono (by omega)) tk (mas_ref (pv 1) (mas_val (me_lst (ma_cons me_str (ma_cons me_str ma_nil))) mas_nil))) (ma_cons (me_var 17 (pv 17)) (ma_cons (me_callS c__law_taken (hr.mono (by omega)) tk (mas_ref (pv 1) (mas_val me_int mas_nil))) ma_nil)))))))))
      (mss_cons (ms_new 13 sc.nd mn_dicK)
      (mss_cons (ms_for (vs := [18, 19]) hp rfl (mi_seq hK (me_lst (ma_cons (me_tup (ma_cons (me_un un_neg sim_neg (mv_of me_int)) (ma_cons (me_call c__law_standing (hr.mono (by omega)) tk (ma_cons (me_var 3 (pv 3)) ma_nil)) ma_nil))) (ma_cons (me_tup (ma_cons me_int (ma_cons (me_call c__law_standing (hr.mono (by omega)) tk (ma_cons (me_bin op_addM (sim_add hK) (me_var 3 (pv 3)) (mv_of (me_tup (ma_cons (me_var 12 (pv 12)) ma_nil)))) ma_nil)) ma_nil))) ma_nil)))) (mg_tup hK rfl (mgs_cons (mg_name 18 sc.nd) (mgs_cons (mg_name 19 sc.nd) mgs_nil))) (mss_one (ms_for (vs := [5]) hp rfl (mi_seq hK (me_var 19 (pv 19))) (mg_name 5 sc.nd) (mss_one (ms_putK (hu1 hr) (pv 13) (me_ixP ix_seq (sim_ix hK) (pv 5) (mv_of me_int) (fun _ _ => rfl)) (me_bin op_addM (sim_add hK) (me_get2P (hu1 hr) (pv 13) (me_ixP ix_seq (sim_ix hK) (pv 5) (mv_of me_int) (fun _ _ => rfl)) me_int) (mv_of (me_bin op_mulS (sim_mulS hK) (me_bin op_mulS (sim_mulS hK) (me_var 18 (pv 18)) (mv_of (me_if (mt_cmp (op_eqD (hu64 hr)) (sim_eq hK) (me_ixP ix_seq (sim_ix hK) (pv 5) (mv_of me_int) (fun _ _ => rfl)) (mv_of me_str) (nomark _)) (me_ixP ix_seq (sim_ix hK) (pv 5) (mv_of me_int) (fun _ _ => rfl)) (me_bin op_sub sim_sub me_int (mv_of (me_ixP ix_seq (sim_ix hK) (pv 5) (mv_of me_int) (fun _ _ => rfl))))))) (mv_of (me_get2P (hu1 hr) (pv 4) (me_ixP ix_seq (sim_ix hK) (pv 5) (mv_of me_int) (fun _ _ => rfl)) me_int))))))))))
      (mss_cons (ms_set 14 sc.nd (me_ty1 (call_tuple_of) (sim_tuple hK) (by decide +kernel) T.n_tuple (mv_of (me_own (mn_comp (own := [("house", 16)]) rfl sc.nd (mi_seq hK (me_bi1 (call_sortedD rfl) sim_sortedS (by decide +kernel) T.n_sorted (mv_var 13 (pv 13)))) (blkOk_by (by kernel_rfl)) (gsim_name 16) (fun _ _ _ _ _ => (pg_name (i := 16) sc.nd rfl (by first | exact .inl rfl | exact .inr rfl))) (fun _ _ _ _ _ => (mts_one (mt_cmp (op_neD (hu64 hr)) (sim_ne hK) (me_dgetP (hu1 hr) (pv 13) (mv_of (me_var 16 (pv 16)))) (mv_of me_int) (nomark _)))) (fun _ _ _ _ _ => (me_tup (ma_cons (me_var 16 (pv 16)) (ma_cons (me_dgetP (hu1 hr) (pv 13) (mv_of (me_var 16 (pv 16)))) ma_nil)))))))))
      (mss_cons (ms_if (mt_not (mt_val (me_call c__law_alike (hr.mono (by omega)) tk (ma_cons (me_call c_change (hr.mono (by omega)) tk (ma_cons (me_var 3 (pv 3)) (ma_cons (me_var 12 (pv 12)) (ma_cons (me_var 4 (pv 4)) ma_nil)))) (ma_cons (me_var 14 (pv 14)) ma_nil))))) (mss_one (ms_ret me_bl)) mss_nil)
      (mss_one (ms_if (mt_not (mt_val (me_call c__law_alike (hr.mono (by omega)) tk (ma_cons (me_bin op_sub sim_sub (me_call c_held_back (hr.mono (by omega)) tk (ma_cons (me_bin op_addM (sim_add hK) (me_var 3 (pv 3)) (mv_of (me_tup (ma_cons (me_var 12 (pv 12)) ma_nil)))) (ma_cons (me_var 4 (pv 4)) ma_nil))) (mv_of (me_call c_held_back (hr.mono (by omega)) tk (ma_cons (me_var 3 (pv 3)) (ma_cons (me_var 4 (pv 4)) ma_nil))))) (ma_cons (me_bin op_sub sim_sub me_int (mv_of (me_bi1 (cr_sumM rfl) (sim_sum hK) (by decide +kernel) T.n_sum (mv_of (me_own (mn_comp (own := [("one", 5)]) rfl sc.nd (mi_seq hK (me_var 14 (pv 14))) (blkOk_by (by kernel_rfl)) (gsim_name 5) (fun _ _ _ _ _ => (pg_name (i := 5) sc.nd rfl (by first | exact .inl rfl | exact .inr rfl))) (fun _ _ _ _ _ => mts_nil) (fun _ _ _ _ _ => (me_ixP ix_seq (sim_ix hK) (pv 5) (mv_of me_int) (fun _ _ => rfl))))))))) ma_nil))))) (mss_one (ms_ret me_bl)) mss_nil)))))))))))))))))))))
      (mss_one (ms_ret me_bl))))
end
def GW (K : PySem.W.Frag) (cl fl : List (Str × Addr)) (T : List (Addr × Str)) : Wd := ⟨K, fun c => cl.lookup c, fun x => fl.lookup x, none, T⟩
theorem fns_of {mg : Str → Option Value} : ∀ {fl : List (Str × Addr)}, (∀ p ∈ fl, mg p.1 = some (.ref p.2)) → ∀ y a, fl.lookup y = some a → mg y = some (.ref a)
  | [], _, _, _, h => by simp at h
  | p :: fl, H, y, a, h => by
    rw [List.lookup_cons] at h
    split at h
    · rename_i e
      cases h
      have e2 : y = p.1 := by simpa using e
      rw [e2]
      exact H p List.mem_cons_self
    · exact fns_of (fun q hq => H q (List.mem_cons_of_mem _ hq)) y a h
theorem PZ.tab0 {Z : Zone} {H : Hp} {P : Addr} {q : Str} (hz : ¬ Z P) (h : H P = some (.tbl #[])) : ¬ Z P ∧ ∃ ps : Array Value, H P = some (.tbl ps) ∧ TriplesOk ps.toList ∧ ∀ (pos : Pos) (cv : Value), codeAmong pos ps.toList = some cv → ∃ c, cv = .ref c ∧ H c = some (LamX.CodeO c q) ∧ ¬ Z c :=
  ⟨hz, #[], h, True.intro, fun pos cv hc => by have z : codeAmong pos [] = some cv := hc; simp [codeAmong] at z⟩
theorem all_mk {l : PySem.W.OpenLaw} {w : World} {K : PySem.W.Frag} {h : Heap} {mg mb : Str → Option Value} {q : Program} {loose : List Str} {mean : ExcName → Option Value} {fa : Addr} {f__law_taken : Addr} {oc__law_taken kV__law_taken dc__law_taken pm__law_taken ct__law_taken : Value} {od__law_taken an__law_taken : Option Addr} {sl__law_taken : Array (Option Value)} {cd__law_taken : Value} {f__law_names : Addr} {oc__law_names kV__law_names dc__law_names pm__law_names ct__law_names : Value} {od__law_names an__law_names : Option Addr} {sl__law_names : Array (Option Value)} {cd__law_names : Value} {f__law_pick : Addr} {oc__law_pick kV__law_pick dc__law_pick pm__law_pick ct__law_pick : Value} {od__law_pick an__law_pick : Option Addr} {sl__law_pick : Array (Option Value)} {cd__law_pick : Value} {f__law_rows : Addr} {oc__law_rows kV__law_rows dc__law_rows pm__law_rows ct__law_rows : Value} {od__law_rows an__law_rows : Option Addr} {sl__law_rows : Array (Option Value)} {cd__law_rows : Value} {f__law_alike : Addr} {oc__law_alike kV__law_alike dc__law_alike pm__law_alike ct__law_alike : Value} {od__law_alike an__law_alike : Option Addr} {sl__law_alike : Array (Option Value)} {cd__law_alike : Value} {f_is_whole : Addr} {oc_is_whole kV_is_whole dc_is_whole pm_is_whole ct_is_whole : Value} {od_is_whole an_is_whole : Option Addr} {sl_is_whole : Array (Option Value)} {cd_is_whole : Value} {f_is_within : Addr} {oc_is_within kV_is_within dc_is_within pm_is_within ct_is_within : Value} {od_is_within an_is_within : Option Addr} {sl_is_within : Array (Option Value)} {cd_is_within : Value} {f_is_row : Addr} {oc_is_row kV_is_row dc_is_row pm_is_row ct_is_row : Value} {od_is_row an_is_row : Option Addr} {sl_is_row : Array (Option Value)} {cd_is_row : Value} {f_is_name : Addr} {oc_is_name kV_is_name dc_is_name pm_is_name ct_is_name : Value} {od_is_name an_is_name : Option Addr} {sl_is_name : Array (Option Value)} {cd_is_name : Value} {f_is_told_row : Addr} {oc_is_told_row kV_is_told_row dc_is_told_row pm_is_told_row ct_is_told_row : Value} {od_is_told_row an_is_told_row : Option Addr} {sl_is_told_row : Array (Option Value)} {cd_is_told_row : Value} {f_first_wrong : Addr} {oc_first_wrong kV_first_wrong dc_first_wrong pm_first_wrong ct_first_wrong : Value} {od_first_wrong an_first_wrong : Option Addr} {sl_first_wrong : Array (Option Value)} {cd_first_wrong : Value} {f_place_told : Addr} {oc_place_told kV_place_told dc_place_told pm_place_told ct_place_told : Value} {od_place_told an_place_told : Option Addr} {sl_place_told : Array (Option Value)} {cd_place_told : Value} {f_require_rows : Addr} {oc_require_rows kV_require_rows dc_require_rows pm_require_rows ct_require_rows : Value} {od_require_rows an_require_rows : Option Addr} {sl_require_rows : Array (Option Value)} {cd_require_rows : Value} {f_standing_of : Addr} {oc_standing_of kV_standing_of dc_standing_of pm_standing_of ct_standing_of : Value} {od_standing_of an_standing_of : Option Addr} {sl_standing_of : Array (Option Value)} {cd_standing_of : Value} {f_standing : Addr} {oc_standing kV_standing dc_standing pm_standing ct_standing : Value} {od_standing an_standing : Option Addr} {sl_standing : Array (Option Value)} {cd_standing : Value} {f_are_alike : Addr} {oc_are_alike kV_are_alike dc_are_alike pm_are_alike ct_are_alike : Value} {od_are_alike an_are_alike : Option Addr} {sl_are_alike : Array (Option Value)} {cd_are_alike : Value} {f__law_standing : Addr} {oc__law_standing kV__law_standing dc__law_standing pm__law_standing ct__law_standing : Value} {od__law_standing an__law_standing : Option Addr} {sl__law_standing : Array (Option Value)} {cd__law_standing : Value} {f_require_deposits : Addr} {oc_require_deposits kV_require_deposits dc_require_deposits pm_require_deposits ct_require_deposits : Value} {od_require_deposits an_require_deposits : Option Addr} {sl_require_deposits : Array (Option Value)} {cd_require_deposits : Value} {f_due_of : Addr} {oc_due_of kV_due_of dc_due_of pm_due_of ct_due_of : Value} {od_due_of an_due_of : Option Addr} {sl_due_of : Array (Option Value)} {cd_due_of : Value} {f_houses_in : Addr} {oc_houses_in kV_houses_in dc_houses_in pm_houses_in ct_houses_in : Value} {od_houses_in an_houses_in : Option Addr} {sl_houses_in : Array (Option Value)} {cd_houses_in : Value} {f_change : Addr} {oc_change kV_change dc_change pm_change ct_change : Value} {od_change an_change : Option Addr} {sl_change : Array (Option Value)} {cd_change : Value} {f_dues : Addr} {oc_dues kV_dues dc_dues pm_dues ct_dues : Value} {od_dues an_dues : Option Addr} {sl_dues : Array (Option Value)} {cd_dues : Value} {f_held_back : Addr} {oc_held_back kV_held_back dc_held_back pm_held_back ct_held_back : Value} {od_held_back an_held_back : Option Addr} {sl_held_back : Array (Option Value)} {cd_held_back : Value} {f_law : Addr} {oc_law kV_law dc_law pm_law ct_law : Value} {od_law an_law : Option Addr} {sl_law : Array (Option Value)} {cd_law : Value} (main : ∀ ns : List Int, ns.length ≤ 63 → (∀ z ∈ ns, Builtin.Int.intBits z ≤ 1048576) → dn_law [.p (.scr ns)] [] = .ok (.bl true) []) (T0 : PyProof.Rows.Top q loose mean mg mb h) (X : K.In h) (hfa : mg "law" = some (.ref fa))
    (z_all : PySem.W.nsIn K mainGlobals "all" = some none)
    (z_bool : PySem.W.nsIn K mainGlobals "bool" = some none)
    (z_dict : PySem.W.nsIn K mainGlobals "dict" = some none)
    (z_enumerate : PySem.W.nsIn K mainGlobals "enumerate" = some none)
    (z_int : PySem.W.nsIn K mainGlobals "int" = some none)
    (z_isinstance : PySem.W.nsIn K mainGlobals "isinstance" = some none)
    (z_len : PySem.W.nsIn K mainGlobals "len" = some none)
    (z_list : PySem.W.nsIn K mainGlobals "list" = some none)
    (z_range : PySem.W.nsIn K mainGlobals "range" = some none)
    (z_sorted : PySem.W.nsIn K mainGlobals "sorted" = some none)
    (z_str : PySem.W.nsIn K mainGlobals "str" = some none)
    (z_sum : PySem.W.nsIn K mainGlobals "sum" = some none)
    (z_tuple : PySem.W.nsIn K mainGlobals "tuple" = some none)
    {t_BACK : Tok}
    (q_BACK : PySem.W.nsIn K mainGlobals "BACK" = some (some (.str "back" t_BACK)))
    {t_LETTERS : Tok}
    (q_LETTERS : PySem.W.nsIn K mainGlobals "LETTERS" = some (some (.str "abcdefghijklmnopqrstuvwxyz" t_LETTERS)))
    {t_LONGEST : Tok}
    (q_LONGEST : PySem.W.nsIn K mainGlobals "LONGEST" = some (some (.int 8 t_LONGEST)))
    {t_MOST_DEPOSIT : Tok}
    (q_MOST_DEPOSIT : PySem.W.nsIn K mainGlobals "MOST_DEPOSIT" = some (some (.int 99 t_MOST_DEPOSIT)))
    {t_MOST_MARK : Tok}
    (q_MOST_MARK : PySem.W.nsIn K mainGlobals "MOST_MARK" = some (some (.int 999 t_MOST_MARK)))
    {t_MOST_PIECES : Tok}
    (q_MOST_PIECES : PySem.W.nsIn K mainGlobals "MOST_PIECES" = some (some (.int 999 t_MOST_PIECES)))
    {t_MOST_RANK : Tok}
    (q_MOST_RANK : PySem.W.nsIn K mainGlobals "MOST_RANK" = some (some (.int 99 t_MOST_RANK)))
    {t_MOST_ROWS : Tok}
    (q_MOST_ROWS : PySem.W.nsIn K mainGlobals "MOST_ROWS" = some (some (.int 60 t_MOST_ROWS)))
    {t_SOLD : Tok}
    (q_SOLD : PySem.W.nsIn K mainGlobals "SOLD" = some (some (.str "sold" t_SOLD)))
    (ex_all : excAll K [] = true)
    (a__law_taken : PySem.W.nsIn K mainGlobals "_law_taken" = some (some (.ref f__law_taken)))
    (l__law_taken : K.lookup f__law_taken = some ⟨oc__law_taken, od__law_taken, .func (PySem.W.fnOf "_law_taken" "_law_taken" (defArgs s__law_taken) (defBody s__law_taken) (defScope s__law_taken) .none kV__law_taken dc__law_taken pm__law_taken an__law_taken cd__law_taken ct__law_taken), sl__law_taken⟩)
    (c__law_taken : PySem.W.codeIn K cd__law_taken "_law_taken" = true)
    (k__law_taken : PySem.W.keepIn K (.ref f__law_taken) = true)
    (a__law_names : PySem.W.nsIn K mainGlobals "_law_names" = some (some (.ref f__law_names)))
    (l__law_names : K.lookup f__law_names = some ⟨oc__law_names, od__law_names, .func (PySem.W.fnOf "_law_names" "_law_names" (defArgs s__law_names) (defBody s__law_names) (defScope s__law_names) .none kV__law_names dc__law_names pm__law_names an__law_names cd__law_names ct__law_names), sl__law_names⟩)
    (c__law_names : PySem.W.codeIn K cd__law_names "_law_names" = true)
    (k__law_names : PySem.W.keepIn K (.ref f__law_names) = true)
    (a__law_pick : PySem.W.nsIn K mainGlobals "_law_pick" = some (some (.ref f__law_pick)))
    (l__law_pick : K.lookup f__law_pick = some ⟨oc__law_pick, od__law_pick, .func (PySem.W.fnOf "_law_pick" "_law_pick" (defArgs s__law_pick) (defBody s__law_pick) (defScope s__law_pick) .none kV__law_pick dc__law_pick pm__law_pick an__law_pick cd__law_pick ct__law_pick), sl__law_pick⟩)
    (c__law_pick : PySem.W.codeIn K cd__law_pick "_law_pick" = true)
    (k__law_pick : PySem.W.keepIn K (.ref f__law_pick) = true)
    (a__law_rows : PySem.W.nsIn K mainGlobals "_law_rows" = some (some (.ref f__law_rows)))
    (l__law_rows : K.lookup f__law_rows = some ⟨oc__law_rows, od__law_rows, .func (PySem.W.fnOf "_law_rows" "_law_rows" (defArgs s__law_rows) (defBody s__law_rows) (defScope s__law_rows) .none kV__law_rows dc__law_rows pm__law_rows an__law_rows cd__law_rows ct__law_rows), sl__law_rows⟩)
    (c__law_rows : PySem.W.codeIn K cd__law_rows "_law_rows" = true)
    (k__law_rows : PySem.W.keepIn K (.ref f__law_rows) = true)
    (a__law_alike : PySem.W.nsIn K mainGlobals "_law_alike" = some (some (.ref f__law_alike)))
    (l__law_alike : K.lookup f__law_alike = some ⟨oc__law_alike, od__law_alike, .func (PySem.W.fnOf "_law_alike" "_law_alike" (defArgs s__law_alike) (defBody s__law_alike) (defScope s__law_alike) .none kV__law_alike dc__law_alike pm__law_alike an__law_alike cd__law_alike ct__law_alike), sl__law_alike⟩)
    (c__law_alike : PySem.W.codeIn K cd__law_alike "_law_alike" = true)
    (k__law_alike : PySem.W.keepIn K (.ref f__law_alike) = true)
    (a_is_whole : PySem.W.nsIn K mainGlobals "is_whole" = some (some (.ref f_is_whole)))
    (l_is_whole : K.lookup f_is_whole = some ⟨oc_is_whole, od_is_whole, .func (PySem.W.fnOf "is_whole" "is_whole" (defArgs s_is_whole) (defBody s_is_whole) (defScope s_is_whole) .none kV_is_whole dc_is_whole pm_is_whole an_is_whole cd_is_whole ct_is_whole), sl_is_whole⟩)
    (c_is_whole : PySem.W.codeIn K cd_is_whole "is_whole" = true)
    (k_is_whole : PySem.W.keepIn K (.ref f_is_whole) = true)
    (a_is_within : PySem.W.nsIn K mainGlobals "is_within" = some (some (.ref f_is_within)))
    (l_is_within : K.lookup f_is_within = some ⟨oc_is_within, od_is_within, .func (PySem.W.fnOf "is_within" "is_within" (defArgs s_is_within) (defBody s_is_within) (defScope s_is_within) .none kV_is_within dc_is_within pm_is_within an_is_within cd_is_within ct_is_within), sl_is_within⟩)
    (c_is_within : PySem.W.codeIn K cd_is_within "is_within" = true)
    (k_is_within : PySem.W.keepIn K (.ref f_is_within) = true)
    (a_is_row : PySem.W.nsIn K mainGlobals "is_row" = some (some (.ref f_is_row)))
    (l_is_row : K.lookup f_is_row = some ⟨oc_is_row, od_is_row, .func (PySem.W.fnOf "is_row" "is_row" (defArgs s_is_row) (defBody s_is_row) (defScope s_is_row) .none kV_is_row dc_is_row pm_is_row an_is_row cd_is_row ct_is_row), sl_is_row⟩)
    (c_is_row : PySem.W.codeIn K cd_is_row "is_row" = true)
    (k_is_row : PySem.W.keepIn K (.ref f_is_row) = true)
    (a_is_name : PySem.W.nsIn K mainGlobals "is_name" = some (some (.ref f_is_name)))
    (l_is_name : K.lookup f_is_name = some ⟨oc_is_name, od_is_name, .func (PySem.W.fnOf "is_name" "is_name" (defArgs s_is_name) (defBody s_is_name) (defScope s_is_name) .none kV_is_name dc_is_name pm_is_name an_is_name cd_is_name ct_is_name), sl_is_name⟩)
    (c_is_name : PySem.W.codeIn K cd_is_name "is_name" = true)
    (k_is_name : PySem.W.keepIn K (.ref f_is_name) = true)
    (a_is_told_row : PySem.W.nsIn K mainGlobals "is_told_row" = some (some (.ref f_is_told_row)))
    (l_is_told_row : K.lookup f_is_told_row = some ⟨oc_is_told_row, od_is_told_row, .func (PySem.W.fnOf "is_told_row" "is_told_row" (defArgs s_is_told_row) (defBody s_is_told_row) (defScope s_is_told_row) .none kV_is_told_row dc_is_told_row pm_is_told_row an_is_told_row cd_is_told_row ct_is_told_row), sl_is_told_row⟩)
    (c_is_told_row : PySem.W.codeIn K cd_is_told_row "is_told_row" = true)
    (k_is_told_row : PySem.W.keepIn K (.ref f_is_told_row) = true)
    (a_first_wrong : PySem.W.nsIn K mainGlobals "first_wrong" = some (some (.ref f_first_wrong)))
    (l_first_wrong : K.lookup f_first_wrong = some ⟨oc_first_wrong, od_first_wrong, .func (PySem.W.fnOf "first_wrong" "first_wrong" (defArgs s_first_wrong) (defBody s_first_wrong) (defScope s_first_wrong) .none kV_first_wrong dc_first_wrong pm_first_wrong an_first_wrong cd_first_wrong ct_first_wrong), sl_first_wrong⟩)
    (c_first_wrong : PySem.W.codeIn K cd_first_wrong "first_wrong" = true)
    (k_first_wrong : PySem.W.keepIn K (.ref f_first_wrong) = true)
    (a_place_told : PySem.W.nsIn K mainGlobals "place_told" = some (some (.ref f_place_told)))
    (l_place_told : K.lookup f_place_told = some ⟨oc_place_told, od_place_told, .func (PySem.W.fnOf "place_told" "place_told" (defArgs s_place_told) (defBody s_place_told) (defScope s_place_told) .none kV_place_told dc_place_told pm_place_told an_place_told cd_place_told ct_place_told), sl_place_told⟩)
    (c_place_told : PySem.W.codeIn K cd_place_told "place_told" = true)
    (k_place_told : PySem.W.keepIn K (.ref f_place_told) = true)
    (a_require_rows : PySem.W.nsIn K mainGlobals "require_rows" = some (some (.ref f_require_rows)))
    (l_require_rows : K.lookup f_require_rows = some ⟨oc_require_rows, od_require_rows, .func (PySem.W.fnOf "require_rows" "require_rows" (defArgs s_require_rows) (defBody s_require_rows) (defScope s_require_rows) .none kV_require_rows dc_require_rows pm_require_rows an_require_rows cd_require_rows ct_require_rows), sl_require_rows⟩)
    (c_require_rows : PySem.W.codeIn K cd_require_rows "require_rows" = true)
    (k_require_rows : PySem.W.keepIn K (.ref f_require_rows) = true)
    (a_standing_of : PySem.W.nsIn K mainGlobals "standing_of" = some (some (.ref f_standing_of)))
    (l_standing_of : K.lookup f_standing_of = some ⟨oc_standing_of, od_standing_of, .func (PySem.W.fnOf "standing_of" "standing_of" (defArgs s_standing_of) (defBody s_standing_of) (defScope s_standing_of) .none kV_standing_of dc_standing_of pm_standing_of an_standing_of cd_standing_of ct_standing_of), sl_standing_of⟩)
    (c_standing_of : PySem.W.codeIn K cd_standing_of "standing_of" = true)
    (k_standing_of : PySem.W.keepIn K (.ref f_standing_of) = true)
    (a_standing : PySem.W.nsIn K mainGlobals "standing" = some (some (.ref f_standing)))
    (l_standing : K.lookup f_standing = some ⟨oc_standing, od_standing, .func (PySem.W.fnOf "standing" "standing" (defArgs s_standing) (defBody s_standing) (defScope s_standing) .none kV_standing dc_standing pm_standing an_standing cd_standing ct_standing), sl_standing⟩)
    (c_standing : PySem.W.codeIn K cd_standing "standing" = true)
    (k_standing : PySem.W.keepIn K (.ref f_standing) = true)
    (a_are_alike : PySem.W.nsIn K mainGlobals "are_alike" = some (some (.ref f_are_alike)))
    (l_are_alike : K.lookup f_are_alike = some ⟨oc_are_alike, od_are_alike, .func (PySem.W.fnOf "are_alike" "are_alike" (defArgs s_are_alike) (defBody s_are_alike) (defScope s_are_alike) .none kV_are_alike dc_are_alike pm_are_alike an_are_alike cd_are_alike ct_are_alike), sl_are_alike⟩)
    (c_are_alike : PySem.W.codeIn K cd_are_alike "are_alike" = true)
    (k_are_alike : PySem.W.keepIn K (.ref f_are_alike) = true)
    (a__law_standing : PySem.W.nsIn K mainGlobals "_law_standing" = some (some (.ref f__law_standing)))
    (l__law_standing : K.lookup f__law_standing = some ⟨oc__law_standing, od__law_standing, .func (PySem.W.fnOf "_law_standing" "_law_standing" (defArgs s__law_standing) (defBody s__law_standing) (defScope s__law_standing) .none kV__law_standing dc__law_standing pm__law_standing an__law_standing cd__law_standing ct__law_standing), sl__law_standing⟩)
    (c__law_standing : PySem.W.codeIn K cd__law_standing "_law_standing" = true)
    (k__law_standing : PySem.W.keepIn K (.ref f__law_standing) = true)
    (a_require_deposits : PySem.W.nsIn K mainGlobals "require_deposits" = some (some (.ref f_require_deposits)))
    (l_require_deposits : K.lookup f_require_deposits = some ⟨oc_require_deposits, od_require_deposits, .func (PySem.W.fnOf "require_deposits" "require_deposits" (defArgs s_require_deposits) (defBody s_require_deposits) (defScope s_require_deposits) .none kV_require_deposits dc_require_deposits pm_require_deposits an_require_deposits cd_require_deposits ct_require_deposits), sl_require_deposits⟩)
    (c_require_deposits : PySem.W.codeIn K cd_require_deposits "require_deposits" = true)
    (k_require_deposits : PySem.W.keepIn K (.ref f_require_deposits) = true)
    (a_due_of : PySem.W.nsIn K mainGlobals "due_of" = some (some (.ref f_due_of)))
    (l_due_of : K.lookup f_due_of = some ⟨oc_due_of, od_due_of, .func (PySem.W.fnOf "due_of" "due_of" (defArgs s_due_of) (defBody s_due_of) (defScope s_due_of) .none kV_due_of dc_due_of pm_due_of an_due_of cd_due_of ct_due_of), sl_due_of⟩)
    (c_due_of : PySem.W.codeIn K cd_due_of "due_of" = true)
    (k_due_of : PySem.W.keepIn K (.ref f_due_of) = true)
    (a_houses_in : PySem.W.nsIn K mainGlobals "houses_in" = some (some (.ref f_houses_in)))
    (l_houses_in : K.lookup f_houses_in = some ⟨oc_houses_in, od_houses_in, .func (PySem.W.fnOf "houses_in" "houses_in" (defArgs s_houses_in) (defBody s_houses_in) (defScope s_houses_in) .none kV_houses_in dc_houses_in pm_houses_in an_houses_in cd_houses_in ct_houses_in), sl_houses_in⟩)
    (c_houses_in : PySem.W.codeIn K cd_houses_in "houses_in" = true)
    (k_houses_in : PySem.W.keepIn K (.ref f_houses_in) = true)
    (a_change : PySem.W.nsIn K mainGlobals "change" = some (some (.ref f_change)))
    (l_change : K.lookup f_change = some ⟨oc_change, od_change, .func (PySem.W.fnOf "change" "change" (defArgs s_change) (defBody s_change) (defScope s_change) .none kV_change dc_change pm_change an_change cd_change ct_change), sl_change⟩)
    (c_change : PySem.W.codeIn K cd_change "change" = true)
    (k_change : PySem.W.keepIn K (.ref f_change) = true)
    (a_dues : PySem.W.nsIn K mainGlobals "dues" = some (some (.ref f_dues)))
    (l_dues : K.lookup f_dues = some ⟨oc_dues, od_dues, .func (PySem.W.fnOf "dues" "dues" (defArgs s_dues) (defBody s_dues) (defScope s_dues) .none kV_dues dc_dues pm_dues an_dues cd_dues ct_dues), sl_dues⟩)
    (c_dues : PySem.W.codeIn K cd_dues "dues" = true)
    (k_dues : PySem.W.keepIn K (.ref f_dues) = true)
    (a_held_back : PySem.W.nsIn K mainGlobals "held_back" = some (some (.ref f_held_back)))
    (l_held_back : K.lookup f_held_back = some ⟨oc_held_back, od_held_back, .func (PySem.W.fnOf "held_back" "held_back" (defArgs s_held_back) (defBody s_held_back) (defScope s_held_back) .none kV_held_back dc_held_back pm_held_back an_held_back cd_held_back ct_held_back), sl_held_back⟩)
    (c_held_back : PySem.W.codeIn K cd_held_back "held_back" = true)
    (k_held_back : PySem.W.keepIn K (.ref f_held_back) = true)
    (a_law : PySem.W.nsIn K mainGlobals "law" = some (some (.ref f_law)))
    (l_law : K.lookup f_law = some ⟨oc_law, od_law, .func (PySem.W.fnOf "law" "law" (defArgs s_law) (defBody s_law) (defScope s_law) .none kV_law dc_law pm_law an_law cd_law ct_law), sl_law⟩)
    (c_law : PySem.W.codeIn K cd_law "law" = true)
    (k_law : PySem.W.keepIn K (.ref f_law) = true) :
    AtCall l.prog w K mg 12 63 "script" fa h := by
  constructor
  have GG := T0.g
  have e := hfa.symm.trans (PySem.W.mg_of X GG a_law)
  cases e
  have T : Facts K mg := ⟨PySem.W.mg_none_of X GG z_all, PySem.W.mg_none_of X GG z_bool, PySem.W.mg_none_of X GG z_dict, PySem.W.mg_none_of X GG z_enumerate, PySem.W.mg_none_of X GG z_int, PySem.W.mg_none_of X GG z_isinstance, PySem.W.mg_none_of X GG z_len, PySem.W.mg_none_of X GG z_list, PySem.W.mg_none_of X GG z_range, PySem.W.mg_none_of X GG z_sorted, PySem.W.mg_none_of X GG z_str, PySem.W.mg_none_of X GG z_sum, PySem.W.mg_none_of X GG z_tuple, ⟨_, PySem.W.mg_of X GG q_BACK⟩, ⟨_, PySem.W.mg_of X GG q_LETTERS⟩, ⟨_, PySem.W.mg_of X GG q_LONGEST⟩, ⟨_, PySem.W.mg_of X GG q_MOST_DEPOSIT⟩, ⟨_, PySem.W.mg_of X GG q_MOST_MARK⟩, ⟨_, PySem.W.mg_of X GG q_MOST_PIECES⟩, ⟨_, PySem.W.mg_of X GG q_MOST_RANK⟩, ⟨_, PySem.W.mg_of X GG q_MOST_ROWS⟩, ⟨_, PySem.W.mg_of X GG q_SOLD⟩⟩
  have F__law_taken := fun_mk (st := s__law_taken) l__law_taken c__law_taken k__law_taken
  have b__law_taken := F__law_taken.binds (ps := ["row", "many"]) fun _ _ _ _ _ _ us hl => match us, hl with | [_, _], _ => rfl
  have F__law_names := fun_mk (st := s__law_names) l__law_names c__law_names k__law_names
  have b__law_names := F__law_names.binds (ps := ["row", "many"]) fun _ _ _ _ _ _ us hl => match us, hl with | [_, _], _ => rfl
  have F__law_pick := fun_mk (st := s__law_pick) l__law_pick c__law_pick k__law_pick
  have b__law_pick := F__law_pick.binds (ps := ["row", "things"]) fun _ _ _ _ _ _ us hl => match us, hl with | [_, _], _ => rfl
  have F__law_rows := fun_mk (st := s__law_rows) l__law_rows c__law_rows k__law_rows
  have b__law_rows := F__law_rows.binds (ps := ["row", "most"]) fun _ _ _ _ _ _ us hl => match us, hl with | [_, _], _ => rfl
  have F__law_alike := fun_mk (st := s__law_alike) l__law_alike c__law_alike k__law_alike
  have b__law_alike := F__law_alike.binds (ps := ["found", "due"]) fun _ _ _ _ _ _ us hl => match us, hl with | [_, _], _ => rfl
  have F_is_whole := fun_mk (st := s_is_whole) l_is_whole c_is_whole k_is_whole
  have b_is_whole := F_is_whole.binds (ps := ["value"]) fun _ _ _ _ _ _ us hl => match us, hl with | [_], _ => rfl
  have F_is_within := fun_mk (st := s_is_within) l_is_within c_is_within k_is_within
  have b_is_within := F_is_within.binds (ps := ["value", "least", "most"]) fun _ _ _ _ _ _ us hl => match us, hl with | [_, _, _], _ => rfl
  have F_is_row := fun_mk (st := s_is_row) l_is_row c_is_row k_is_row
  have b_is_row := F_is_row.binds (ps := ["value", "size"]) fun _ _ _ _ _ _ us hl => match us, hl with | [_, _], _ => rfl
  have F_is_name := fun_mk (st := s_is_name) l_is_name c_is_name k_is_name
  have b_is_name := F_is_name.binds (ps := ["value"]) fun _ _ _ _ _ _ us hl => match us, hl with | [_], _ => rfl
  have F_is_told_row := fun_mk (st := s_is_told_row) l_is_told_row c_is_told_row k_is_told_row
  have b_is_told_row := F_is_told_row.binds (ps := ["row", "ahead"]) fun _ _ _ _ _ _ us hl => match us, hl with | [_, _], _ => rfl
  have F_first_wrong := fun_mk (st := s_first_wrong) l_first_wrong c_first_wrong k_first_wrong
  have b_first_wrong := F_first_wrong.binds (ps := ["value", "least", "most", "judge"]) fun _ _ _ _ _ _ us hl => match us, hl with | [_, _, _, _], _ => rfl
  have F_place_told := fun_mk (st := s_place_told) l_place_told c_place_told k_place_told
  have b_place_told := F_place_told.binds (ps := ["place"]) fun _ _ _ _ _ _ us hl => match us, hl with | [_], _ => rfl
  have F_require_rows := fun_mk (st := s_require_rows) l_require_rows c_require_rows k_require_rows
  have b_require_rows := F_require_rows.binds (ps := ["rows"]) fun _ _ _ _ _ _ us hl => match us, hl with | [_], _ => rfl
  have F_standing_of := fun_mk (st := s_standing_of) l_standing_of c_standing_of k_standing_of
  have b_standing_of := F_standing_of.binds (ps := ["rows"]) fun _ _ _ _ _ _ us hl => match us, hl with | [_], _ => rfl
  have F_standing := fun_mk (st := s_standing) l_standing c_standing k_standing
  have b_standing := F_standing.binds (ps := ["rows"]) fun _ _ _ _ _ _ us hl => match us, hl with | [_], _ => rfl
  have F_are_alike := fun_mk (st := s_are_alike) l_are_alike c_are_alike k_are_alike
  have b_are_alike := F_are_alike.binds (ps := ["one", "other"]) fun _ _ _ _ _ _ us hl => match us, hl with | [_, _], _ => rfl
  have F__law_standing := fun_mk (st := s__law_standing) l__law_standing c__law_standing k__law_standing
  have b__law_standing := F__law_standing.binds (ps := ["rows"]) fun _ _ _ _ _ _ us hl => match us, hl with | [_], _ => rfl
  have F_require_deposits := fun_mk (st := s_require_deposits) l_require_deposits c_require_deposits k_require_deposits
  have b_require_deposits := F_require_deposits.binds (ps := ["deposits"]) fun _ _ _ _ _ _ us hl => match us, hl with | [_], _ => rfl
  have F_due_of := fun_mk (st := s_due_of) l_due_of c_due_of k_due_of
  have b_due_of := F_due_of.binds (ps := ["rows", "deposits", "house"]) fun _ _ _ _ _ _ us hl => match us, hl with | [_, _, _], _ => rfl
  have F_houses_in := fun_mk (st := s_houses_in) l_houses_in c_houses_in k_houses_in
  have b_houses_in := F_houses_in.binds (ps := ["rows"]) fun _ _ _ _ _ _ us hl => match us, hl with | [_], _ => rfl
  have F_change := fun_mk (st := s_change) l_change c_change k_change
  have b_change := F_change.binds (ps := ["rows", "row", "deposits"]) fun _ _ _ _ _ _ us hl => match us, hl with | [_, _, _], _ => rfl
  have F_dues := fun_mk (st := s_dues) l_dues c_dues k_dues
  have b_dues := F_dues.binds (ps := ["rows", "deposits"]) fun _ _ _ _ _ _ us hl => match us, hl with | [_, _], _ => rfl
  have F_held_back := fun_mk (st := s_held_back) l_held_back c_held_back k_held_back
  have b_held_back := F_held_back.binds (ps := ["rows", "deposits"]) fun _ _ _ _ _ _ us hl => match us, hl with | [_, _], _ => rfl
  have F_law := fun_mk (st := s_law) l_law c_law k_law
  have b_law := F_law.binds (ps := ["script"]) fun _ _ _ _ _ _ us hl => match us, hl with | [_], _ => rfl
  have a_duesX := a_dues
  have F_duesX := F_dues
  have b_duesX := b_dues
  refine ⟨PySem.W.fnOf "law" "law" (defArgs s_law) (defBody s_law) (defScope s_law) .none kV_law dc_law pm_law an_law cd_law ct_law, [], spM (GW K [] [("is_told_row", f_is_told_row)] []) 1 dn_law, ?_, ?_, ?_, fun s v => .of_eq rfl, ?_, fun base KB NB TBs => ?_⟩
  · intro p hp
    cases hp
  · intro p hp
    cases hp
  · intro p hp
    cases hp
  · intro H a ns hl hb ht hS
    refine law_sp (K := K) (main ns hl hb) hS rfl ?_
    intro p hp
    cases hp
  have XF : FactsX l.prog w K mg base (GW K [] [("is_told_row", f_is_told_row)] []) := ⟨⟨fun c C h => (excAll_ok ex_all c C h).1, fun c C h => (excAll_ok ex_all c C h).2⟩, fns_of (by intro p hp; simp only [List.mem_cons, List.not_mem_nil, or_false] at hp; rcases hp with rfl <;> first | exact PySem.W.mg_of X GG a_is_told_row), ⟨_, PySem.W.mg_of X GG a_is_told_row, rfl⟩⟩
  have m__law_taken := ok__law_taken (P := l.prog) (w := w) (base := base) (G := (GW K [] [("is_told_row", f_is_told_row)] [])) T XF rfl F__law_taken (PySem.W.mg_of X GG a__law_taken) b__law_taken 
  have m__law_names := ok__law_names (P := l.prog) (w := w) (base := base) (G := (GW K [] [("is_told_row", f_is_told_row)] [])) T XF rfl F__law_names (PySem.W.mg_of X GG a__law_names) b__law_names m__law_taken
  have m__law_pick := ok__law_pick (P := l.prog) (w := w) (base := base) (G := (GW K [] [("is_told_row", f_is_told_row)] [])) T XF rfl F__law_pick (PySem.W.mg_of X GG a__law_pick) b__law_pick m__law_taken
  have m__law_rows := ok__law_rows (P := l.prog) (w := w) (base := base) (G := (GW K [] [("is_told_row", f_is_told_row)] [])) T XF rfl F__law_rows (PySem.W.mg_of X GG a__law_rows) b__law_rows m__law_taken m__law_names m__law_pick
  have m__law_alike := ok__law_alike (P := l.prog) (w := w) (base := base) (G := (GW K [] [("is_told_row", f_is_told_row)] [])) T XF rfl F__law_alike (PySem.W.mg_of X GG a__law_alike) b__law_alike 
  have m_is_whole := ok_is_whole (P := l.prog) (w := w) (base := base) (G := (GW K [] [("is_told_row", f_is_told_row)] [])) T XF rfl F_is_whole (PySem.W.mg_of X GG a_is_whole) b_is_whole 
  have m_is_within := ok_is_within (P := l.prog) (w := w) (base := base) (G := (GW K [] [("is_told_row", f_is_told_row)] [])) T XF rfl F_is_within (PySem.W.mg_of X GG a_is_within) b_is_within m_is_whole
  have m_is_row := ok_is_row (P := l.prog) (w := w) (base := base) (G := (GW K [] [("is_told_row", f_is_told_row)] [])) T XF rfl F_is_row (PySem.W.mg_of X GG a_is_row) b_is_row 
  have m_is_name := ok_is_name (P := l.prog) (w := w) (base := base) (G := (GW K [] [("is_told_row", f_is_told_row)] [])) T XF rfl F_is_name (PySem.W.mg_of X GG a_is_name) b_is_name 
  have m_is_told_row := ok_is_told_row (P := l.prog) (w := w) (base := base) (G := (GW K [] [("is_told_row", f_is_told_row)] [])) T XF rfl F_is_told_row (PySem.W.mg_of X GG a_is_told_row) b_is_told_row m_is_within m_is_row m_is_name
  have m_first_wrong := ok_first_wrong (P := l.prog) (w := w) (base := base) (G := (GW K [] [("is_told_row", f_is_told_row)] [])) T XF rfl F_first_wrong (PySem.W.mg_of X GG a_first_wrong) b_first_wrong m_is_told_row
  have m_place_told := ok_place_told (P := l.prog) (w := w) (base := base) (G := (GW K [] [("is_told_row", f_is_told_row)] [])) T XF rfl F_place_told (PySem.W.mg_of X GG a_place_told) b_place_told 
  have m_require_rows := ok_require_rows (P := l.prog) (w := w) (base := base) (G := (GW K [] [("is_told_row", f_is_told_row)] [])) T XF rfl F_require_rows (PySem.W.mg_of X GG a_require_rows) b_require_rows m_first_wrong
  have m_standing_of := ok_standing_of (P := l.prog) (w := w) (base := base) (G := (GW K [] [("is_told_row", f_is_told_row)] [])) T XF rfl F_standing_of (PySem.W.mg_of X GG a_standing_of) b_standing_of 
  have m_standing := ok_standing (P := l.prog) (w := w) (base := base) (G := (GW K [] [("is_told_row", f_is_told_row)] [])) T XF rfl F_standing (PySem.W.mg_of X GG a_standing) b_standing m_require_rows m_standing_of
  have m_are_alike := ok_are_alike (P := l.prog) (w := w) (base := base) (G := (GW K [] [("is_told_row", f_is_told_row)] [])) T XF rfl F_are_alike (PySem.W.mg_of X GG a_are_alike) b_are_alike m_standing
  have m__law_standing := ok__law_standing (P := l.prog) (w := w) (base := base) (G := (GW K [] [("is_told_row", f_is_told_row)] [])) T XF rfl F__law_standing (PySem.W.mg_of X GG a__law_standing) b__law_standing 
  have m_require_deposits := ok_require_deposits (P := l.prog) (w := w) (base := base) (G := (GW K [] [("is_told_row", f_is_told_row)] [])) T XF rfl F_require_deposits (PySem.W.mg_of X GG a_require_deposits) b_require_deposits m_is_within m_is_name
  have m_due_of := ok_due_of (P := l.prog) (w := w) (base := base) (G := (GW K [] [("is_told_row", f_is_told_row)] [])) T XF rfl F_due_of (PySem.W.mg_of X GG a_due_of) b_due_of 
  have m_houses_in := ok_houses_in (P := l.prog) (w := w) (base := base) (G := (GW K [] [("is_told_row", f_is_told_row)] [])) T XF rfl F_houses_in (PySem.W.mg_of X GG a_houses_in) b_houses_in m_standing
  have m_duesX := ok_duesX (P := l.prog) (w := w) (base := base) (G := (GW K [] [("is_told_row", f_is_told_row)] [])) T XF rfl F_duesX (PySem.W.mg_of X GG a_duesX) b_duesX m_standing m_require_deposits m_due_of m_houses_in
  have m_change := ok_change (P := l.prog) (w := w) (base := base) (G := (GW K [] [("is_told_row", f_is_told_row)] [])) T XF rfl F_change (PySem.W.mg_of X GG a_change) b_change m_duesX
  have m_dues := ok_dues (P := l.prog) (w := w) (base := base) (G := (GW K [] [("is_told_row", f_is_told_row)] [])) T XF rfl F_dues (PySem.W.mg_of X GG a_dues) b_dues m_standing m_require_deposits m_due_of m_houses_in
  have m_held_back := ok_held_back (P := l.prog) (w := w) (base := base) (G := (GW K [] [("is_told_row", f_is_told_row)] [])) T XF rfl F_held_back (PySem.W.mg_of X GG a_held_back) b_held_back m_dues
  exact ok_law (P := l.prog) (w := w) (base := base) (G := (GW K [] [("is_told_row", f_is_told_row)] [])) T XF rfl F_law hfa b_law m__law_taken m__law_pick m__law_rows (m__law_alike 10) m_are_alike m__law_standing m_change m_dues m_held_back
theorem walk {l : PySem.W.OpenLaw} {q : Program} {loose : List Str} {XP : (Str → Option Value) → Heap → Prop} {YP : World → Heap → Prop} {d : DefRec} {K : Params → PySem.W.Frag} (hn : l.most = some 63) (hdf : d.params.defaults = [])
    (hY : ∀ (w : World) (h : Heap), YP w h → (K w.params).In h)
    (F : ∀ (w : World) (mg mb : Str → Option Value) (mean : ExcName → Option Value) (fa : Addr) (h : Heap), PyProof.Rows.Top q (PySem.W.looseW q loose) mean mg mb h → (K w.params).In h → mg d.name = some (.ref fa) → AtCall l.prog w (K w.params) mg 12 63 "script" fa h) :
    PySem.W.WalkO q loose XP YP l.row.toRowW d [] (fun f vs => PySem.call f vs) :=
  M.walk_at hn (by rw [sizeLine_eq]; decide) hdf ⟨rfl, by decide, by decide⟩ hY F
end Law
namespace Law
open PySem PySem.Spec L2 M
/-! ### rows, plainly -/
structure R where
  m : Int
  k : Int
  h : PySem.Str
  w : PySem.Str
  kd : PySem.Str
  p : Int
abbrev R.e (r : R) : D := .tup [.int r.m, .int r.k, .str r.h, .str r.w, .str r.kd, .int r.p]
def NameOk (x : PySem.Str) : Prop := (1 ≤ x.length ∧ x.length ≤ 8) ∧ ∀ c ∈ x.cps.toList, 97 ≤ c ∧ c ≤ 122
structure R.Ok (r : R) : Prop where
  m0 : 0 ≤ r.m
  m1 : r.m ≤ 999
  k0 : 0 ≤ r.k
  k1 : r.k ≤ 99
  h : NameOk r.h
  w : r.w = "sold" ∨ r.w = "back"
  kd : NameOk r.kd
  p0 : 0 ≤ r.p
  p1 : r.p ≤ 999
structure Rows (rs : List R) : Prop where
  len : rs.length ≤ 60
  ok : ∀ r ∈ rs, r.Ok
  fn : ∀ r ∈ rs, ∀ s ∈ rs, r.m = s.m → r.k = s.k → r = s
def better (acc : Option R) (r : R) : Option R := match acc with | none => some r | some b => if b.k < r.k then some r else some b
def best (m : Int) (rs : List R) : Option R := (rs.filter fun r => decide (r.m = m)).foldl better none
theorem better_spec : ∀ (rs : List R) (acc : Option R), match rs.foldl better acc with
    | none => acc = none ∧ rs = []
    | some b => (b ∈ rs ∨ acc = some b) ∧ (∀ r ∈ rs, r.k ≤ b.k) ∧ (∀ a, acc = some a → a.k ≤ b.k)
  | [], acc => by
    cases acc with
    | none => exact ⟨rfl, rfl⟩
    | some a => exact ⟨.inr rfl, by simp, fun a' e => by cases e; exact Int.le_refl _⟩
  | r :: rs, acc => by
    have ih := better_spec rs (better acc r)
    rw [List.foldl_cons]
    revert ih
    cases hb : rs.foldl better (better acc r) with
    | none =>
      rintro ⟨h1, _⟩
      cases acc with
      | none => cases h1
      | some a =>
        unfold better at h1
        simp only at h1
        split at h1 <;> cases h1
    | some b =>
      rintro ⟨h1, h2, h3⟩
      cases acc with
      | none =>
        have h3' := h3 r rfl
        refine ⟨?_, ?_, fun a e => by cases e⟩
        · rcases h1 with h1 | h1
          · exact .inl (List.mem_cons_of_mem _ h1)
          · cases h1; exact .inl List.mem_cons_self
        · intro x hx
          rcases List.mem_cons.mp hx with rfl | hx
          · exact h3'
          · exact h2 x hx
      | some a =>
        by_cases hk : a.k < r.k
        · have e : better (some a) r = some r := by unfold better; simp [hk]
          rw [e] at h1 h3
          have h3' := h3 r rfl
          refine ⟨?_, ?_, fun a' e => by cases e; omega⟩
          · rcases h1 with h1 | h1
            · exact .inl (List.mem_cons_of_mem _ h1)
            · cases h1; exact .inl List.mem_cons_self
          · intro x hx
            rcases List.mem_cons.mp hx with rfl | hx
            · exact h3'
            · exact h2 x hx
        · have e : better (some a) r = some a := by unfold better; simp [hk]
          rw [e] at h1 h3
          have h3' := h3 a rfl
          refine ⟨?_, ?_, fun a' e => by cases e; exact h3'⟩
          · rcases h1 with h1 | h1
            · exact .inl (List.mem_cons_of_mem _ h1)
            · exact .inr h1
          · intro x hx
            rcases List.mem_cons.mp hx with rfl | hx
            · omega
            · exact h2 x hx
theorem best_some {m : Int} {rs : List R} {b : R} (h : best m rs = some b) : b ∈ rs ∧ b.m = m ∧ ∀ r ∈ rs, r.m = m → r.k ≤ b.k := by
  have s := better_spec (rs.filter fun r => decide (r.m = m)) none
  rw [show (rs.filter fun r => decide (r.m = m)).foldl better none = some b from h] at s
  obtain ⟨h1, h2, _⟩ := s
  rcases h1 with h1 | h1
  · obtain ⟨a1, a2⟩ := List.mem_filter.mp h1
    exact ⟨a1, by simpa using a2, fun r hr e => h2 r (List.mem_filter.mpr ⟨hr, by simpa using e⟩)⟩
  · cases h1
theorem best_none {m : Int} {rs : List R} : best m rs = none ↔ ∀ r ∈ rs, r.m ≠ m := by
  have s := better_spec (rs.filter fun r => decide (r.m = m)) none
  constructor
  · intro h r hr e
    rw [show (rs.filter fun r => decide (r.m = m)).foldl better none = none from h] at s
    have : r ∈ rs.filter fun r => decide (r.m = m) := List.mem_filter.mpr ⟨hr, by simpa using e⟩
    rw [s.2] at this
    cases this
  · intro h
    cases hb : best m rs with
    | none => rfl
    | some b =>
      obtain ⟨h1, h2, _⟩ := best_some hb
      exact absurd h2 (h b h1)
theorem best_uniq {m : Int} {rs : List R} {b : R} (H : Rows rs) (h1 : b ∈ rs) (h2 : b.m = m) (h3 : ∀ r ∈ rs, r.m = m → r.k ≤ b.k) : best m rs = some b := by
  cases hb : best m rs with
  | none => exact absurd h2 (best_none.mp hb b h1)
  | some c =>
    obtain ⟨c1, c2, c3⟩ := best_some hb
    have k1 := h3 c c1 c2
    have k2 := c3 b h1 h2
    rw [H.fn c c1 b h1 (by rw [c2, h2]) (by omega)]
def standTo (n : Nat) (rs : List R) : List R := (List.range n).filterMap fun i => best (i : Nat) rs
def stand (rs : List R) : List R := standTo 1000 rs
theorem standTo_succ (n : Nat) (rs : List R) : standTo (n + 1) rs = standTo n rs ++ (best (n : Nat) rs).toList := by
  unfold standTo
  rw [List.range_succ, List.filterMap_append]
  congr 1
theorem mem_stand {rs : List R} {b : R} (h : b ∈ stand rs) : b ∈ rs ∧ best b.m rs = some b := by
  obtain ⟨i, _, hi⟩ := List.mem_filterMap.mp h
  obtain ⟨h1, h2, _⟩ := best_some hi
  exact ⟨h1, by rw [h2]; exact hi⟩
theorem stand_pair (rs : List R) : (stand rs).Pairwise fun a b => a.m < b.m := by
  unfold stand standTo
  rw [List.pairwise_filterMap]
  refine List.pairwise_lt_range.imp fun {i j} h a ha b hb => ?_
  obtain ⟨_, h1, _⟩ := best_some ha
  obtain ⟨_, h2, _⟩ := best_some hb
  omega
theorem stand_sub (rs : List R) : ∃ l : List R, l.Perm (stand rs) ∧ l.length ≤ rs.length := by
  refine ⟨stand rs, .refl _, ?_⟩
  have nd : ((stand rs).map R.m).Nodup := by
    rw [List.nodup_iff_pairwise_ne, List.pairwise_map]
    exact (stand_pair rs).imp fun h => by omega
  have h2 := nd.length_le_of_subset (l₂ := rs.map R.m) fun x hx => by
    obtain ⟨b, hb, rfl⟩ := List.mem_map.mp hx
    exact List.mem_map.mpr ⟨b, (mem_stand hb).1, rfl⟩
  simpa using h2
theorem stand_len {rs : List R} (H : Rows rs) : (stand rs).length ≤ 60 := by
  obtain ⟨l, p, h⟩ := stand_sub rs
  have := p.length_eq
  have := H.len
  omega
theorem stand_ok {rs : List R} (H : Rows rs) {b : R} (h : b ∈ stand rs) : b.Ok := H.ok b (mem_stand h).1
/-! ### the dict of the best -/
def stepB (bd : List (Int × R)) (r : R) : List (Int × R) := match bd.lookup r.m with
  | none => bd ++ [(r.m, r)]
  | some b => if b.k < r.k then bd.map (fun p => if p.1 = r.m then (p.1, r) else p) else bd
def encB (bd : List (Int × R)) : List (D × D) := bd.map fun p => (D.int p.1, p.2.e)
theorem look_encB (m : Int) : ∀ bd : List (Int × R), lookD (encB bd) (.int m) = (bd.lookup m).map R.e
  | [] => rfl
  | p :: bd => by
    show (if keq (.int p.1) (.int m) = true then some p.2.e else lookD (encB bd) (.int m)) = _
    rw [List.lookup_cons]
    by_cases h : p.1 = m
    · subst h
      simp [keq]
    · have h2 : (m == p.1) = false := by simpa using fun e => h e.symm
      rw [h2]
      simp only [keq, h, decide_false, Bool.false_eq_true, if_false]
      exact look_encB m bd
theorem any_encB (m : Int) (bd : List (Int × R)) : ((encB bd).any fun p => keq p.1 (.int m)) = (bd.lookup m).isSome := by
  induction bd with
  | nil => rfl
  | cons p bd ih =>
    show (keq (.int p.1) (.int m) || (encB bd).any fun p => keq p.1 (.int m)) = _
    rw [ih, List.lookup_cons]
    by_cases h : p.1 = m
    · subst h; simp [keq]
    · have h2 : (m == p.1) = false := by simpa using fun e => h e.symm
      rw [h2]
      simp [keq, h]
theorem put_encB (bd : List (Int × R)) (r : R) (h : bd.lookup r.m = none ∨ ∃ b, bd.lookup r.m = some b ∧ b.k < r.k) : putD (encB bd) (.int r.m) r.e = encB (stepB bd r) := by
  unfold putD stepB
  rw [any_encB]
  rcases h with h | ⟨b, h, hk⟩
  · rw [h]
    simp [encB]
  · rw [h]
    simp only [Option.isSome_some, if_true, hk]
    unfold encB
    rw [List.map_map, List.map_map]
    apply List.map_congr_left
    intro p hp
    simp only [Function.comp, keq]
    by_cases e : p.1 = r.m <;> simp [e]
theorem lookup_append {m : Int} : ∀ (a b : List (Int × R)), (a ++ b).lookup m = match a.lookup m with | some x => some x | none => b.lookup m
  | [], b => by simp
  | p :: a, b => by
    rw [List.cons_append, List.lookup_cons, List.lookup_cons]
    cases m == p.1 with
    | true => rfl
    | false => exact lookup_append a b
theorem lookup_repl {m k : Int} {r : R} : ∀ (a : List (Int × R)), (a.map fun p => if p.1 = k then (p.1, r) else p).lookup m = if m = k then (a.lookup m).map (fun _ => r) else a.lookup m
  | [] => by simp
  | p :: a => by
    rw [List.map_cons, List.lookup_cons, List.lookup_cons, lookup_repl a]
    by_cases h : p.1 = k
    · by_cases h2 : m = p.1
      · subst h2; simp [h]
      · have : (m == p.1) = false := by simpa using h2
        simp [h, this, show ¬ m = k from fun e => h2 (e.trans h.symm), h ▸ this]
    · by_cases h2 : m = p.1
      · subst h2; simp [h]
      · have : (m == p.1) = false := by simpa using h2
        simp [h, this]
theorem stepB_lookup (bd : List (Int × R)) (r : R) (m : Int) : (stepB bd r).lookup m = if r.m = m then better (bd.lookup m) r else bd.lookup m := by
  unfold stepB
  by_cases h : r.m = m
  · subst h
    rw [if_pos rfl]
    cases hl : bd.lookup r.m with
    | none =>
      simp only [better]
      rw [lookup_append, hl]
      simp
    | some b =>
      simp only [better]
      split
      · rw [lookup_repl, if_pos rfl, hl]; rfl
      · exact hl
  · rw [if_neg h]
    cases hl : bd.lookup r.m with
    | none =>
      simp only
      rw [lookup_append]
      have : (m == r.m) = false := by simpa using fun e => h e.symm
      cases bd.lookup m <;> simp [this, show ¬ m = r.m from fun e => h e.symm]
    | some b =>
      simp only
      split
      · rw [lookup_repl, if_neg (fun e => h e.symm)]
      · rfl
theorem fold_lookup (m : Int) : ∀ (rs : List R) (bd : List (Int × R)), (rs.foldl stepB bd).lookup m = (rs.filter fun r => decide (r.m = m)).foldl better (bd.lookup m)
  | [], bd => rfl
  | r :: rs, bd => by
    rw [List.foldl_cons, fold_lookup m rs, stepB_lookup]
    by_cases h : r.m = m
    · rw [List.filter_cons_of_pos (by simpa using h), List.foldl_cons, if_pos h]
    · rw [List.filter_cons_of_neg (by simpa using h), if_neg h]
theorem bd_lookup (m : Int) (rs : List R) : (rs.foldl stepB []).lookup m = best m rs := fold_lookup m rs []
theorem lookup_mem {m : Int} : ∀ {bd : List (Int × R)}, bd.lookup m = none ↔ m ∉ bd.map (·.1)
  | [] => by simp
  | p :: bd => by
    rw [List.lookup_cons, List.map_cons, List.mem_cons]
    by_cases h : m = p.1
    · subst h; simp
    · have : (m == p.1) = false := by simpa using h
      rw [this]
      simp only [h, false_or]
      exact lookup_mem
theorem keys_repl {k : Int} {r : R} (a : List (Int × R)) : (a.map fun p => if p.1 = k then (p.1, r) else p).map (·.1) = a.map (·.1) := by
  rw [List.map_map]
  apply List.map_congr_left
  intro p _
  simp only [Function.comp]
  split <;> rfl
theorem stepB_nodup {bd : List (Int × R)} {r : R} (h : (bd.map (·.1)).Nodup) : ((stepB bd r).map (·.1)).Nodup := by
  unfold stepB
  cases hl : bd.lookup r.m with
  | none =>
    simp only [List.map_append, List.map_cons, List.map_nil]
    rw [List.nodup_append]
    exact ⟨h, by simp, fun a ha b hb => by
      rw [List.mem_singleton.mp hb]
      rintro rfl
      exact lookup_mem.mp hl ha⟩
  | some b =>
    simp only
    split
    · rw [keys_repl]; exact h
    · exact h
theorem fold_nodup : ∀ (rs : List R) (bd : List (Int × R)), (bd.map (·.1)).Nodup → ((rs.foldl stepB bd).map (·.1)).Nodup
  | [], _, h => h
  | r :: rs, bd, h => fold_nodup rs _ (stepB_nodup h)
theorem stepB_len (bd : List (Int × R)) (r : R) : (stepB bd r).length ≤ bd.length + 1 := by
  unfold stepB
  split
  · simp
  · split <;> simp
theorem fold_len : ∀ (rs : List R) (bd : List (Int × R)), (rs.foldl stepB bd).length ≤ bd.length + rs.length
  | [], _ => by simp
  | r :: rs, bd => by
    have h1 := fold_len rs (stepB bd r)
    have h2 := stepB_len bd r
    rw [List.foldl_cons, List.length_cons]
    omega
theorem intKeys_encB (bd : List (Int × R)) : intKeys (encB bd) = some (bd.map (·.1)) := by
  induction bd with
  | nil => rfl
  | cons p bd ih =>
    show ((intKeys (encB bd)).map fun l => p.1 :: l) = _
    rw [ih]; rfl
/-- the marks that stand, ascending -/
def marksOf (rs : List R) : List Int := ((List.range 1000).map fun i : Nat => (i : Int)).filter fun m => (best m rs).isSome
theorem marks_sorted {rs : List R} (H : Rows rs) : sortI ((rs.foldl stepB []).map (·.1)) = marksOf rs := by
  have hs : (marksOf rs).Pairwise (· < ·) := List.Pairwise.filter _ (by
    rw [List.pairwise_map]
    exact List.pairwise_lt_range.imp fun h => by omega)
  have nd1 := fold_nodup rs [] .nil
  have pm : ((rs.foldl stepB []).map (·.1)).Perm (marksOf rs) := perm_of_mem nd1 (hs.imp fun h => by omega) fun m => by
    have e1 := bd_lookup m rs
    unfold marksOf
    rw [List.mem_filter]
    constructor
    · intro hm
      have hne : (rs.foldl stepB []).lookup m ≠ none := fun q => lookup_mem.mp q hm
      rw [e1] at hne
      obtain ⟨b, hb⟩ := Option.ne_none_iff_exists'.mp hne
      obtain ⟨b1, b2, _⟩ := best_some hb
      have ok := H.ok b b1
      have h0 := ok.m0
      have h1 := ok.m1
      refine ⟨List.mem_map.mpr ⟨m.toNat, List.mem_range.mpr (by omega), by omega⟩, by rw [hb]; rfl⟩
    · rintro ⟨_, h2⟩
      refine Classical.byContradiction fun q => ?_
      have := lookup_mem.mpr q
      rw [e1] at this
      rw [this] at h2
      cases h2
  exact sorted_uniq ((sortI_perm _).trans pm) (sortI_sorted _) (hs.imp fun h => by omega)
theorem stand_marks (rs : List R) (d : R) : (marksOf rs).map (fun m => (best m rs).getD d) = stand rs := by
  unfold marksOf stand standTo
  generalize List.range 1000 = l
  induction l with
  | nil => rfl
  | cons i l ih =>
    rw [List.map_cons, List.filterMap_cons]
    cases h : best (i : Nat) rs with
    | none => rw [List.filter_cons_of_neg (by simp [h])]; simpa using ih
    | some b => rw [List.filter_cons_of_pos (by simp [h]), List.map_cons, h]; simpa using ih
end Law
namespace M
open PySem PySem.Spec L2
theorem signs_map : ∀ l : List Nat, signs l = l.map fun c : Nat => D.str ⟨#[c]⟩
  | [] => rfl
  | c :: l => by rw [List.map_cons, ← signs_map l]; rfl
theorem dFn_next {ar n : Nat} {fb : SDen} {ss : List S} {ρ' : Env} {st' : Sto} (h : ss.length = ar) (e : fb (ss.map some ++ List.replicate (n - ar) none) [] = .next ρ' st') : dFn ar n fb ss [] = .ok .non [] := by
  unfold dFn
  rw [if_pos h, e]
  simp [cutOff]
abbrev gE (p r : Nat) : GD := gT (gsCons (gN p) (gsCons (gN r) gsNil)) 2
theorem gE_ok {p r k : Nat} {d : D} {ρ : Env} : gE p r (.tup [.int (k : Nat), d]) ρ = some ((ρ.set p (some (.p (.int (k : Nat))))).set r (some (.p d))) := rfl
/-- enumerate: a turn that goes on or leaves -/
theorem enum_all {p r : Nat} (hpr : p ≠ r) {fb : SDen} {st : Sto} {base : Env} (hp : p < base.length) (hr : r < base.length) : ∀ (ds : List D) (k : Nat), (∀ i d ρ, ds[i]? = some d → Agr [p, r] base ρ → At ρ p (.int ((k + i : Nat) : Int)) → At ρ r d → fb ρ st = .next ρ st) →
    ∀ ρ, Agr [p, r] base ρ → ∀ rest, ∃ ρ', Agr [p, r] base ρ' ∧ forL (gE p r) fb (enumL k ds ++ rest) ρ st = forL (gE p r) fb rest ρ' st
  | [], k, _, ρ, h, rest => ⟨ρ, h, rfl⟩
  | d :: ds, k, hs, ρ, h, rest => by
    have a1 : Agr [p, r] base ((ρ.set p (some (.p (.int (k : Nat))))).set r (some (.p d))) := (h.set (by simp)).set (by simp)
    have lp : p < ρ.length := by rw [h.1]; exact hp
    have lr : r < ρ.length := by rw [h.1]; exact hr
    have e1 := hs 0 d _ rfl a1 ((gset (Ne.symm hpr)).trans (gself lp)) (gself (by simpa using lr))
    obtain ⟨ρ', a2, e2⟩ := enum_all hpr hp hr ds (k + 1) (fun i d ρ hd a b c => hs (i + 1) d ρ (by simpa using hd) a (by rw [show k + (i + 1) = k + 1 + i by omega]; exact b) c) _ a1 rest
    refine ⟨ρ', a2, ?_⟩
    unfold enumL
    rw [List.cons_append, forL_cons gE_ok e1]
    exact e2
theorem enumL_app : ∀ (a b : List D) (k : Nat), enumL k (a ++ b) = enumL k a ++ enumL (k + a.length) b
  | [], b, k => by simp [enumL]
  | x :: a, b, k => by
    simp only [List.cons_append, enumL, enumL_app a b (k + 1), List.length_cons]
    rw [show k + 1 + a.length = k + (a.length + 1) by omega]
end M
namespace Law
open PySem PySem.Spec L2 M
theorem is_whole_int (i : Int) : dn_is_whole [.p (.int i)] [] = .ok (.bl true) [] := by
  simp [dn_is_whole]
theorem is_within_int (v a b : Int) : dn_is_within [.p (.int v), .p (.int a), .p (.int b)] [] = .ok (.bl (decide (a ≤ v) && decide (v ≤ b))) [] := by
  simp [dn_is_within, is_whole_int, dLe]
  by_cases h : a ≤ v <;> simp [h]
theorem is_row_tup (l : List D) (n : Int) : dn_is_row [.p (.tup l), .p (.int n)] [] = .ok (.bl ((l.length : Int) == n)) [] := by
  simp [dn_is_row, dLen, dEq]
theorem strok {x : PySem.Str} (h : ∀ c ∈ x.cps.toList, c < 1114112) : PyData.strOk x = true := by
  unfold PyData.strOk
  rw [← Array.all_toList, List.all_eq_true]
  exact fun c hc => decide_eq_true (h c hc)
theorem NameOk.sok {x : PySem.Str} (h : NameOk x) : PyData.strOk x = true := strok fun c hc => by have := h.2 c hc; omega
theorem wok {x : PySem.Str} (h : x = "sold" ∨ x = "back") : PyData.strOk x = true := by
  rcases h with rfl | rfl <;> decide +kernel
theorem alpha_in : ∀ c ∈ List.range' 97 26, dIn (.str ⟨#[c]⟩) (.str "abcdefghijklmnopqrstuvwxyz") = some (.bl true) := by
  intro c hc
  have h : ∀ c ∈ List.range' 97 26, (Builtin.Str.occurrences ("abcdefghijklmnopqrstuvwxyz" : PySem.Str) ⟨#[c]⟩ 0 ("abcdefghijklmnopqrstuvwxyz" : PySem.Str).length 1).isEmpty = false := by decide +kernel
  unfold dIn
  simp only [h c hc]
  rfl
theorem alpha_in' {c : Nat} (h0 : 97 ≤ c) (h1 : c ≤ 122) : dIn (.str ⟨#[c]⟩) (.str "abcdefghijklmnopqrstuvwxyz") = some (.bl true) := alpha_in c (List.mem_range'.mpr ⟨c - 97, by omega, by omega⟩)
theorem is_name_ok {x : PySem.Str} (h : NameOk x) : dn_is_name [.p (.str x)] [] = .ok (.bl true) [] := by
  have hc := compL_all (g := gN 1) (fe := eOp2 dIn (eVar 1) (eC (.str "abcdefghijklmnopqrstuvwxyz"))) (ρ := [some (.p (.str x)), none]) (st := []) (fun c : Nat => D.str ⟨#[c]⟩) (fun _ => D.bl true) x.cps.toList (by
    intro c hc
    obtain ⟨h0, h1⟩ := h.2 c hc
    refine ⟨_, rfl, ?_⟩
    simp [alpha_in' h0 h1])
  have hs : x.length ≤ sizeLine := sz (by have := h.1.2; omega)
  have e : signs x.cps.toList = x.cps.toList.map fun c : Nat => D.str ⟨#[c]⟩ := signs_map _
  have h1 := h.1.1
  have h2 := h.1.2
  have hx : x.cps.toList.length = x.length := by simp [PySem.Str.length]
  simp [dn_is_name, dLen, hs, dLe, h1, h2, itemsOf, e, hx, hc, wipeE, dAll_true, show (1 : Int) ≤ (x.length : Int) by omega, show (x.length : Int) ≤ 8 by omega]
/-! ### the rows are right -/
theorem e_flat {r : R} (h : r.Ok) (n : Nat) : D.flat (n + 1) r.e = true := by
  simp [h.h.sok, h.kd.sok, wok h.w]
theorem eqv_e {r s : R} : D.eqv r.e s.e = true ↔ r = s := by
  obtain ⟨a1, a2, a3, a4, a5, a6⟩ := r
  obtain ⟨b1, b2, b3, b4, b5, b6⟩ := s
  simp [R.e, and_assoc]
theorem dEq_e {r : R} (h : r.Ok) : dEq r.e r.e = some (.bl true) := by
  unfold dEq
  rw [e_flat h 59, (eqv_e (r := r) (s := r)).mpr rfl]
  rfl
theorem cut2 (r : R) : cutD [D.int r.m, .int r.k, .str r.h, .str r.w, .str r.kd, .int r.p] none (some 2) = [.int r.m, .int r.k] := by
  rw [show (2 : Int) = ((2 : Nat) : Int) from rfl, cutD_take _ 2 (by simp)]
  rfl
theorem told_row {r : R} {pre : List R} (h : r.Ok) (hp : ∀ s ∈ pre, s.Ok ∧ (s.m = r.m → s.k = r.k → s = r)) (hl : pre.length ≤ 60) : dn_is_told_row [.p r.e, .p (.tup (pre.map R.e))] [] = .ok (.bl true) [] := by
  have hc := compL_map (g := gN 2) (ft := dn_is_told_row_t1) (fe := eOp2 dEq (eVar 2) (eVar 0)) (ρ := [some (.p r.e), some (.p (.tup (pre.map R.e))), none]) (st := []) R.e (fun s => decide (s.m = r.m) && decide (s.k = r.k)) (fun _ => D.bl true) pre (by
    intro s hs
    obtain ⟨h1, h2⟩ := hp s hs
    refine ⟨_, rfl, ?_, fun hh => ?_⟩
    · simp [dn_is_told_row_t1, dCut, cut2, dEq, R.e]
      rfl
    · simp only [Bool.and_eq_true, decide_eq_true_eq] at hh
      obtain rfl := h2 hh.1 hh.2
      show (match dEq s.e s.e with | some z => Res.ok z [] | none => .stuck) = _
      rw [dEq_e h1])
  have hz : (pre.map R.e).length ≤ sizeLine := sz (by rw [List.length_map]; omega)
  have hz2 : ∀ p : R → Bool, (List.filter p pre).length ≤ sizeLine := fun p => sz (by have := List.length_filter_le p pre; omega)
  have s1 : dn_is_told_row_s1 [some (.p r.e), some (.p (.tup (pre.map R.e))), none] [] = .next [some (.p r.e), some (.p (.tup (pre.map R.e))), none] [] := by
    simp [dn_is_told_row_s1, is_row_tup, is_within_int, dIx, atI, ixN, h.m0, h.m1, h.k0, h.k1]
  have s2 : dn_is_told_row_s2 [some (.p r.e), some (.p (.tup (pre.map R.e))), none] [] = .next [some (.p r.e), some (.p (.tup (pre.map R.e))), none] [] := by
    have hw : dNotIn (.str r.w) (.tup [.str "sold", .str "back"]) = some (.bl false) := by
      have ok := wok h.w
      have o1 : PyData.strOk ("sold" : PySem.Str) = true := by decide +kernel
      have o2 : PyData.strOk ("back" : PySem.Str) = true := by decide +kernel
      rcases h.w with e | e <;> (rw [e] at ok ⊢; simp [dNotIn, dIn, ok, o1, o2, pysIn])
    simp [dn_is_told_row_s2, is_name_ok h.h, is_name_ok h.kd, dIx, atI, ixN, hw, szs]
  have s3 : dn_is_told_row_s3 [some (.p r.e), some (.p (.tup (pre.map R.e))), none] [] = .next [some (.p r.e), some (.p (.tup (pre.map R.e))), none] [] := by
    simp [dn_is_told_row_s3, is_within_int, dIx, atI, ixN, h.p0, h.p1]
  have s4 : dn_is_told_row_s4 [some (.p r.e), some (.p (.tup (pre.map R.e))), none] [] = .ret (.bl true) [] := by
    have hz' : pre.length ≤ sizeLine := sz (by omega)
    simp [dn_is_told_row_s4, itemsOf, hz', wipeE, hc, hz2, dAll_true]
  refine dFn_ret rfl (st' := []) ?_
  show sSeq dn_is_told_row_s1 (sSeq dn_is_told_row_s2 (sSeq dn_is_told_row_s3 dn_is_told_row_s4)) [some (.p r.e), some (.p (.tup (pre.map R.e))), none] [] = _
  rw [sSeq_next s1, sSeq_next s2, sSeq_next s3, s4]
theorem tab_row : tabF "is_told_row" = some (2, dn_is_told_row) := by simp [tabF]
theorem first_ok {rs : List R} (H : Rows rs) : dn_first_wrong [.p (.tup (rs.map R.e)), .p (.int 0), .p (.int 60), .p (.fn "is_told_row")] [] = .ok .non [] := by
  have hl := H.len
  have s1 : dn_first_wrong_s1 [some (.p (.tup (rs.map R.e))), some (.p (.int 0)), some (.p (.int 60)), some (.p (.fn "is_told_row")), none, none] [] = .next [some (.p (.tup (rs.map R.e))), some (.p (.int 0)), some (.p (.int 60)), some (.p (.fn "is_told_row")), none, none] [] := by
    simp [dn_first_wrong_s1, dLen, dLe, show (0 : Int) ≤ (rs.length : Int) by omega, show (rs.length : Int) ≤ 60 by omega]
  obtain ⟨ρ', a', e'⟩ := enum_all (p := 4) (r := 5) (by decide) (fb := dn_first_wrong_s2) (st := []) (base := [some (.p (.tup (rs.map R.e))), some (.p (.int 0)), some (.p (.int 60)), some (.p (.fn "is_told_row")), none, none]) (by simp) (by simp) (rs.map R.e) 0 (by
    intro i d ρ hd ag h4 h5
    rw [List.getElem?_map] at hd
    obtain ⟨r, hr, rfl⟩ := Option.map_eq_some_iff.mp hd
    have hi : i < rs.length := (List.getElem?_eq_some_iff.mp hr).1
    have hm : r ∈ rs := List.mem_of_getElem? hr
    have g0 : ρ[0]? = some (some (.p (.tup (rs.map R.e)))) := ag.2 0 (by decide)
    have g3 : ρ[3]? = some (some (.p (.fn "is_told_row"))) := ag.2 3 (by decide)
    have g4 : ρ[4]? = some (some (.p (.int (i : Nat)))) := by rw [Nat.zero_add] at h4; exact h4
    have g5 : ρ[5]? = some (some (.p r.e)) := h5
    have ct := cutD_take (rs.map R.e) i (by simp; omega)
    have ht := told_row (pre := rs.take i) (H.ok r hm) (fun s hs => ⟨H.ok s (List.mem_of_mem_take hs), fun h1 h2 => H.fn s (List.mem_of_mem_take hs) r hm h1 h2⟩) (by rw [List.length_take]; omega)
    rw [List.map_take] at ht
    simp [dn_first_wrong_s2, g0, g3, g4, g5, tab_row, dCut, ct, ht]) _ Agr.refl []
  rw [List.append_nil] at e'
  have s3 : dn_first_wrong_s3 [some (.p (.tup (rs.map R.e))), some (.p (.int 0)), some (.p (.int 60)), some (.p (.fn "is_told_row")), none, none] [] = .next ρ' [] := by
    simp only [dn_first_wrong_s3, sFor, sOf, iEnumD, eVar, Res.bind, itemsOf, List.getElem?_cons_zero]
    first | exact e' | (simp only [enumOf]; exact e') | skip
  refine dFn_ret rfl (st' := []) ?_
  show sSeq dn_first_wrong_s1 (sSeq dn_first_wrong_s3 (sRet (eC .non))) [some (.p (.tup (rs.map R.e))), some (.p (.int 0)), some (.p (.int 60)), some (.p (.fn "is_told_row")), none, none] [] = _
  rw [sSeq_next s1, sSeq_next s3]
  rfl
theorem require_ok {rs : List R} (H : Rows rs) : dn_require_rows [.p (.tup (rs.map R.e))] [] = .ok .non [] := by
  have h := first_ok H
  have s1 : dn_require_rows_s1 [some (.p (.tup (rs.map R.e))), none] [] = .next [some (.p (.tup (rs.map R.e))), some (.p .non)] [] := by
    simp [dn_require_rows_s1, h]
  refine dFn_next rfl (ρ' := [some (.p (.tup (rs.map R.e))), some (.p .non)]) (st' := []) ?_
  show sSeq dn_require_rows_s1 dn_require_rows_s2 [some (.p (.tup (rs.map R.e))), none] [] = _
  rw [sSeq_next s1]
  simp [dn_require_rows_s2, dIsNot, D.isNon]
end Law
namespace Law
open PySem PySem.Spec L2 M
def r0 : R := ⟨0, 0, "", "", "", 0⟩
theorem ix_e (r : R) : dIx r.e (.int 0) = some (.int r.m) ∧ dIx r.e (.int 1) = some (.int r.k) ∧ dIx r.e (.int 2) = some (.str r.h) ∧ dIx r.e (.int 3) = some (.str r.w) ∧ dIx r.e (.int 4) = some (.str r.kd) ∧ dIx r.e (.int 5) = some (.int r.p) := ⟨rfl, rfl, rfl, rfl, rfl, rfl⟩
theorem so_s2 {ρ : M.Env} {bd : List (Int × R)} {r : R} {st : Sto} (h1 : ρ[1]? = some (some (.r st.length))) (h2 : At ρ 2 r.e) (hb : bd.length ≤ 1000) : dn_standing_of_s2 ρ (st ++ [.dic (encB bd)]) = .next ρ (st ++ [.dic (encB (stepB bd r))]) := by
  have h2' : ρ[2]? = some (some (.p r.e)) := h2
  obtain ⟨i0, i1, _⟩ := ix_e r
  have lb : (encB bd).length < sizeLine := by
    unfold encB
    rw [List.length_map]
    have := sizeLine_eq
    omega
  have s1 : (bd.lookup r.m = none ∨ ∃ b, bd.lookup r.m = some b ∧ b.k < r.k) → dn_standing_of_s1 ρ (st ++ [.dic (encB bd)]) = .next ρ (st ++ [.dic (encB (stepB bd r))]) := fun h => by
    have hp := put_encB bd r h
    simp only [dn_standing_of_s1, sPutK, sOf, eVar, h2', Res.bind, dicAt, h1, end_get, eOp2P, eVarB, eC, i0]
    simp [putKAt, kOf, lb, hp]
  have lk := look_encB r.m bd
  cases hl : bd.lookup r.m with
  | none =>
    rw [hl] at lk
    simp only [dn_standing_of_s2, sIf, sOf, eOr, eB, eOp2, eOp2P, eVarB, h2', eC, Res.bind, i0, h1, end_get, Option.bind_some, thaw, dNotInK, kOf, lk]
    simp
    exact s1 (.inl hl)
  | some b =>
    rw [hl] at lk
    obtain ⟨_, b1, _⟩ := ix_e b
    by_cases hk : b.k < r.k
    · simp only [dn_standing_of_s2, sIf, sOf, eOr, eB, eOp2, eOp2P, eVarB, h2', eC, Res.bind, i0, i1, h1, end_get, Option.bind_some, thaw, dNotInK, dGetK, kOf, lk, Option.map_some, b1, dLt, hk, decide_true]
      simp
      exact s1 (.inr ⟨b, hl, hk⟩)
    · have e : stepB bd r = bd := by unfold stepB; rw [hl]; simp [hk]
      simp only [dn_standing_of_s2, sIf, sOf, eOr, eB, eOp2, eOp2P, eVarB, h2', eC, Res.bind, i0, i1, h1, end_get, Option.bind_some, thaw, dNotInK, dGetK, kOf, lk, Option.map_some, b1, dLt, hk, decide_false, e]
      simp
theorem standing_of_ok {rs : List R} (H : Rows rs) : dn_standing_of [.p (.tup (rs.map R.e))] [] = .ok (.lst ((stand rs).map R.e)) [] := by
  have hl := H.len
  have hf := forL_store (v := 2) (fb := dn_standing_of_s2) (base := [some (.p (.tup (rs.map R.e))), some (.r 0), none, none]) R.e rs (fun i => [.dic (encB ((rs.take i).foldl stepB []))]) (by
    intro i r hr
    have h := so_s2 (ρ := [some (.p (.tup (rs.map R.e))), some (.r 0), none, none].set 2 (some (.p r.e))) (bd := (rs.take i).foldl stepB []) (r := r) (st := []) rfl rfl (by
      have := fold_len (rs.take i) []
      rw [List.length_take] at this
      simp only [List.length_nil] at this
      omega)
    rw [List.nil_append, List.nil_append] at h
    rw [h, List.take_add_one, hr, List.foldl_append]
    rfl)
  obtain ⟨ρ', hρ, hf⟩ := hf
  obtain ⟨x, rfl⟩ := env_set hρ (by simp)
  rw [List.take_zero, List.take_length] at hf
  have hn : ((rs.foldl stepB []).map (·.1)).length < 64 := by
    rw [List.length_map]
    have := fold_len rs []
    simp only [List.length_nil] at this
    omega
  have hm := marks_sorted H
  have hlen : (marksOf rs).length < 64 := by
    rw [← hm, (sortI_perm _).length_eq]
    exact hn
  have hk : dSortedK (.dic (encB (rs.foldl stepB []))) = some (.lst ((marksOf rs).map D.int)) := by
    unfold dSortedK
    simp only [intKeys_encB, hn, if_true, hm]
  have hc := compL_all (g := gN 3) (fe := eOp2P dGetK 1 (eVar 3)) (ρ := wipeE ([some (.p (.tup (rs.map R.e))), some (.r 0), none, none].set 2 x) [3]) (st := [.dic (encB (rs.foldl stepB []))]) D.int (fun m => ((best m rs).getD r0).e) (marksOf rs) (by
    intro m hm
    refine ⟨_, rfl, ?_⟩
    obtain ⟨b, hb⟩ := Option.isSome_iff_exists.mp (List.mem_filter.mp hm).2
    have lk := look_encB m (rs.foldl stepB [])
    rw [bd_lookup, hb] at lk
    simp [wipeE, thaw, dGetK, kOf, lk, hb])
  have hzm : (marksOf rs).length ≤ sizeLine := sz (by omega)
  have hst : ((marksOf rs).map fun m => ((best m rs).getD r0).e) = (stand rs).map R.e := by
    rw [← stand_marks rs r0, List.map_map]
    rfl
  rw [hst] at hc
  have hzs : ((stand rs).map R.e).length ≤ sizeLine := sz (by rw [List.length_map]; have := stand_len H; omega)
  have s4 : dn_standing_of_s4 ([some (.p (.tup (rs.map R.e))), some (.r 0), none, none].set 2 x) [.dic (encB (rs.foldl stepB []))] = .ret (.lst ((stand rs).map R.e)) [.dic (encB (rs.foldl stepB []))] := by
    have hv : eOp1 dSortedK (eVarB 1) ([some (.p (.tup (rs.map R.e))), some (.r 0), none, none].set 2 x) [.dic (encB (rs.foldl stepB []))] = .ok (.lst ((marksOf rs).map D.int)) [.dic (encB (rs.foldl stepB []))] := by
      simp [thaw, hk]
    simp only [dn_standing_of_s4, sRet, sOf, ePure, eComp, iSeq, hv, Res.bind, itemsOf, List.length_map, hzm, if_true, hc, hzs]
    simp [thaw]
  have s3 : dn_standing_of_s3 [some (.p (.tup (rs.map R.e))), some (.r 0), none, none] [.dic []] = .next ([some (.p (.tup (rs.map R.e))), some (.r 0), none, none].set 2 x) [.dic (encB (rs.foldl stepB []))] := by
    simp only [dn_standing_of_s3, sFor, sOf, iSeq, eVar, Res.bind, itemsOf, List.getElem?_cons_zero]
    exact hf
  refine dFn_ret rfl (st' := [.dic (encB (rs.foldl stepB []))]) ?_
  show sSeq (sNew 1 nDicK) (sSeq dn_standing_of_s3 dn_standing_of_s4) [some (.p (.tup (rs.map R.e))), none, none, none] [] = _
  rw [sSeq_next (show sNew 1 nDicK [some (.p (.tup (rs.map R.e))), none, none, none] [] = .next [some (.p (.tup (rs.map R.e))), some (.r 0), none, none] [.dic []] from rfl), sSeq_next s3, s4]
theorem standing_ok {rs : List R} (H : Rows rs) : dn_standing [.p (.tup (rs.map R.e))] [] = .ok (.tup ((stand rs).map R.e)) [] := by
  simp [dn_standing, require_ok H, standing_of_ok H, dTuple]
/-! ### the law's own: by marks -/
theorem e_alike (r s : R) : PySem.W.alike r.e.py s.e.py = true := by
  simp [R.e, D.py, D.pys, PySem.W.alike, PySem.W.alikeAll]
theorem leD_e {r s : R} (hm : r.m = s.m) (h : leD r.e s.e = true) : r.k ≤ s.k := by
  refine Int.not_lt.mp fun q => ?_
  have e : leD r.e s.e = !(PyProof.Rows.itemOrd.blt (.inl s.k) (.inl r.k)) := by
    show (!PyProof.Rows.lexLt PyProof.Rows.itemOrd (.inl 1 :: .inl s.m :: .inl 1 :: .inl s.k :: _) (.inl 1 :: .inl r.m :: .inl 1 :: .inl r.k :: _)) = _
    rw [hm]
    congr 1
    exact (PyProof.Rows.lex_self (O := PyProof.Rows.itemOrd) _ _ _).trans ((PyProof.Rows.lex_self (O := PyProof.Rows.itemOrd) _ _ _).trans ((PyProof.Rows.lex_self (O := PyProof.Rows.itemOrd) _ _ _).trans (PyProof.Rows.lex_diff (O := PyProof.Rows.itemOrd) (fun e => by have := Sum.inl.inj e; omega))))
  rw [e] at h
  have : PyProof.Rows.itemOrd.blt (.inl s.k) (.inl r.k) = true := by
    show decide (s.k < r.k) = true
    exact decide_eq_true q
  rw [this] at h
  cases h
theorem sortOk_e {l : List R} (h : ∀ r ∈ l, r.Ok) : sortOk (l.map R.e) = true := by
  unfold sortOk
  have h1 : D.flats 59 (l.map R.e) = true := by
    rw [flats_all, List.all_map, List.all_eq_true]
    exact fun r hr => e_flat (h r hr) 58
  rw [h1]
  simp only [Bool.true_and, Bool.and_eq_true, List.all_map, List.all_eq_true, Bool.or_eq_true]
  exact ⟨fun r hr => List.all_eq_true.mpr fun s hs => e_alike s r, .inl fun r hr => rfl⟩
theorem last_sorted {rs : List R} (H : Rows rs) {m : Int} {b : R} (hb : best m rs = some b) : ∃ pre, dSortG (.lst ((rs.filter fun r => decide (r.m = m)).map R.e)) = some (.lst (pre ++ [b.e])) := by
  obtain ⟨b1, b2, b3⟩ := best_some hb
  have hl := H.len
  obtain ⟨mine, hmine⟩ : ∃ mine, (rs.filter fun r => decide (r.m = m)) = mine := ⟨_, rfl⟩
  have hsub : ∀ r ∈ mine, r ∈ rs ∧ r.m = m := fun r hr => by
    rw [← hmine] at hr
    obtain ⟨a, b⟩ := List.mem_filter.mp hr
    exact ⟨a, by simpa using b⟩
  have hbm : b ∈ mine := by rw [← hmine]; exact List.mem_filter.mpr ⟨b1, by simpa using b2⟩
  have hml : mine.length ≤ 60 := by
    rw [← hmine]
    have := List.length_filter_le (fun r : R => decide (r.m = m)) rs
    omega
  have hz : (mine.map R.e).length ≤ sizeLine := sz (by rw [List.length_map]; omega)
  have ho := sortOk_e fun r hr => H.ok r (hsub r hr).1
  rw [hmine]
  show ∃ pre, (if sortOk (mine.map R.e) = true then (if (mine.map R.e).length ≤ sizeLine then some (D.lst ((mine.map R.e).mergeSort leD)) else none) else none) = some (D.lst (pre ++ [b.e]))
  rw [if_pos ho, if_pos hz]
  have pm := sortD_perm (mine.map R.e)
  have ps := sortD_sorted (mine.map R.e)
  obtain ⟨x, pre, hx⟩ : ∃ x pre, sortD (mine.map R.e) = pre ++ [x] := by
    have : sortD (mine.map R.e) ≠ [] := fun e => by
      have := pm.length_eq
      rw [e, List.length_map] at this
      have := List.length_pos_of_mem hbm
      simp at *
      omega
    exact ⟨_, _, (List.dropLast_concat_getLast this).symm⟩
  have hxe : x = b.e := by
    have hxm : x ∈ mine.map R.e := pm.mem_iff.mp (by rw [hx]; simp)
    obtain ⟨c, hc, rfl⟩ := List.mem_map.mp hxm
    obtain ⟨c1, c2⟩ := hsub c hc
    have hbs : b.e ∈ sortD (mine.map R.e) := pm.mem_iff.mpr (List.mem_map.mpr ⟨b, hbm, rfl⟩)
    rw [hx] at hbs ps
    rcases List.mem_append.mp hbs with hbs | hbs
    · have hle := (List.pairwise_append.mp ps).2.2 _ hbs c.e (by simp)
      have k1 := leD_e (by rw [b2, c2]) hle
      have k2 := b3 c c1 c2
      rw [H.fn c c1 b b1 (by rw [c2, b2]) (by omega)]
    · exact (List.mem_singleton.mp hbs).symm
  refine ⟨pre, ?_⟩
  rw [← hxe, ← hx]
  rfl
theorem atI_last {α : Type} (l : List α) (x : α) : atI (l ++ [x]) (-1) = some x := by
  unfold atI ixN
  simp
  rw [if_pos (by omega), show (-1 + ((l.length : Int) + 1)).toNat = l.length by omega]
  simp
theorem ls_b1 {ρ : M.Env} {rs : List R} (H : Rows rs) {i : Nat} {l : List D} {st : Sto} (hlen : ρ.length = 5) (h0 : At ρ 0 (.tup (rs.map R.e))) (h1 : ρ[1]? = some (some (.r st.length))) (h2 : At ρ 2 (.int (i : Nat))) (hl : l.length ≤ 100000) :
    dn__law_standing_b1 ρ (st ++ [.lst l]) = .next (ρ.set 3 (some (.p (.lst ((rs.filter fun r => decide (r.m = (i : Int))).map R.e))))) (st ++ [.lst (l ++ ((best (i : Nat) rs).toList).map R.e)]) := by
  have hrl := H.len
  have hc := compL_map (g := gN 4) (ft := dn__law_standing_t1) (fe := eVar 4) (ρ := wipeE ρ [4]) (st := st ++ [.lst l]) R.e (fun r => decide (r.m = (i : Int))) R.e rs (by
    intro r hr
    have w4 : ((wipeE ρ [4]).set 4 (some (.p r.e)))[4]? = some (some (.p r.e)) := by (first | assumption | (((try simp only [At, wipeE]); (repeat rw [gset (by decide)])); first | assumption | (rw [gself (by (try simp only [List.length_set]); omega)])) | (simp only [wipeE, List.length_set]; omega))
    have w2 : ((wipeE ρ [4]).set 4 (some (.p r.e)))[2]? = some (some (.p (.int (i : Nat)))) := by (first | assumption | (((try simp only [At, wipeE]); (repeat rw [gset (by decide)])); first | assumption | (rw [gself (by (try simp only [List.length_set]); omega)])) | (simp only [wipeE, List.length_set]; omega))
    refine ⟨_, rfl, ?_, fun _ => ?_⟩
    · simp only [dn__law_standing_t1, eB, eOp2, eVar, w4, w2, eC, Res.bind, (ix_e r).1, dEq, flat_int, eqv_int]
      rfl
    · simp only [eVar, w4])
  have hz : (rs.map R.e).length ≤ sizeLine := sz (by rw [List.length_map]; omega)
  have hz2 : ((rs.filter fun r => decide (r.m = (i : Int))).map R.e).length ≤ sizeLine := sz (by
    rw [List.length_map]
    have := List.length_filter_le (fun r : R => decide (r.m = (i : Int))) rs
    omega)
  have s1 : dn__law_standing_s1 ρ (st ++ [.lst l]) = .next (ρ.set 3 (some (.p (.lst ((rs.filter fun r => decide (r.m = (i : Int))).map R.e))))) (st ++ [.lst l]) := by
    have h0' : ρ[0]? = some (some (.p (.tup (rs.map R.e)))) := h0
    simp only [dn__law_standing_s1, sSet, sOf, ePure, eComp, iSeq, eVar, h0', Res.bind, itemsOf, hz, if_true, hc, hz2]
    simp [thaw]
  unfold dn__law_standing_b1
  rw [sSeq_next s1]
  have f3 : (ρ.set 3 (some (.p (.lst ((rs.filter fun r => decide (r.m = (i : Int))).map R.e)))))[3]? = some (some (.p (.lst ((rs.filter fun r => decide (r.m = (i : Int))).map R.e)))) := by (first | assumption | (((try simp only [At, wipeE]); (repeat rw [gset (by decide)])); first | assumption | (rw [gself (by (try simp only [List.length_set]); omega)])) | (simp only [wipeE, List.length_set]; omega))
  have f1 : (ρ.set 3 (some (.p (.lst ((rs.filter fun r => decide (r.m = (i : Int))).map R.e)))))[1]? = some (some (.r st.length)) := by (first | assumption | (((try simp only [At, wipeE]); (repeat rw [gset (by decide)])); first | assumption | (rw [gself (by (try simp only [List.length_set]); omega)])) | (simp only [wipeE, List.length_set]; omega))
  generalize ρ.set 3 (some (.p (.lst ((rs.filter fun r => decide (r.m = (i : Int))).map R.e)))) = ρ1 at f3 f1
  have hfl : D.flat 60 (.lst ((rs.filter fun r => decide (r.m = (i : Int))).map R.e)) = true := by
    show D.flats 59 _ = true
    rw [flats_all, List.all_map, List.all_eq_true]
    exact fun r hr => e_flat (H.ok r ((List.mem_filter.mp hr).1)) 58
  have hne : dNe (.lst ((rs.filter fun r => decide (r.m = (i : Int))).map R.e)) (.lst []) = some (.bl (best (i : Nat) rs).isSome) := by
    unfold dNe
    rw [hfl]
    simp only [Bool.true_and, flat_lst, flats_nil, if_true, eqv_ll, eqvs_nil]
    congr 2
    cases hb : best (i : Nat) rs with
    | none =>
      have := best_none.mp hb
      rw [List.filter_eq_nil_iff.mpr fun r hr => by simpa using this r hr]
      rfl
    | some b =>
      obtain ⟨b1, b2, _⟩ := best_some hb
      have : b ∈ rs.filter fun r => decide (r.m = (i : Int)) := List.mem_filter.mpr ⟨b1, by simpa using b2⟩
      cases q : rs.filter fun r => decide (r.m = (i : Int)) with
      | nil => rw [q] at this; cases this
      | cons x xs => rfl
  simp only [dn__law_standing_s3, sIf, sOf, eB, eOp2, eVar, f3, eLst, eNil, Res.bind, List.length_nil, Nat.zero_le, if_true, hne]
  cases hb : best (i : Nat) rs with
  | none => simp
  | some b =>
    obtain ⟨pre, hs⟩ := last_sorted H hb
    have e1 : eOp2 dIx (eOp1 dSortG (eVar 3)) (eOp1 dNeg (eC (.int 1))) ρ1 (st ++ [.lst l]) = .ok b.e (st ++ [.lst l]) := by
      simp only [eOp2, eOp1, eVar, f3, Res.bind, hs, eC, dNeg, dIx, atI_last]
    have hll : l.length < sizeLine := szlt (by omega)
    simp only [Option.isSome_some, if_true, dn__law_standing_s2, sMut1, lstAt, f1, end_get, sOf, e1, kApp, hll, end_set, Option.toList_some, List.map_cons, List.map_nil]
theorem law_standing_ok {rs : List R} (H : Rows rs) : dn__law_standing [.p (.tup (rs.map R.e))] [] = .ok (.lst ((stand rs).map R.e)) [] := by
  obtain ⟨ρ', st', e, h1, h2⟩ := forL_ix (g := gN 2) (fb := dn__law_standing_b1) (fun i : Nat => D.int (i : Nat)) (List.range 1000) (fun i ρ st => (ρ.length = 5 ∧ At ρ 0 (.tup (rs.map R.e)) ∧ ρ[1]? = some (some (.r 0))) ∧ st = [.lst ((standTo i rs).map R.e)])
    (ρ := [some (.p (.tup (rs.map R.e))), some (.r 0), none, none, none]) (st := [.lst []]) ⟨⟨rfl, rfl, rfl⟩, rfl⟩ (by
      rintro i x ρ st hx ⟨⟨l0, a0, a1⟩, rfl⟩
      obtain ⟨hi, rfl⟩ : i < 1000 ∧ i = x := by
        obtain ⟨h1, h2⟩ := List.getElem?_eq_some_iff.mp hx
        rw [List.length_range] at h1
        exact ⟨h1, by rw [← h2]; simp⟩
      have hll : ((standTo i rs).map R.e).length ≤ 100000 := by
        rw [List.length_map]
        unfold standTo
        have := List.length_filterMap_le (fun i : Nat => best (i : Nat) rs) (List.range i)
        rw [List.length_range] at this
        omega
      have h := ls_b1 (ρ := ρ.set 2 (some (.p (.int (i : Nat))))) H (i := i) (l := (standTo i rs).map R.e) (st := []) (by (first | assumption | (((try simp only [At, wipeE]); (repeat rw [gset (by decide)])); first | assumption | (rw [gself (by (try simp only [List.length_set]); omega)])) | (simp only [wipeE, List.length_set]; omega))) (by (first | assumption | (((try simp only [At, wipeE]); (repeat rw [gset (by decide)])); first | assumption | (rw [gself (by (try simp only [List.length_set]); omega)])) | (simp only [wipeE, List.length_set]; omega))) (by (first | assumption | (((try simp only [At, wipeE]); (repeat rw [gset (by decide)])); first | assumption | (rw [gself (by (try simp only [List.length_set]); omega)])) | (simp only [wipeE, List.length_set]; omega))) (by (first | assumption | (((try simp only [At, wipeE]); (repeat rw [gset (by decide)])); first | assumption | (rw [gself (by (try simp only [List.length_set]); omega)])) | (simp only [wipeE, List.length_set]; omega))) hll
      rw [List.nil_append, List.nil_append, ← List.map_append, ← standTo_succ] at h
      exact ⟨_, _, _, rfl, .inl h, ⟨by (first | assumption | (((try simp only [At, wipeE]); (repeat rw [gset (by decide)])); first | assumption | (rw [gself (by (try simp only [List.length_set]); omega)])) | (simp only [wipeE, List.length_set]; omega)), by (first | assumption | (((try simp only [At, wipeE]); (repeat rw [gset (by decide)])); first | assumption | (rw [gself (by (try simp only [List.length_set]); omega)])) | (simp only [wipeE, List.length_set]; omega)), by (first | assumption | (((try simp only [At, wipeE]); (repeat rw [gset (by decide)])); first | assumption | (rw [gself (by (try simp only [List.length_set]); omega)])) | (simp only [wipeE, List.length_set]; omega))⟩, rfl⟩)
  subst h2
  rw [List.length_range] at e
  have s4 : dn__law_standing_s4 [some (.p (.tup (rs.map R.e))), some (.r 0), none, none, none] [.lst []] = .next ρ' [.lst ((stand rs).map R.e)] := sFor_range (n := 1000) (by omega) e
  refine dFn_ret rfl (st' := [.frz (.lst ((stand rs).map R.e))]) ?_
  show sSeq (sNew 1 (nLst eNil)) (sSeq dn__law_standing_s4 (sRet (eVar 1))) [some (.p (.tup (rs.map R.e))), none, none, none, none] [] = _
  rw [sSeq_next (show sNew 1 (nLst eNil) [some (.p (.tup (rs.map R.e))), none, none, none, none] [] = .next [some (.p (.tup (rs.map R.e))), some (.r 0), none, none, none] [.lst []] from by simp), sSeq_next s4]
  have h11 : ρ'[1]? = some (some (.r 0)) := h1.2.2
  simp [h11, thaw]
end Law
namespace M
open PySem PySem.Spec L2
theorem compS_map {κ α : Type} {toK : D → Option κ} {g : GD} {ft : DenB} {fe : Den} {ρ : Env} {st : Sto} (enc : α → D) (p : α → Bool) (f : α → κ) : ∀ (xs : List α), (∀ x ∈ xs, ∃ ρ1, g (enc x) ρ = some ρ1 ∧ ft ρ1 st = .ok (p x) st ∧ (p x = true → ∃ d, fe ρ1 st = .ok d st ∧ toK d = some (f x))) → compS toK g ft fe ρ (xs.map enc) st = .ok ((xs.filter p).map f) st
  | [], _ => rfl
  | x :: xs, h => by
    obtain ⟨ρ1, h1, h2, h3⟩ := h x List.mem_cons_self
    have ih := compS_map (toK := toK) enc p f xs fun y hy => h y (List.mem_cons_of_mem _ hy)
    rw [List.map_cons]
    unfold compS
    simp only [h1, h2]
    cases hp : p x with
    | true =>
      obtain ⟨d, h4, h5⟩ := h3 hp
      simp only [h4, h5, optR_some, ih, Res.bind, List.filter_cons, hp, if_true, List.map_cons]
    | false => simp only [ih, List.filter_cons, hp, Bool.false_eq_true, if_false]
theorem compS_all {κ α : Type} {toK : D → Option κ} {g : GD} {fe : Den} {ρ : Env} {st : Sto} (enc : α → D) (f : α → κ) (xs : List α) (h : ∀ x ∈ xs, ∃ ρ1, g (enc x) ρ = some ρ1 ∧ ∃ d, fe ρ1 st = .ok d st ∧ toK d = some (f x)) : compS toK g eYes fe ρ (xs.map enc) st = .ok (xs.map f) st := by
  rw [compS_map (toK := toK) enc (fun _ => true) f xs fun x hx => by
    obtain ⟨ρ1, h1, h2⟩ := h x hx
    exact ⟨ρ1, h1, rfl, fun _ => h2⟩]
  rw [List.filter_eq_self.mpr (fun _ _ => rfl)]
def leS (a b : Str) : Bool := leD (.str a) (.str b)
noncomputable def sortS (l : List Str) : List Str := l.mergeSort leS
theorem sortD_strs (l : List Str) : sortD (l.map D.str) = (sortS l).map D.str := by
  unfold sortD sortS
  exact (List.map_mergeSort (f := D.str) (r := leS) (s := leD) fun a _ b _ => rfl).symm
theorem sortS_perm (l : List Str) : (sortS l).Perm l := List.mergeSort_perm _ _
theorem sortS_sorted (l : List Str) : (sortS l).Pairwise fun a b => leS a b = true := List.pairwise_mergeSort (le := leS) (fun a b c h1 h2 => leD_trans (.str a) (.str b) (.str c) h1 h2) (fun a b => leD_total (.str a) (.str b)) l
theorem leS_anti {a b : Str} (h1 : leS a b = true) (h2 : leS b a = true) : a = b := toks_str (leD_toks h1 h2)
/-- put behind, unless it is the last -/
def addH (acc : List Str) (x : Str) : List Str := if acc.getLast? = some x then acc else acc ++ [x]
theorem ded_spec : ∀ (ss acc : List Str), (acc ++ ss).Pairwise (fun a b => leS a b = true) → acc.Nodup → ((ss.foldl addH acc).Pairwise fun a b => leS a b = true) ∧ (ss.foldl addH acc).Nodup ∧ ∀ x, x ∈ ss.foldl addH acc ↔ x ∈ acc ∨ x ∈ ss
  | [], acc, h, nd => ⟨by simpa using h, nd, by simp⟩
  | x :: ss, acc, h, nd => by
    rw [List.foldl_cons]
    by_cases hx : acc.getLast? = some x
    · rw [show addH acc x = acc from if_pos hx]
      have hm : x ∈ acc := List.mem_of_getLast? hx
      obtain ⟨h1, h2, h3⟩ := ded_spec ss acc (h.sublist (List.Sublist.append_left (List.sublist_cons_self x ss) acc)) nd
      refine ⟨h1, h2, fun y => ?_⟩
      rw [h3 y, List.mem_cons]
      constructor
      · rintro (h | h)
        · exact .inl h
        · exact .inr (.inr h)
      · rintro (h | rfl | h)
        · exact .inl h
        · exact .inl hm
        · exact .inr h
    · rw [show addH acc x = acc ++ [x] from if_neg hx]
      have nd' : (acc ++ [x]).Nodup := by
        rw [List.nodup_append]
        refine ⟨nd, by simp, fun a ha b hb => ?_⟩
        rw [List.mem_singleton.mp hb]
        rintro rfl
        refine hx ?_
        have hne : acc ≠ [] := List.ne_nil_of_mem ha
        obtain ⟨ys, y, rfl⟩ : ∃ ys y, acc = ys ++ [y] := ⟨_, _, (List.dropLast_concat_getLast hne).symm⟩
        have hp := List.pairwise_append.mp h
        have h1 : leS y a = true := hp.2.2 y (by simp) a List.mem_cons_self
        rcases List.mem_append.mp ha with ha | ha
        · have h2 : leS a y = true := (List.pairwise_append.mp hp.1).2.2 a ha y (by simp)
          rw [leS_anti h2 h1]
          simp
        · rw [List.mem_singleton.mp ha]
          simp
      obtain ⟨h1, h2, h3⟩ := ded_spec ss (acc ++ [x]) (by simpa using h) nd'
      refine ⟨h1, h2, fun y => ?_⟩
      rw [h3 y]
      simp [or_assoc]
end M
namespace Law
open PySem PySem.Spec L2 M
noncomputable def housesTo (rs : List R) : List PySem.Str := sortS ((stand rs).map R.h)
noncomputable def houses (rs : List R) : List PySem.Str := (housesTo rs).foldl addH []
theorem houses_spec (rs : List R) : ((houses rs).Pairwise fun a b => leS a b = true) ∧ (houses rs).Nodup ∧ ∀ x, x ∈ houses rs ↔ ∃ r ∈ stand rs, r.h = x := by
  obtain ⟨h1, h2, h3⟩ := ded_spec (housesTo rs) [] (by rw [List.nil_append]; exact sortS_sorted _) .nil
  refine ⟨h1, h2, fun x => ?_⟩
  have := h3 x
  unfold houses
  rw [this]
  unfold housesTo
  rw [(sortS_perm _).mem_iff]
  simp
theorem houses_len {rs : List R} (H : Rows rs) : (houses rs).length ≤ 60 := by
  obtain ⟨_, h2, h3⟩ := houses_spec rs
  have := h2.length_le_of_subset (l₂ := (stand rs).map R.h) fun x hx => by
    obtain ⟨r, hr, rfl⟩ := (h3 x).mp hx
    exact List.mem_map.mpr ⟨r, hr, rfl⟩
  rw [List.length_map] at this
  have := stand_len H
  omega
theorem houses_ok {rs : List R} (H : Rows rs) {x : PySem.Str} (h : x ∈ houses rs) : NameOk x := by
  obtain ⟨r, hr, rfl⟩ := ((houses_spec rs).2.2 x).mp h
  exact (stand_ok H hr).h
theorem houses_in_ok {rs : List R} (H : Rows rs) : dn_houses_in [.p (.tup (rs.map R.e))] [] = .ok (.tup ((houses rs).map D.str)) [] := by
  have hl := stand_len H
  have hc := compS_all (toK := toKS) (g := gN 1) (fe := eOp2 dIx (eVar 1) (eC (.int 2))) (ρ := wipeE [some (.p (.tup (rs.map R.e))), none] [1]) (st := []) R.e R.h (stand rs) (by
    intro r hr
    refine ⟨_, rfl, .str r.h, ?_, rfl⟩
    simp [wipeE]
    rfl)
  have hf : finS (((stand rs).map R.h).foldl insK []) = some (.lst ((houses rs).map D.str)) := by
    unfold finS
    obtain ⟨h1, h2, h3⟩ := houses_spec rs
    have pm : (houses rs).Perm (((stand rs).map R.h).foldl insK []) := perm_of_mem h2 (foldl_insK_nodup _ _ .nil) fun x => by
      rw [h3, mem_foldl_insK]
      simp
    rw [← sortD_uniq (a := (houses rs).map D.str) (pm.map _) (by rw [List.pairwise_map]; exact h1) fun a ha b hb e => ?_]
    obtain ⟨x, _, rfl⟩ := List.mem_map.mp ha
    obtain ⟨y, _, rfl⟩ := List.mem_map.mp hb
    rw [toks_str e]
  have hlt : ((stand rs).map R.e).length < 64 := by rw [List.length_map]; omega
  refine dFn_ret rfl (st' := []) ?_
  have e1 : iSeq (eCall 1 dn_standing (eCons (eVar 0) eNil)) [some (.p (.tup (rs.map R.e))), none] [] = .ok ((stand rs).map R.e) [] := by
    simp [standing_ok H, itemsOf]
  show sRet (eOp1 dTuple (eSetThen toKS finS (iSeq (eCall 1 dn_standing (eCons (eVar 0) eNil))) (gN 1) eYes (eOp2 dIx (eVar 1) (eC (.int 2))) [1])) [some (.p (.tup (rs.map R.e))), none] [] = _
  simp only [sRet, sOf, eOp1, eSetThen, e1, Res.bind, hlt, if_true, hc, hf, optR_some, dTuple]
/-! ### the law's own -/
theorem atI_end {α : Type} {l : List α} (h : l ≠ []) : atI l (-1) = l.getLast? := by
  obtain ⟨ys, y, rfl⟩ : ∃ ys y, l = ys ++ [y] := ⟨_, _, (List.dropLast_concat_getLast h).symm⟩
  rw [atI_last]
  simp
theorem flats_strs {l : List PySem.Str} (h : ∀ x ∈ l, PyData.strOk x = true) (n : Nat) : D.flats n (l.map D.str) = true := by
  rw [flats_all, List.all_map, List.all_eq_true]
  intro x hx
  simp [h x hx]
theorem addH_len (acc : List PySem.Str) (x : PySem.Str) : (addH acc x).length ≤ acc.length + 1 := by
  unfold addH
  split <;> simp
theorem fold_addH_len : ∀ (l acc : List PySem.Str), (l.foldl addH acc).length ≤ acc.length + l.length
  | [], acc => by simp
  | x :: l, acc => by
    have h1 := fold_addH_len l (addH acc x)
    have h2 := addH_len acc x
    rw [List.foldl_cons, List.length_cons]
    omega
theorem addH_mem {acc : List PySem.Str} {x y : PySem.Str} (h : y ∈ addH acc x) : y ∈ acc ∨ y = x := by
  unfold addH at h
  split at h
  · exact .inl h
  · simpa using h
theorem fold_addH_mem : ∀ {l acc : List PySem.Str} {y : PySem.Str}, y ∈ l.foldl addH acc → y ∈ acc ∨ y ∈ l
  | [], _, _, h => .inl h
  | x :: l, acc, y, h => by
    rw [List.foldl_cons] at h
    rcases fold_addH_mem h with h | h
    · rcases addH_mem h with h | rfl
      · exact .inl h
      · exact .inr List.mem_cons_self
    · exact .inr (List.mem_cons_of_mem _ h)
end Law
namespace Law
open PySem PySem.Spec L2 M
/-! ### marks told with more than one rank -/
def stepP (l : List (Int × Int)) (p : Int × Int) : List (Int × Int) := if p ∈ l then l else l ++ [p]
def encP (l : List (Int × Int)) : List (D × D) := l.map fun p => (.tup [.int p.1, .int p.2], .bl true)
theorem keq_pair (p q : Int × Int) : keq (.tup [.int p.1, .int p.2]) (.tup [.int q.1, .int q.2]) = decide (p = q) := by
  obtain ⟨a, b⟩ := p
  obtain ⟨c, d⟩ := q
  rw [keq_t (a := [.inl a, .inl b]) (b := [.inl c, .inl d]) rfl rfl]
  rw [Bool.eq_iff_iff]
  simp
theorem any_encP (p : Int × Int) (l : List (Int × Int)) : ((encP l).any fun q => keq q.1 (.tup [.int p.1, .int p.2])) = decide (p ∈ l) := by
  unfold encP
  rw [List.any_map, Bool.eq_iff_iff]
  simp only [List.any_eq_true, Function.comp, keq_pair, decide_eq_true_eq]
  constructor
  · rintro ⟨q, hq, rfl⟩; exact hq
  · intro h; exact ⟨p, h, rfl⟩
theorem put_encP (l : List (Int × Int)) (p : Int × Int) : putD (encP l) (.tup [.int p.1, .int p.2]) (.bl true) = encP (stepP l p) := by
  unfold putD stepP
  rw [any_encP]
  by_cases h : p ∈ l
  · simp only [h, decide_true, if_true]
    unfold encP
    rw [List.map_map]
    apply List.map_congr_left
    intro q _
    simp only [Function.comp]
    split <;> rfl
  · simp [h, encP]
theorem stepP_spec {l : List (Int × Int)} {p : Int × Int} (h : l.Nodup) : (stepP l p).Nodup ∧ (∀ x, x ∈ stepP l p ↔ x ∈ l ∨ x = p) ∧ (stepP l p).length ≤ l.length + 1 := by
  unfold stepP
  by_cases hp : p ∈ l
  · rw [if_pos hp]
    exact ⟨h, fun x => ⟨.inl, fun q => q.elim id fun e => e ▸ hp⟩, by omega⟩
  · rw [if_neg hp]
    refine ⟨?_, by simp, by simp⟩
    rw [List.nodup_append]
    exact ⟨h, by simp, fun a ha b hb => by
      rw [List.mem_singleton.mp hb]
      rintro rfl
      exact hp ha⟩
theorem foldP_spec : ∀ (rs : List R) (l : List (Int × Int)), l.Nodup → (rs.foldl (fun l r => stepP l (r.m, r.k)) l).Nodup ∧ (∀ x, x ∈ rs.foldl (fun l r => stepP l (r.m, r.k)) l ↔ x ∈ l ∨ ∃ r ∈ rs, (r.m, r.k) = x) ∧ (rs.foldl (fun l r => stepP l (r.m, r.k)) l).length ≤ l.length + rs.length
  | [], l, h => ⟨h, by simp, by simp⟩
  | r :: rs, l, h => by
    obtain ⟨h1, h2, h3⟩ := stepP_spec (p := (r.m, r.k)) h
    obtain ⟨i1, i2, i3⟩ := foldP_spec rs _ h1
    rw [List.foldl_cons]
    refine ⟨i1, fun x => ?_, by rw [List.length_cons]; omega⟩
    rw [i2, h2]
    constructor
    · rintro ((h | h) | ⟨s, hs, e⟩)
      · exact .inl h
      · exact .inr ⟨r, List.mem_cons_self, h.symm⟩
      · exact .inr ⟨s, List.mem_cons_of_mem _ hs, e⟩
    · rintro (h | ⟨s, hs, e⟩)
      · exact .inl (.inl h)
      · rcases List.mem_cons.mp hs with rfl | hs
        · exact .inl (.inr e.symm)
        · exact .inr ⟨s, hs, e⟩
end Law
namespace Law
open PySem PySem.Spec L2 M
/-! ### deposits -/
abbrev Deps := List (PySem.Str × Int)
structure Dep (dep : Deps) : Prop where
  len : dep.length ≤ 100
  name : ∀ p ∈ dep, NameOk p.1
  v0 : ∀ p ∈ dep, 0 ≤ p.2
  v1 : ∀ p ∈ dep, p.2 ≤ 99
def encM (dep : Deps) : List (D × D) := dep.map fun p => (D.str p.1, D.int p.2)
def mon : Deps → PySem.Str → Int
  | [], _ => 0
  | p :: r, k => if p.1 = k then p.2 else mon r k
theorem look_mon (k : PySem.Str) : ∀ dep : Deps, (lookD (encM dep) (.str k)).getD (.int 0) = .int (mon dep k)
  | [] => rfl
  | p :: dep => by
    show (if keq (.str p.1) (.str k) = true then some (D.int p.2) else lookD (encM dep) (.str k)).getD (.int 0) = _
    unfold mon
    by_cases h : p.1 = k
    · simp [keq, h]
    · simp only [keq, h, decide_false, Bool.false_eq_true, if_false]
      exact look_mon k dep
theorem require_deposits_ok {dep : Deps} (H : Dep dep) : dn_require_deposits [.p (.dic (encM dep))] [] = .ok .non [] := by
  have hl := H.len
  have e1 : (encM dep).map (·.1) = dep.map fun p => D.str p.1 := by unfold encM; rw [List.map_map]; rfl
  have e2 : (encM dep).map (·.2) = dep.map fun p => D.int p.2 := by unfold encM; rw [List.map_map]; rfl
  have hc := compL_all (g := gN 2) (fe := dn_require_deposits_e1) (ρ := [some (.p (.dic (encM dep))), none, none]) (st := []) (fun p : PySem.Str × Int => D.str p.1) (fun _ => D.bl true) dep (by
    intro p hp
    refine ⟨_, rfl, ?_⟩
    simp [dn_require_deposits_e1, is_name_ok (H.name p hp)])
  have hz : dep.length ≤ sizeLine := sz (by omega)
  have s1 : dn_require_deposits_s1 [some (.p (.dic (encM dep))), none, none] [] = .next [some (.p (.dic (encM dep))), none, none] [] := by
    simp [dn_require_deposits_s1, e1, hz, wipeE, hc, dAll_true]
  obtain ⟨ρ', _, hf⟩ := forL_store (v := 1) (fb := dn_require_deposits_s2) (base := [some (.p (.dic (encM dep))), none, none]) (fun p : PySem.Str × Int => D.int p.2) dep (fun _ => []) (by
    intro i p hp
    have hm := List.mem_of_getElem? hp
    simp [dn_require_deposits_s2, is_within_int, H.v0 p hm, H.v1 p hm])
  have s3 : dn_require_deposits_s3 [some (.p (.dic (encM dep))), none, none] [] = .next ρ' [] := by
    simp only [dn_require_deposits_s3, sFor, sOf, iValsD, eVar, List.getElem?_cons_zero, Res.bind, e2]
    exact hf
  refine dFn_next rfl (ρ' := ρ') (st' := []) ?_
  show sSeq dn_require_deposits_s1 dn_require_deposits_s3 [some (.p (.dic (encM dep))), none, none] [] = _
  rw [sSeq_next s1, s3]
/-! ### what a house is due -/
def dueT (dep : Deps) (r : R) : Int := (if r.w = "back" then r.p else 0 - r.p) * mon dep r.kd
def dueOf (l : List R) (dep : Deps) (h : PySem.Str) : Int := ((l.filter fun r => decide (r.h = h)).map (dueT dep)).sum
theorem dueOf_snoc (l : List R) (dep : Deps) (h : PySem.Str) (r : R) : dueOf (l ++ [r]) dep h = dueOf l dep h + (if r.h = h then dueT dep r else 0) := by
  unfold dueOf
  rw [List.filter_append, List.map_append, List.sum_append]
  by_cases e : r.h = h <;> simp [e]
theorem dEq_str {x y : PySem.Str} (hx : PyData.strOk x = true) (hy : PyData.strOk y = true) : dEq (.str x) (.str y) = some (.bl (decide (x = y))) := by
  unfold dEq
  simp only [flat_str, hx, hy, Bool.and_self, if_true, eqv_str]
  congr 2
theorem o_sold : PyData.strOk ("sold" : PySem.Str) = true := by decide +kernel
theorem o_back : PyData.strOk ("back" : PySem.Str) = true := by decide +kernel
theorem sm_p {r : R} (h : r.Ok) : small r.p = true ∧ small (0 - r.p) = true := by
  have := h.p0
  have := h.p1
  exact ⟨small_of (by omega) (by omega), small_of (by omega) (by omega)⟩
theorem dueT_den {r : R} (h : r.Ok) (dep : Deps) {a b : Nat} {ρ : M.Env} {st : Sto} (h4 : ρ[a]? = some (some (.p r.e))) (h1 : ρ[b]? = some (some (.p (.dic (encM dep))))) :
    eOp2 dMulS (eIf (eB (eOp2 dEq (eOp2 dIx (eVar a) (eC (.int 3))) (eC (.str "back")))) (eOp2 dIx (eVar a) (eC (.int 5))) (eOp2 dSub (eC (.int 0)) (eOp2 dIx (eVar a) (eC (.int 5))))) (eGet2 (eVar b) (eOp2 dIx (eVar a) (eC (.int 4))) (eC (.int 0))) ρ st = .ok (.int (dueT dep r)) st := by
  obtain ⟨_, _, _, i3, i4, i5⟩ := ix_e r
  have hb := dEq_str (wok h.w) o_back
  have lm := look_mon r.kd dep
  obtain ⟨p1, p2⟩ := sm_p h
  unfold dueT
  by_cases hw : r.w = "back"
  · rw [decide_eq_true hw] at hb
    rw [if_pos hw]
    simp only [eOp2, eIf, eB, eVar, h4, h1, eC, Res.bind, i3, i4, i5, hb, if_true, eGet2, kOf, lm, dMulS, dMul, p1, Bool.true_or]
  · rw [decide_eq_false hw] at hb
    rw [if_neg hw]
    simp only [eOp2, eIf, eB, eVar, h4, h1, eC, Res.bind, i3, i4, i5, hb, Bool.false_eq_true, if_false, dSub, eGet2, kOf, lm, dMulS, dMul, p2, Bool.true_or, if_true]
theorem due_of_ok {l : List R} (hl : l.length ≤ 60) (hr : ∀ r ∈ l, r.Ok) (dep : Deps) {h : PySem.Str} (hh : PyData.strOk h = true) {d : D} (hd : itemsOf d = some (l.map R.e)) : dn_due_of [.p d, .p (.dic (encM dep)), .p (.str h)] [] = .ok (.int (dueOf l dep h)) [] := by
  obtain ⟨ρ', st', e, ⟨x, hx⟩, h2⟩ := forL_ix (g := gN 4) (fb := dn_due_of_s2) R.e l (fun i ρ st => (∃ x, ρ = [some (.p d), some (.p (.dic (encM dep))), some (.p (.str h)), some (.p (.int (dueOf (l.take i) dep h))), x]) ∧ st = [])
    (ρ := [some (.p d), some (.p (.dic (encM dep))), some (.p (.str h)), some (.p (.int 0)), none]) (st := []) ⟨⟨none, rfl⟩, rfl⟩ (by
      rintro i r ρ st hi ⟨⟨x, rfl⟩, rfl⟩
      have hm := List.mem_of_getElem? hi
      have ok := hr r hm
      have ht : l.take (i + 1) = l.take i ++ [r] := by rw [List.take_add_one, hi]; rfl
      have e1 : eB (eOp2 dEq (eOp2 dIx (eVar 4) (eC (.int 2))) (eVar 2)) [some (.p d), some (.p (.dic (encM dep))), some (.p (.str h)), some (.p (.int (dueOf (l.take i) dep h))), some (.p r.e)] [] = .ok (decide (r.h = h)) [] := by
        simp [(ix_e r).2.2.1, dEq_str ok.h.sok hh]
      have e2 := dueT_den ok dep (a := 4) (b := 1) (ρ := [some (.p d), some (.p (.dic (encM dep))), some (.p (.str h)), some (.p (.int (dueOf (l.take i) dep h))), some (.p r.e)]) (st := []) rfl rfl
      refine ⟨_, [some (.p d), some (.p (.dic (encM dep))), some (.p (.str h)), some (.p (.int (dueOf (l.take (i + 1)) dep h))), some (.p r.e)], [], rfl, .inl ?_, ⟨_, rfl⟩, rfl⟩
      show dn_due_of_s2 [some (.p d), some (.p (.dic (encM dep))), some (.p (.str h)), some (.p (.int (dueOf (l.take i) dep h))), some (.p r.e)] [] = _
      rw [ht, dueOf_snoc]
      unfold dn_due_of_s2
      simp only [sIf, sOf, e1]
      by_cases q : r.h = h
      · simp only [q, decide_true, if_true, dn_due_of_s1, sAug, sOf, e2]
        simp [dIAdd]
      · simp [q])
  subst h2
  rw [hx, List.take_length] at e
  refine dFn_ret rfl (st' := []) ?_
  have s3 : dn_due_of_s3 [some (.p d), some (.p (.dic (encM dep))), some (.p (.str h)), some (.p (.int 0)), none] [] = .next [some (.p d), some (.p (.dic (encM dep))), some (.p (.str h)), some (.p (.int (dueOf l dep h))), x] [] := by
    simp only [dn_due_of_s3, sFor, sOf, iSeq, eVar, Res.bind, List.getElem?_cons_zero, hd]
    exact e
  show sSeq (sSet 3 (eC (.int 0))) (sSeq dn_due_of_s3 (sRet (eVar 3))) [some (.p d), some (.p (.dic (encM dep))), some (.p (.str h)), none, none] [] = _
  rw [sSeq_next (show sSet 3 (eC (.int 0)) [some (.p d), some (.p (.dic (encM dep))), some (.p (.str h)), none, none] [] = .next [some (.p d), some (.p (.dic (encM dep))), some (.p (.str h)), some (.p (.int 0)), none] [] from rfl), sSeq_next s3]
  rfl
noncomputable def duesL (rs : List R) (dep : Deps) : List (PySem.Str × Int) := (houses rs).map fun h => (h, dueOf (stand rs) dep h)
abbrev encPr (p : PySem.Str × Int) : D := .tup [.str p.1, .int p.2]
theorem dues_comp {rs : List R} {dep : Deps} (H : Rows rs) {e : Den} (he : e = eTup (eCons (eVar 3) (eCons (eCall 3 dn_due_of (eCons (eVar 2) (eCons (eVar 1) (eCons (eVar 3) eNil)))) eNil))) : ePure (eComp (iSeq (eCall 1 dn_houses_in (eCons (eVar 0) eNil))) (gN 3) eYes e [3]) [some (.p (.tup (rs.map R.e))), some (.p (.dic (encM dep))), some (.p (.tup ((stand rs).map R.e))), none] [] = .ok (.lst ((duesL rs dep).map encPr)) [] := by
  have hl := houses_len H
  have hc := compL_all (g := gN 3) (fe := e) (ρ := [some (.p (.tup (rs.map R.e))), some (.p (.dic (encM dep))), some (.p (.tup ((stand rs).map R.e))), none]) (st := []) D.str (fun h => encPr (h, dueOf (stand rs) dep h)) (houses rs) (by
    intro h hh
    refine ⟨_, rfl, ?_⟩
    have := due_of_ok (stand_len H) (fun r hr => stand_ok H hr) dep (houses_ok H hh).sok (d := .tup ((stand rs).map R.e)) rfl
    subst he
    simp [this, szs])
  have hz : (houses rs).length ≤ sizeLine := sz (by omega)
  have em : (houses rs).map (fun h => encPr (h, dueOf (stand rs) dep h)) = (duesL rs dep).map encPr := by unfold duesL; rw [List.map_map]; rfl
  rw [em] at hc
  simp [houses_in_ok H, itemsOf, hz, wipeE, hc]
theorem dues_ok {rs : List R} {dep : Deps} (H : Rows rs) (Hd : Dep dep) : dn_dues [.p (.tup (rs.map R.e)), .p (.dic (encM dep))] [] = .ok (.tup ((duesL rs dep).map encPr)) [] := by
  have hc := dues_comp (dep := dep) H (e := dn_dues_e1) rfl
  have s1 : dn_dues_s1 [some (.p (.tup (rs.map R.e))), some (.p (.dic (encM dep))), none, none] [] = .next [some (.p (.tup (rs.map R.e))), some (.p (.dic (encM dep))), some (.p (.tup ((stand rs).map R.e))), none] [] := by
    simp [dn_dues_s1, standing_ok H]
  have s2 : dn_dues_s2 [some (.p (.tup (rs.map R.e))), some (.p (.dic (encM dep))), some (.p (.tup ((stand rs).map R.e))), none] [] = .next [some (.p (.tup (rs.map R.e))), some (.p (.dic (encM dep))), some (.p (.tup ((stand rs).map R.e))), none] [] := by
    simp [dn_dues_s2, require_deposits_ok Hd]
  refine dFn_ret rfl (st' := []) ?_
  show sSeq dn_dues_s1 (sSeq dn_dues_s2 dn_dues_s3) [some (.p (.tup (rs.map R.e))), some (.p (.dic (encM dep))), none, none] [] = _
  rw [sSeq_next s1, sSeq_next s2]
  simp only [dn_dues_s3, sRet, sOf, eOp1, hc, Res.bind, dTuple]
theorem duesX_ok {rs : List R} {dep : Deps} (H : Rows rs) (Hd : Dep dep) : dn_duesX [.p (.tup (rs.map R.e)), .p (.dic (encM dep))] [] = .ok (.tupX ((duesL rs dep).map encPr)) [] := by
  have hc := dues_comp (dep := dep) H (e := eTup (eCons (eVar 3) (eCons (eCall 3 dn_due_of (eCons (eVar 2) (eCons (eVar 1) (eCons (eVar 3) eNil)))) eNil))) rfl
  refine dFn_ret rfl (st' := []) ?_
  show sSeq (sSet 2 (eCall 1 dn_standing (eCons (eVar 0) eNil))) (sSeq (sExpr (eCall 1 dn_require_deposits (eCons (eVar 1) eNil))) (sRet (eOp1 dTupleX (ePure (eComp (iSeq (eCall 1 dn_houses_in (eCons (eVar 0) eNil))) (gN 3) eYes (eTup (eCons (eVar 3) (eCons (eCall 3 dn_due_of (eCons (eVar 2) (eCons (eVar 1) (eCons (eVar 3) eNil)))) eNil))) [3]))))) [some (.p (.tup (rs.map R.e))), some (.p (.dic (encM dep))), none, none] [] = _
  rw [sSeq_next (show sSet 2 (eCall 1 dn_standing (eCons (eVar 0) eNil)) [some (.p (.tup (rs.map R.e))), some (.p (.dic (encM dep))), none, none] [] = .next [some (.p (.tup (rs.map R.e))), some (.p (.dic (encM dep))), some (.p (.tup ((stand rs).map R.e))), none] [] from by simp [standing_ok H]),
    sSeq_next (show sExpr (eCall 1 dn_require_deposits (eCons (eVar 1) eNil)) [some (.p (.tup (rs.map R.e))), some (.p (.dic (encM dep))), some (.p (.tup ((stand rs).map R.e))), none] [] = .next [some (.p (.tup (rs.map R.e))), some (.p (.dic (encM dep))), some (.p (.tup ((stand rs).map R.e))), none] [] from by simp [require_deposits_ok Hd])]
  simp only [sRet, sOf, eOp1, hc, Res.bind, dTupleX]
theorem pairsD_pr : ∀ l : List (PySem.Str × Int), pairsD (l.map encPr) = some (l.map fun p => (D.str p.1, D.int p.2))
  | [] => rfl
  | p :: l => by
    show (match pairD (encPr p) with | some q => (pairsD (l.map encPr)).map (q :: ·) | none => none) = _
    rw [pairsD_pr l]
    rfl
theorem fold_put : ∀ (l acc : List (PySem.Str × Int)), ((acc ++ l).map (·.1)).Nodup → (l.map fun p => (D.str p.1, D.int p.2)).foldl (fun acc p => putD acc p.1 p.2) (encM acc) = encM (acc ++ l)
  | [], acc, _ => by simp
  | p :: l, acc, h => by
    rw [List.map_cons, List.foldl_cons]
    have hp : putD (encM acc) (D.str p.1) (D.int p.2) = encM (acc ++ [p]) := by
      unfold putD
      rw [if_neg]
      · simp [encM]
      · intro q
        obtain ⟨x, hx, e⟩ := List.any_eq_true.mp q
        obtain ⟨y, hy, rfl⟩ := List.mem_map.mp hx
        have e : decide (y.1 = p.1) = true := e
        rw [List.map_append, List.map_cons, List.nodup_append] at h
        exact h.2.2 y.1 (List.mem_map.mpr ⟨y, hy, rfl⟩) p.1 (by simp) (of_decide_eq_true e)
    rw [hp, fold_put l (acc ++ [p]) (by simpa using h)]
    simp
theorem mon_pr {l : Deps} (h : (l.map (·.1)).Nodup) {p : PySem.Str × Int} (hp : p ∈ l) : lookD (encM l) (.str p.1) = some (.int p.2) := by
  induction l with
  | nil => cases hp
  | cons q l ih =>
    show (if keq (.str q.1) (.str p.1) = true then some (D.int q.2) else lookD (encM l) (.str p.1)) = _
    rw [List.map_cons, List.nodup_cons] at h
    rcases List.mem_cons.mp hp with rfl | hp
    · simp [keq]
    · have hne : q.1 ≠ p.1 := fun e => h.1 (e ▸ List.mem_map.mpr ⟨p, hp, rfl⟩)
      simp only [keq, hne, decide_false, Bool.false_eq_true, if_false]
      exact ih h.2 hp
theorem duesL_nd (rs : List R) (dep : Deps) : ((duesL rs dep).map (·.1)).Nodup := by
  unfold duesL
  rw [List.map_map]
  have : ((fun p : PySem.Str × Int => p.1) ∘ fun h => (h, dueOf (stand rs) dep h)) = id := rfl
  rw [this, List.map_id]
  exact (houses_spec rs).2.1
theorem held_ok {rs : List R} {dep : Deps} (H : Rows rs) (Hd : Dep dep) : dn_held_back [.p (.tup (rs.map R.e)), .p (.dic (encM dep))] [] = .ok (.int (0 - ((duesL rs dep).map (·.2)).sum)) [] := by
  have hl := houses_len H
  have hc := compL_all (g := gT (gsCons (gN 2) (gsCons (gN 3) gsNil)) 2) (fe := eVar 3) (ρ := [some (.p (.tup (rs.map R.e))), some (.p (.dic (encM dep))), none, none]) (st := []) encPr (fun p => D.int p.2) (duesL rs dep) (by
    intro p hp
    exact ⟨_, rfl, rfl⟩)
  have hz : (duesL rs dep).length ≤ sizeLine := sz (by unfold duesL; rw [List.length_map]; omega)
  simp [dn_held_back, dues_ok H Hd, itemsOf, hz, wipeE, hc, dSum, dSub]
/-! ### pieces, abroad -/
def isIt (h w kd : PySem.Str) (r : R) : Bool := decide (r.h = h) && (decide (r.w = w) && decide (r.kd = kd))
def pcs (l : List R) (h w kd : PySem.Str) : Int := ((l.filter (isIt h w kd)).map R.p).sum
theorem cut25 (r : R) : cutD [D.int r.m, .int r.k, .str r.h, .str r.w, .str r.kd, .int r.p] (some 2) (some 5) = [.str r.h, .str r.w, .str r.kd] := rfl
theorem isIt_den {r : R} (ok : r.Ok) {h w kd : PySem.Str} (oh : PyData.strOk h = true) (ow : PyData.strOk w = true) (ok2 : PyData.strOk kd = true) : dEq (.tup [.str r.h, .str r.w, .str r.kd]) (.tup [.str h, .str w, .str kd]) = some (.bl (isIt h w kd r)) := by
  unfold dEq
  simp only [flat_tup, flats_cons, flats_nil, flat_str, ok.h.sok, wok ok.w, ok.kd.sok, oh, ow, ok2, Bool.and_self, if_true, eqv_tt, eqvs_cc, eqvs_nn, eqv_str, Bool.and_true]
  unfold isIt
  congr 2
noncomputable def abr (rs : List R) (kd : PySem.Str) (h : PySem.Str) : Int := pcs (stand rs) h "back" kd - pcs (stand rs) h "sold" kd
noncomputable def abrL (rs : List R) (kd : PySem.Str) (hs : List PySem.Str) : List (PySem.Str × Int) := (hs.filter fun h => !decide (abr rs kd h = 0)).map fun h => (h, abr rs kd h)
theorem abrL_snoc (rs : List R) (kd : PySem.Str) (hs : List PySem.Str) (h : PySem.Str) : abrL rs kd (hs ++ [h]) = abrL rs kd hs ++ (if abr rs kd h = 0 then [] else [(h, abr rs kd h)]) := by
  unfold abrL
  rw [List.filter_append, List.map_append]
  by_cases e : abr rs kd h = 0 <;> simp [e]
theorem abrL_len (rs : List R) (kd : PySem.Str) (hs : List PySem.Str) : (abrL rs kd hs).length ≤ hs.length := by
  unfold abrL
  rw [List.length_map]
  exact List.length_filter_le _ _
end Law
namespace M
open PySem PySem.Spec L2
theorem dFn_retS {ar n : Nat} {fb : SDen} {ss : List S} {d : D} {st st1 ex : Sto} (h : ss.length = ar) (hl : st1.length = st.length) (hf : Flat st1) (e : fb (ss.map some ++ List.replicate (n - ar) none) st = .ret d (st1 ++ ex)) : dFn ar n fb ss st = .ok d st1 := by
  unfold dFn
  rw [if_pos h, e]
  have ht : (st1 ++ ex).take st.length = st1 := by rw [← hl]; simp
  simp only [cutOff, ht, hf.all, if_true]
theorem Flat.lst {rest : Sto} {row : List D} (hf : Flat rest) : Flat (.lst row :: rest) := fun o ho => by
  rcases List.mem_cons.mp ho with rfl | ho
  · rfl
  · exact hf o ho
/-! ### small letters -/
def Low (x : Str) : Prop := ∀ c ∈ x.cps.toList, 97 ≤ c ∧ c ≤ 122
theorem str_len (x : Str) : x.length = x.cps.toList.length := by simp [PySem.Str.length]
theorem app_cps (x y : Str) : (x ++ y).cps.toList = x.cps.toList ++ y.cps.toList := by
  show (x.cps ++ y.cps).toList = _
  simp
theorem Low.app {x y : Str} (h : Low x) (g : Low y) : Low (x ++ y) := fun c hc => by
  rw [app_cps] at hc
  rcases List.mem_append.mp hc with hc | hc
  · exact h c hc
  · exact g c hc
theorem app_len (x y : Str) : (x ++ y).length = x.length + y.length := by
  rw [str_len, str_len, str_len, app_cps, List.length_append]
theorem rep_len (c : Nat) (n : Nat) : (strRep ⟨#[c]⟩ (n : Int)).length = n := by
  rw [str_len]
  unfold strRep
  simp
theorem rep_low {c : Nat} (h0 : 97 ≤ c) (h1 : c ≤ 122) (n : Int) : Low (strRep ⟨#[c]⟩ n) := fun x hx => by
  obtain ⟨l, hl, hx⟩ := List.mem_flatten.mp (show x ∈ (List.replicate n.toNat [c]).flatten from hx)
  rw [(List.mem_replicate.mp hl).2] at hx
  have := List.mem_singleton.mp hx
  omega
theorem one_low {c : Nat} (h0 : 97 ≤ c) (h1 : c ≤ 122) : Low ⟨#[c]⟩ := fun x hx => by
  simp at hx
  omega
theorem one_len (c : Nat) : (⟨#[c]⟩ : Str).length = 1 := by rw [str_len]; rfl
theorem abc_list : ("abcdefghijklmnopqrstuvwxyz" : Str).cps.toList = List.range' 97 26 := by decide +kernel
theorem letter {v : Int} (h0 : 0 ≤ v) (h1 : v < 26) : ∃ c, 97 ≤ c ∧ c ≤ 122 ∧ dIx (.str "abcdefghijklmnopqrstuvwxyz") (.int v) = some (.str ⟨#[c]⟩) := by
  obtain ⟨n, rfl⟩ := Int.eq_ofNat_of_zero_le h0
  have hn : n < (List.range' 97 26).length := by rw [List.length_range']; omega
  have hz : ("abcdefghijklmnopqrstuvwxyz" : Str).length ≤ sizeLine := sz (by rw [str_len, abc_list]; simp)
  have hx := atI_nat (List.range' 97 26) n hn
  rw [List.getElem_range'] at hx
  refine ⟨97 + 1 * n, by omega, by omega, ?_⟩
  unfold dIx
  simp only [hz, if_true, abc_list, hx, Option.map_some]
end M
namespace Law
open PySem PySem.Spec L2 M
@[simp] theorem dMulS_int (i j : Int) : dMulS (.int i) (.int j) = dMul (.int i) (.int j) := rfl
theorem sm31 : small 31 = true := small_iff.mpr (by omega)
theorem sm48 : small 48271 = true := small_iff.mpr (by omega)
theorem taken {ns : List Int} {row : List D} {rest : Sto} {m : Int} (hr : RowOk ns row) (hf : Flat rest) (h0 : 0 < m) (h1 : m ≤ 1000000) :
    ∃ v row', RowOk ns row' ∧ 0 ≤ v ∧ v < m ∧ dn__law_taken [.r 0, .p (.int m)] (.lst row :: rest) = .ok (.int v) (.lst row' :: rest) := by
  obtain ⟨i, r, c, rfl, hi, hr0, hr1, hc⟩ := hr
  have hm : m < 1073741824 := by omega
  by_cases hc0 : 0 < c
  · refine ⟨c % m, [.scr ns, .int i, .int r, .int (c / m)], ⟨i, r, c / m, rfl, hi, hr0, hr1, Int.ediv_nonneg hc (by omega)⟩, Int.emod_nonneg _ (by omega), Int.emod_lt_of_pos _ h0, ?_⟩
    simp [dn__law_taken, lstAt, thaw, dIx, atI, ixN, dGt, dMod, dInt, dFdiv, hc0, h0, hm, hf.all]
  · have hc0' : c = 0 := by omega
    subst hc0'
    by_cases hl : (ns.length : Int) < i + 1
    · refine ⟨(r * 48271 + 11) % 2147483647 / 7 % m, [.scr ns, .int (i + 1), .int ((r * 48271 + 11) % 2147483647), .int 0], ⟨_, _, _, rfl, by omega, Int.emod_nonneg _ (by omega), Int.emod_lt_of_pos _ (by omega), by omega⟩, Int.emod_nonneg _ (by omega), Int.emod_lt_of_pos _ h0, ?_⟩
      simp [dn__law_taken, lstAt, thaw, dIx, atI, ixN, dGt, dMod, dInt, dFdiv, dAdd, dMul, dLen, sm31, sm48, h0, hm, hl, hf.all]
    · obtain ⟨cell, hcell⟩ : ∃ cell, ns[i.toNat]? = some cell := ⟨_, List.getElem?_eq_getElem (show i.toNat < ns.length by omega)⟩
      have hi2 : i < (ns.length : Int) := by omega
      have hx : atI ns i = some cell := by
        unfold atI ixN
        rw [if_pos hi, if_pos hi2]
        exact hcell
      have hp : (10 : Int) ^ (18 : Nat) = 1000000000000000000 := by decide
      have hsm : ∀ z : Int, small (z % 1000003) = true := fun z => by
        have h1 := Int.emod_nonneg z (show (1000003 : Int) ≠ 0 by decide)
        have h2 := Int.emod_lt_of_pos z (show (0 : Int) < 1000003 by decide)
        exact small_iff.mpr (by omega)
      by_cases hg : (1000000000000000000 : Int) ≤ cell
      · refine ⟨cell % m, [.scr ns, .int (i + 1), .int ((r * 48271 + cell + 11) % 2147483647), .int (cell / m)], ⟨_, _, _, rfl, by omega, Int.emod_nonneg _ (by omega), Int.emod_lt_of_pos _ (by omega), Int.ediv_nonneg (by omega) (by omega)⟩, Int.emod_nonneg _ (by omega), Int.emod_lt_of_pos _ h0, ?_⟩
        simp [dn__law_taken, lstAt, thaw, dIx, ixN, atI_4, hx, dGt, dGe, dMod, dInt, dFdiv, dAdd, dSub, dMul, dPow, dLen, sm31, sm48, h0, hm, hl, hf.all, hg, hp]
      · refine ⟨(cell % 1000003 * 31 + (r * 48271 + cell + 11) % 2147483647 / 11) % m, [.scr ns, .int (i + 1), .int ((r * 48271 + cell + 11) % 2147483647), .int 0], ⟨_, _, _, rfl, by omega, Int.emod_nonneg _ (by omega), Int.emod_lt_of_pos _ (by omega), by omega⟩, Int.emod_nonneg _ (by omega), Int.emod_lt_of_pos _ h0, ?_⟩
        simp [dn__law_taken, lstAt, thaw, dIx, ixN, atI_4, hx, dGt, dGe, dMod, dInt, dFdiv, dAdd, dSub, dMul, dPow, dLen, sm31, sm48, h0, hm, hl, hf.all, hg, hp]
theorem pick_ok {ns : List Int} {row : List D} {rest : Sto} {ds : List D} (hr : RowOk ns row) (hf : Flat rest) (h0 : 0 < ds.length) (h1 : ds.length ≤ 1000000) :
    ∃ d row', RowOk ns row' ∧ d ∈ ds ∧ dn__law_pick [.r 0, .p (.lst ds)] (.lst row :: rest) = .ok d (.lst row' :: rest) := by
  obtain ⟨v, row', hr', v0, v1, e⟩ := taken (m := ds.length) hr hf (by omega) (by omega)
  obtain ⟨n, rfl⟩ := Int.eq_ofNat_of_zero_le v0
  have hn : n < ds.length := by omega
  refine ⟨ds[n], row', hr', List.getElem_mem hn, ?_⟩
  simp [dn__law_pick, dLen, e, dIx, atI_nat ds n hn, hf.all]
/-! ### alike, with texts -/
theorem alike_int (n : Nat) (a b : Int) : dn__law_alike (n + 1) [.p (.int a), .p (.int b)] [] = .ok (.bl (a == b)) [] := by
  unfold dn__law_alike
  simp [dIs, dEq, D.isNon]
theorem alike_non (n : Nat) : dn__law_alike (n + 1) [.p .non, .p .non] [] = .ok (.bl true) [] := by
  unfold dn__law_alike
  simp [dIs, dEq, D.isNon]
theorem alike_bl (n : Nat) (a b : Bool) : dn__law_alike (n + 1) [.p (.bl a), .p (.bl b)] [] = .ok (.bl (a == b)) [] := by
  unfold dn__law_alike
  simp [dIs, dEq, D.isNon]
theorem alike_str (n : Nat) {x : PySem.Str} (h : PyData.strOk x = true) : dn__law_alike (n + 1) [.p (.str x), .p (.str x)] [] = .ok (.bl true) [] := by
  unfold dn__law_alike
  simp [dIs, dEq, D.isNon, h]
inductive Good : Nat → D → Prop
  | non {n} : Good n .non
  | int {n i} : Good n (.int i)
  | bl {n b} : Good n (.bl b)
  | str {n x} : PyData.strOk x = true → Good n (.str x)
  | tup {n l} : l.length ≤ 1000000 → (∀ x ∈ l, Good n x) → Good (n + 1) (.tup l)
  | lst {n l} : l.length ≤ 1000000 → (∀ x ∈ l, Good n x) → Good (n + 1) (.lst l)
theorem Good.flat : ∀ {n : Nat} {d : D}, Good n d → D.flat n d = true
  | _, _, .non => by simp
  | _, _, .int => by simp
  | _, _, .bl => by simp
  | _, _, .str h => by simp [h]
  | n + 1, .tup l, .tup _ h => by
    rw [flat_tup, flats_all, List.all_eq_true]
    exact fun x hx => Good.flat (h x hx)
  | n + 1, .lst l, .lst _ h => by
    rw [flat_lst, flats_all, List.all_eq_true]
    exact fun x hx => Good.flat (h x hx)
theorem alike_refl : ∀ (n : Nat) (d : D), Good n d → dn__law_alike (n + 1) [.p d, .p d] [] = .ok (.bl true) []
  | n, _, .non => alike_non n
  | n, _, .int => by rw [alike_int]; simp
  | n, _, .bl => by rw [alike_bl]; simp
  | n, _, .str h => alike_str n h
  | n + 1, .tup l, .tup hl h => by
    have hc := compL_map (g := gN 2) (ft := eNot (eB (eCall 2 (dn__law_alike (n + 1)) (eCons (eOp2 dIx (eVar 0) (eVar 2)) (eCons (eOp2 dIx (eVar 1) (eVar 2)) eNil))))) (fe := eVar 2) (ρ := [some (.p (.tup l)), some (.p (.tup l)), none]) (st := []) (fun i : Nat => D.int (i : Nat)) (fun _ => false) (fun i : Nat => D.int (i : Nat)) (List.range l.length) (by
      intro i hi
      have hi := List.mem_range.mp hi
      refine ⟨_, rfl, ?_, by simp⟩
      have ih := alike_refl n l[i] (h _ (List.getElem_mem hi))
      simp [dIx, atI_nat l i hi, ih])
    have hf : (List.range l.length).filter (fun _ => false) = [] := by simp
    rw [hf, List.map_nil] at hc
    unfold dn__law_alike
    simp [dLen, dNe, dEq, bigR_of (i := (l.length : Int)) (by omega) (by omega), rngL0, wipeE, sz hl, hc]
  | n + 1, .lst l, .lst hl h => by
    have hc := compL_map (g := gN 2) (ft := eNot (eB (eCall 2 (dn__law_alike (n + 1)) (eCons (eOp2 dIx (eVar 0) (eVar 2)) (eCons (eOp2 dIx (eVar 1) (eVar 2)) eNil))))) (fe := eVar 2) (ρ := [some (.p (.lst l)), some (.p (.lst l)), none]) (st := []) (fun i : Nat => D.int (i : Nat)) (fun _ => false) (fun i : Nat => D.int (i : Nat)) (List.range l.length) (by
      intro i hi
      have hi := List.mem_range.mp hi
      refine ⟨_, rfl, ?_, by simp⟩
      have ih := alike_refl n l[i] (h _ (List.getElem_mem hi))
      simp [dIx, atI_nat l i hi, ih])
    have hf : (List.range l.length).filter (fun _ => false) = [] := by simp
    rw [hf, List.map_nil] at hc
    unfold dn__law_alike
    simp [dLen, dNe, dEq, bigR_of (i := (l.length : Int)) (by omega) (by omega), rngL0, wipeE, sz hl, hc]
section
variable {ns : List Int} {row : List D} {rest : Sto}
abbrev abc : PySem.Str := "abcdefghijklmnopqrstuvwxyz"
theorem mul_rep {c : Nat} {v : Int} (h0 : 0 ≤ v) (h1 : v < 9) : dMulS (.str ⟨#[c]⟩) (.int v) = some (.str (strRep ⟨#[c]⟩ v)) := by
  simp only [dMulS]
  rw [if_pos ⟨by omega, by omega, by rw [one_len]; omega⟩]
theorem rep_ok {c : Nat} {v : Int} (h0 : 0 ≤ v) (a : 97 ≤ c) (b : c ≤ 122) : Low (strRep ⟨#[c]⟩ v) ∧ ((strRep ⟨#[c]⟩ v).length : Int) = v := by
  obtain ⟨n, rfl⟩ := Int.eq_ofNat_of_zero_le h0
  exact ⟨rep_low a b _, by rw [rep_len]⟩
/-- a letter so many times -/
theorem lets_den {m : Int} (m0 : 0 < m) (m1 : m ≤ 8) {ρ : M.Env} (h0 : ρ[0]? = some (some (.r 0))) (h2 : ρ[2]? = some (some (.p (.str abc)))) (hr : RowOk ns row) (hf : Flat rest) :
    ∃ (x : PySem.Str) (row' : List D), Low x ∧ (x.length : Int) < m ∧ RowOk ns row' ∧ eOp2 dMulS (eOp2 dIx (eVar 2) (eCallS 2 dn__law_taken (aRef 0 (aVal (eC (.int 26)) aNil)))) (eCallS 2 dn__law_taken (aRef 0 (aVal (eC (.int m)) aNil))) ρ (.lst row :: rest) = .ok (.str x) (.lst row' :: rest) := by
  obtain ⟨v, row1, hr1, v0, v1, e1⟩ := taken (m := 26) hr hf (by omega) (by omega)
  obtain ⟨c, c0, c1, ec⟩ := letter v0 v1
  obtain ⟨w, row2, hr2, w0, w1, e2⟩ := taken (m := m) hr1 hf (by omega) (by omega)
  obtain ⟨l1, l2⟩ := rep_ok w0 c0 c1
  refine ⟨_, row2, l1, by omega, hr2, ?_⟩
  simp [h0, h2, e1, e2, ec, mul_rep w0 (by omega)]
theorem names_b1 {ρ : M.Env} {i : Nat} {s : Int} {a b : PySem.Str} {kd : Int} {acc : List PySem.Str} (hlen : ρ.length = 10) (h0 : ρ[0]? = some (some (.r 0))) (h2 : At ρ 2 (.str abc)) (h3 : At ρ 3 (.str a)) (h4 : At ρ 4 (.str b)) (h5 : At ρ 5 (.int kd)) (h6 : At ρ 6 (.int (i : Nat))) (h7 : At ρ 7 (.int s)) (h8 : ρ[8]? = some (some (.r (rest.length + 1))))
    (ha : Low a) (ha2 : a.length < 4) (hb : Low b) (hb2 : b.length < 4) (hac : acc.length ≤ 1000) (hi : i ≤ 100) (hr : RowOk ns row) (hf : Flat rest) :
    ∃ (x : PySem.Str) (row' : List D) (sg : D), NameOk x ∧ RowOk ns row' ∧ dn__law_names_b1 ρ (.lst row :: (rest ++ [.lst (acc.map D.str)])) = .next (ρ.set 9 (some (.p sg))) (.lst row' :: (rest ++ [.lst ((acc ++ [x]).map D.str)])) := by
  have hf2 : Flat (rest ++ [.lst (acc.map D.str)]) := hf.app rfl
  have hm : dMulS (.int 7) (.int (i : Nat)) = some (.int (7 * (i : Nat))) := by
    show dMul (.int 7) (.int (i : Nat)) = _
    unfold dMul
    simp [small_of (i := 7) (by omega) (by omega)]
  obtain ⟨c, c0, c1, ec⟩ := letter (v := (s + 7 * (i : Nat)) % 26) (Int.emod_nonneg _ (by omega)) (Int.emod_lt_of_pos _ (by omega))
  have s6 : dn__law_names_s6 ρ (.lst row :: (rest ++ [.lst (acc.map D.str)])) = .next (ρ.set 9 (some (.p (.str ⟨#[c]⟩)))) (.lst row :: (rest ++ [.lst (acc.map D.str)])) := by
    simp only [At] at h2 h6 h7
    simp only [dn__law_names_s6, sSet, sOf, eOp2, eOp1, eVar, h2, h7, h6, eC, Res.bind, hm, dAdd, dInt, dMod, ec, show (0 : Int) < 26 from by decide, if_true]
  have g0 : (ρ.set 9 (some (.p (.str ⟨#[c]⟩))))[0]? = some (some (.r 0)) := by (first | assumption | (((try simp only [At, wipeE]); (repeat rw [gset (by decide)])); first | assumption | (rw [gself (by (try simp only [List.length_set]); omega)])) | (simp only [wipeE, List.length_set]; omega))
  have g2 : (ρ.set 9 (some (.p (.str ⟨#[c]⟩))))[2]? = some (some (.p (.str abc))) := by (first | assumption | (((try simp only [At, wipeE]); (repeat rw [gset (by decide)])); first | assumption | (rw [gself (by (try simp only [List.length_set]); omega)])) | (simp only [wipeE, List.length_set]; omega))
  have g3 : (ρ.set 9 (some (.p (.str ⟨#[c]⟩))))[3]? = some (some (.p (.str a))) := by (first | assumption | (((try simp only [At, wipeE]); (repeat rw [gset (by decide)])); first | assumption | (rw [gself (by (try simp only [List.length_set]); omega)])) | (simp only [wipeE, List.length_set]; omega))
  have g4 : (ρ.set 9 (some (.p (.str ⟨#[c]⟩))))[4]? = some (some (.p (.str b))) := by (first | assumption | (((try simp only [At, wipeE]); (repeat rw [gset (by decide)])); first | assumption | (rw [gself (by (try simp only [List.length_set]); omega)])) | (simp only [wipeE, List.length_set]; omega))
  have g5 : (ρ.set 9 (some (.p (.str ⟨#[c]⟩))))[5]? = some (some (.p (.int kd))) := by (first | assumption | (((try simp only [At, wipeE]); (repeat rw [gset (by decide)])); first | assumption | (rw [gself (by (try simp only [List.length_set]); omega)])) | (simp only [wipeE, List.length_set]; omega))
  have g8 : (ρ.set 9 (some (.p (.str ⟨#[c]⟩))))[8]? = some (some (.r (rest.length + 1))) := by (first | assumption | (((try simp only [At, wipeE]); (repeat rw [gset (by decide)])); first | assumption | (rw [gself (by (try simp only [List.length_set]); omega)])) | (simp only [wipeE, List.length_set]; omega))
  have g9 : (ρ.set 9 (some (.p (.str ⟨#[c]⟩))))[9]? = some (some (.p (.str ⟨#[c]⟩))) := by (first | assumption | (((try simp only [At, wipeE]); (repeat rw [gset (by decide)])); first | assumption | (rw [gself (by (try simp only [List.length_set]); omega)])) | (simp only [wipeE, List.length_set]; omega))
  have key : ∃ (x : PySem.Str) (row' : List D), NameOk x ∧ RowOk ns row' ∧ (eIf (eB (eOp2 dEq (eVar 5) (eC (.int 0)))) (eOp2 dAdd (eOp2 dAdd (eVar 3) (eVar 9)) (eVar 4)) (eOp2 dAdd (eVar 9) (eOp2 dMulS (eOp2 dIx (eVar 2) (eCallS 2 dn__law_taken (aRef 0 (aVal (eC (.int 26)) aNil)))) (eCallS 2 dn__law_taken (aRef 0 (aVal (eC (.int 8)) aNil)))))) (ρ.set 9 (some (.p (.str ⟨#[c]⟩)))) (.lst row :: (rest ++ [.lst (acc.map D.str)])) = .ok (.str x) (.lst row' :: (rest ++ [.lst (acc.map D.str)])) := by
    by_cases hk : kd = 0
    · refine ⟨a ++ ⟨#[c]⟩ ++ b, row, ?_, hr, ?_⟩
      · have hl : (a ++ ⟨#[c]⟩ ++ b).length = a.length + 1 + b.length := by rw [app_len, app_len, one_len]
        exact ⟨by omega, (ha.app (one_low c0 c1)).app hb⟩
      · have z1 : a.length + (⟨#[c]⟩ : PySem.Str).length ≤ sizeLine := sz (by rw [one_len]; omega)
        have z2 : (a ++ ⟨#[c]⟩).length + b.length ≤ sizeLine := sz (by rw [app_len, one_len]; omega)
        simp only [eIf, eB, eOp2, eVar, g5, g3, g9, g4, eC, Res.bind, dEq, flat_int, Bool.and_self, if_true, eqv_int, hk, beq_self_eq_true, dAdd, z1, z2]
    · obtain ⟨x, row', lx, lx2, hr', e⟩ := lets_den (m := 8) (by omega) (by omega) g0 g2 hr hf2
      refine ⟨⟨#[c]⟩ ++ x, row', ?_, hr', ?_⟩
      · have hl : ((⟨#[c]⟩ : PySem.Str) ++ x).length = 1 + x.length := by rw [app_len, one_len]
        exact ⟨by omega, (one_low c0 c1).app lx⟩
      · have z1 : (⟨#[c]⟩ : PySem.Str).length + x.length ≤ sizeLine := sz (by rw [one_len]; omega)
        have hk2 : (kd == 0) = false := by simpa using hk
        rw [show ∀ (A B : Den), eIf (eB (eOp2 dEq (eVar 5) (eC (.int 0)))) A B (ρ.set 9 (some (.p (.str ⟨#[c]⟩)))) (.lst row :: (rest ++ [.lst (acc.map D.str)])) = B (ρ.set 9 (some (.p (.str ⟨#[c]⟩)))) (.lst row :: (rest ++ [.lst (acc.map D.str)])) from fun A B => by
          simp only [eIf, eB, eOp2, eVar, g5, eC, Res.bind, dEq, flat_int, Bool.and_self, if_true, eqv_int, hk2, Bool.false_eq_true, if_false]]
        rw [show ∀ (B : Den), eOp2 dAdd (eVar 9) B (ρ.set 9 (some (.p (.str ⟨#[c]⟩)))) (.lst row :: (rest ++ [.lst (acc.map D.str)])) = (B (ρ.set 9 (some (.p (.str ⟨#[c]⟩)))) (.lst row :: (rest ++ [.lst (acc.map D.str)]))).bind fun e st => match dAdd (.str ⟨#[c]⟩) e with | some z => .ok z st | none => .stuck from fun B => by
          simp only [eOp2, eVar, g9, Res.bind]
          all_goals rfl]
        rw [e]
        simp only [Res.bind, dAdd, z1, if_true]
  obtain ⟨x, row', hx, hr', e⟩ := key
  refine ⟨x, row', .str ⟨#[c]⟩, hx, hr', ?_⟩
  unfold dn__law_names_b1
  rw [sSeq_next s6]
  have hz : (acc.map D.str).length < sizeLine := szlt (by rw [List.length_map]; omega)
  have a1 : ∀ r : List D, (O.lst r :: (rest ++ [.lst (acc.map D.str)]))[rest.length + 1]? = some (.lst (acc.map D.str)) := fun r => at_end _ _ _
  simp only [dn__law_names_s7, sMut1, lstAt, g8, a1, sOf, e, kApp, hz, if_true, set_end, List.map_append, List.map_cons, List.map_nil]
theorem names_ok {many : Nat} (hm : many ≤ 100) (hr : RowOk ns row) (hf : Flat rest) :
    ∃ (xs : List PySem.Str) (row' : List D), xs.length = many ∧ (∀ x ∈ xs, NameOk x) ∧ RowOk ns row' ∧ dn__law_names [.r 0, .p (.int (many : Nat))] (.lst row :: rest) = .ok (.lst (xs.map D.str)) (.lst row' :: rest) := by
  obtain ⟨s, row1, hr1, s0, s1, e2⟩ := taken (m := 26) hr hf (by omega) (by omega)
  have hf1 : Flat (rest ++ [.lst []]) := hf.app rfl
  have E1 : dn__law_names_s1 [some (.r 0), some (.p (.int (many : Nat))), none, none, none, none, none, none, none, none] (.lst row :: rest) = .next [some (.r 0), some (.p (.int (many : Nat))), some (.p (.str abc)), none, none, none, none, none, none, none] (.lst row :: rest) := rfl
  have E2 : dn__law_names_s2 [some (.r 0), some (.p (.int (many : Nat))), some (.p (.str abc)), none, none, none, none, none, none, none] (.lst row :: rest) = .next [some (.r 0), some (.p (.int (many : Nat))), some (.p (.str abc)), none, none, none, none, some (.p (.int s)), some (.r (rest.length + 1)), none] (.lst row1 :: (rest ++ [.lst []])) := by
    simp [dn__law_names_s2, e2, setAll]
  obtain ⟨a, row2, a1, a2, hr2, e3⟩ := lets_den (m := 4) (ρ := [some (.r 0), some (.p (.int (many : Nat))), some (.p (.str abc)), none, none, none, none, some (.p (.int s)), some (.r (rest.length + 1)), none]) (by omega) (by omega) rfl rfl hr1 hf1
  have E3 : dn__law_names_s3 [some (.r 0), some (.p (.int (many : Nat))), some (.p (.str abc)), none, none, none, none, some (.p (.int s)), some (.r (rest.length + 1)), none] (.lst row1 :: (rest ++ [.lst []])) = .next [some (.r 0), some (.p (.int (many : Nat))), some (.p (.str abc)), some (.p (.str a)), none, none, none, some (.p (.int s)), some (.r (rest.length + 1)), none] (.lst row2 :: (rest ++ [.lst []])) := by
    simp only [dn__law_names_s3, sSet, sOf, e3]
    rfl
  obtain ⟨b, row3, b1, b2, hr3, e4⟩ := lets_den (m := 4) (ρ := [some (.r 0), some (.p (.int (many : Nat))), some (.p (.str abc)), some (.p (.str a)), none, none, none, some (.p (.int s)), some (.r (rest.length + 1)), none]) (by omega) (by omega) rfl rfl hr2 hf1
  have E4 : dn__law_names_s4 [some (.r 0), some (.p (.int (many : Nat))), some (.p (.str abc)), some (.p (.str a)), none, none, none, some (.p (.int s)), some (.r (rest.length + 1)), none] (.lst row2 :: (rest ++ [.lst []])) = .next [some (.r 0), some (.p (.int (many : Nat))), some (.p (.str abc)), some (.p (.str a)), some (.p (.str b)), none, none, some (.p (.int s)), some (.r (rest.length + 1)), none] (.lst row3 :: (rest ++ [.lst []])) := by
    simp only [dn__law_names_s4, sSet, sOf, e4]
    rfl
  obtain ⟨kd, row4, hr4, k0, k1, e5⟩ := taken (m := 2) hr3 hf1 (by omega) (by omega)
  have E5 : dn__law_names_s5 [some (.r 0), some (.p (.int (many : Nat))), some (.p (.str abc)), some (.p (.str a)), some (.p (.str b)), none, none, some (.p (.int s)), some (.r (rest.length + 1)), none] (.lst row3 :: (rest ++ [.lst []])) = .next [some (.r 0), some (.p (.int (many : Nat))), some (.p (.str abc)), some (.p (.str a)), some (.p (.str b)), some (.p (.int kd)), none, some (.p (.int s)), some (.r (rest.length + 1)), none] (.lst row4 :: (rest ++ [.lst []])) := by
    simp [dn__law_names_s5, e5]
  obtain ⟨ρ', st', e8, ⟨l8, f8⟩, row5, xs, hr5, x1, x2, h2⟩ := forL_ix (g := gN 6) (fb := dn__law_names_b1) (fun i : Nat => D.int (i : Nat)) (List.range many) (fun i ρ st => (ρ.length = 10 ∧ Agr [6, 9] [some (.r 0), some (.p (.int (many : Nat))), some (.p (.str abc)), some (.p (.str a)), some (.p (.str b)), some (.p (.int kd)), none, some (.p (.int s)), some (.r (rest.length + 1)), none] ρ) ∧
      ∃ row xs, RowOk ns row ∧ xs.length = i ∧ (∀ x ∈ xs, NameOk x) ∧ st = .lst row :: (rest ++ [.lst (xs.map D.str)]))
    (ρ := [some (.r 0), some (.p (.int (many : Nat))), some (.p (.str abc)), some (.p (.str a)), some (.p (.str b)), some (.p (.int kd)), none, some (.p (.int s)), some (.r (rest.length + 1)), none]) (st := .lst row4 :: (rest ++ [.lst []])) ⟨⟨rfl, Agr.refl⟩, row4, [], hr4, rfl, by simp, rfl⟩ (by
      rintro i x ρ st hx ⟨⟨l0, ag⟩, row, xs, hr, x1, x2, rfl⟩
      obtain ⟨hi, rfl⟩ : i < many ∧ i = x := by
        obtain ⟨h1, h2⟩ := List.getElem?_eq_some_iff.mp hx
        rw [List.length_range] at h1
        exact ⟨h1, by rw [← h2]; simp⟩
      obtain ⟨y, row', sg, hy, hr', e⟩ := names_b1 (ρ := ρ.set 6 (some (.p (.int (i : Nat))))) (i := i) (s := s) (a := a) (b := b) (kd := kd) (acc := xs) (rest := rest) (ns := ns) (row := row) (by (first | assumption | (((try simp only [At, wipeE]); (repeat rw [gset (by decide)])); first | assumption | (rw [gself (by (try simp only [List.length_set]); omega)])) | (simp only [wipeE, List.length_set]; omega))) (by rw [gset (by decide)]; exact ag.2 0 (by decide)) (by simp only [At]; rw [gset (by decide)]; exact ag.2 2 (by decide)) (by simp only [At]; rw [gset (by decide)]; exact ag.2 3 (by decide)) (by simp only [At]; rw [gset (by decide)]; exact ag.2 4 (by decide)) (by simp only [At]; rw [gset (by decide)]; exact ag.2 5 (by decide)) (by (first | assumption | (((try simp only [At, wipeE]); (repeat rw [gset (by decide)])); first | assumption | (rw [gself (by (try simp only [List.length_set]); omega)])) | (simp only [wipeE, List.length_set]; omega))) (by simp only [At]; rw [gset (by decide)]; exact ag.2 7 (by decide)) (by rw [gset (by decide)]; exact ag.2 8 (by decide)) a1 (by omega) b1 (by omega) (by omega) (by omega) hr hf
      refine ⟨_, _, _, rfl, .inl e, ⟨by (first | assumption | (((try simp only [At, wipeE]); (repeat rw [gset (by decide)])); first | assumption | (rw [gself (by (try simp only [List.length_set]); omega)])) | (simp only [wipeE, List.length_set]; omega)), (ag.set (by decide)).set (by decide)⟩, row', xs ++ [y], hr', by simp [x1], fun z hz => ?_, rfl⟩
      rcases List.mem_append.mp hz with hz | hz
      · exact x2 z hz
      · rw [List.mem_singleton.mp hz]; exact hy)
  rw [List.length_range] at x1
  subst h2
  have g8 : ρ'[8]? = some (some (.r (rest.length + 1))) := f8.2 8 (by decide)
  have E8 : dn__law_names_s8 [some (.r 0), some (.p (.int (many : Nat))), some (.p (.str abc)), some (.p (.str a)), some (.p (.str b)), some (.p (.int kd)), none, some (.p (.int s)), some (.r (rest.length + 1)), none] (.lst row4 :: (rest ++ [.lst []])) = .next ρ' (.lst row5 :: (rest ++ [.lst (xs.map D.str)])) := by
    have hb : bigR (many : Int) = true := bigR_of (by omega) (by omega)
    have e8' := e8
    rw [← rngL0] at e8'
    simp only [dn__law_names_s8, sFor, sOf, iRange1, eVar, List.getElem?_cons_succ, List.getElem?_cons_zero, Res.bind, hb, if_true, Int.toNat_natCast]
    exact e8'
  refine ⟨xs, row5, x1, x2, hr5, ?_⟩
  refine dFn_retS (ex := [.frz (.lst (xs.map D.str))]) rfl (by simp) hf.lst ?_
  show sSeq dn__law_names_s1 (sSeq dn__law_names_s2 (sSeq dn__law_names_s3 (sSeq dn__law_names_s4 (sSeq dn__law_names_s5 (sSeq dn__law_names_s8 (sRet (eVar 8))))))) [some (.r 0), some (.p (.int (many : Nat))), none, none, none, none, none, none, none, none] (.lst row :: rest) = _
  rw [sSeq_next E1, sSeq_next E2, sSeq_next E3, sSeq_next E4, sSeq_next E5, sSeq_next E8]
  have a1 : (O.lst row5 :: (rest ++ [.lst (xs.map D.str)]))[rest.length + 1]? = some (.lst (xs.map D.str)) := at_end _ _ _
  simp only [sRet, sOf, eVar, g8, a1, Option.bind_some, thaw, set_end, List.cons_append]
end
end Law
namespace Law
open PySem PySem.Spec L2 M
section
variable {ns : List Int} {row : List D} {rest : Sto}
/-- a number below one of some bounds -/
theorem draw_ok {i : Nat} {l : List Int} {ρ : M.Env} {fl : Den} (h0 : ρ[i]? = some (some (.r 0))) (hl : ∀ x ∈ l, 0 < x ∧ x ≤ 1000) (h1 : 0 < l.length) (h2 : l.length ≤ 1000) (hfl : ∀ st, fl ρ st = .ok (.lst (l.map D.int)) st) (hr : RowOk ns row) (hf : Flat rest) :
    ∃ (v : Int) (row' : List D), RowOk ns row' ∧ 0 ≤ v ∧ (∃ m ∈ l, v < m) ∧ eCallS 2 dn__law_taken (aRef i (aVal (eCallS 2 dn__law_pick (aRef i (aVal fl aNil))) aNil)) ρ (.lst row :: rest) = .ok (.int v) (.lst row' :: rest) := by
  obtain ⟨d, row1, hr1, hd, e1⟩ := pick_ok (ds := l.map D.int) hr hf (by rw [List.length_map]; omega) (by rw [List.length_map]; omega)
  obtain ⟨m, hm, rfl⟩ := List.mem_map.mp hd
  obtain ⟨m0, m1⟩ := hl m hm
  obtain ⟨v, row2, hr2, v0, v1, e2⟩ := taken (m := m) hr1 hf m0 (by omega)
  refine ⟨v, row2, hr2, v0, ⟨m, hm, v1⟩, ?_⟩
  simp [h0, hfl, e1, e2]
theorem pickS_ok {i : Nat} {ρ : M.Env} {fl : Den} {ds : List D} (h0 : ρ[i]? = some (some (.r 0))) (h1 : 0 < ds.length) (h2 : ds.length ≤ 1000) (hfl : ∀ st, fl ρ st = .ok (.lst ds) st) (hr : RowOk ns row) (hf : Flat rest) :
    ∃ (d : D) (row' : List D), RowOk ns row' ∧ d ∈ ds ∧ eCallS 2 dn__law_pick (aRef i (aVal fl aNil)) ρ (.lst row :: rest) = .ok d (.lst row' :: rest) := by
  obtain ⟨d, row1, hr1, hd, e1⟩ := pick_ok (ds := ds) hr hf (by omega) (by omega)
  refine ⟨d, row1, hr1, hd, ?_⟩
  simp [h0, hfl, e1]
def encKn (kn : List R) : List (D × D) := kn.map fun r => (.tup [.int r.m, .int r.k], r.e)
def isKn (m k : Int) (r : R) : Bool := decide (r.m = m) && decide (r.k = k)
theorem keq_kn (r : R) (m k : Int) : keq (.tup [.int r.m, .int r.k]) (.tup [.int m, .int k]) = isKn m k r := by
  rw [keq_pair (r.m, r.k) (m, k)]
  unfold isKn
  rw [Bool.eq_iff_iff]
  simp
theorem look_kn (m k : Int) : ∀ kn : List R, lookD (encKn kn) (.tup [.int m, .int k]) = (kn.find? (isKn m k)).map R.e
  | [] => rfl
  | r :: kn => by
    show (if keq (.tup [.int r.m, .int r.k]) (.tup [.int m, .int k]) = true then some r.e else lookD (encKn kn) (.tup [.int m, .int k])) = _
    rw [keq_kn, List.find?_cons]
    cases isKn m k r with
    | true => rfl
    | false => simpa using look_kn m k kn
theorem put_kn {kn : List R} {r : R} (h : kn.find? (isKn r.m r.k) = none) : putD (encKn kn) (.tup [.int r.m, .int r.k]) r.e = encKn (kn ++ [r]) := by
  unfold putD
  rw [if_neg]
  · simp [encKn]
  · intro q
    obtain ⟨x, hx, e⟩ := List.any_eq_true.mp q
    obtain ⟨y, hy, rfl⟩ := List.mem_map.mp hx
    have e : keq (.tup [.int y.m, .int y.k]) (.tup [.int r.m, .int r.k]) = true := e
    rw [keq_kn] at e
    have := List.find?_eq_none.mp h y hy
    exact this e
structure Kn (kn : List R) : Prop where
  ok : ∀ r ∈ kn, r.Ok
  fn : ∀ r ∈ kn, ∀ s ∈ kn, r.m = s.m → r.k = s.k → r = s
theorem Kn.snoc {kn : List R} {r : R} (h : Kn kn) (hr : r.Ok) (hn : kn.find? (isKn r.m r.k) = none) : Kn (kn ++ [r]) := by
  have hne : ∀ s ∈ kn, s.m = r.m → s.k = r.k → False := fun s hs e1 e2 => by
    have := List.find?_eq_none.mp hn s hs
    simp [isKn, e1, e2] at this
  refine ⟨fun s hs => ?_, fun a ha b hb e1 e2 => ?_⟩
  · rcases List.mem_append.mp hs with hs | hs
    · exact h.ok s hs
    · rw [List.mem_singleton.mp hs]; exact hr
  · rcases List.mem_append.mp ha with ha | ha <;> rcases List.mem_append.mp hb with hb | hb
    · exact h.fn a ha b hb e1 e2
    · rw [List.mem_singleton.mp hb] at e1 e2
      exact (hne a ha e1 e2).elim
    · rw [List.mem_singleton.mp ha] at e1 e2
      exact (hne b hb e1.symm e2.symm).elim
    · rw [List.mem_singleton.mp ha, List.mem_singleton.mp hb]
theorem st2_get1 (o x y : O) (rest : Sto) : (o :: (rest ++ [x, y]))[rest.length + 1]? = some x := by simp
theorem st2_get2 (o x y : O) (rest : Sto) : (o :: (rest ++ [x, y]))[rest.length + 2]? = some y := by
  rw [List.getElem?_cons_succ, List.getElem?_append_right (by omega)]
  simp
theorem st2_set1 (o x y z : O) (rest : Sto) : (o :: (rest ++ [x, y])).set (rest.length + 1) z = o :: (rest ++ [z, y]) := by simp
theorem st2_set2 (o x y z : O) (rest : Sto) : (o :: (rest ++ [x, y])).set (rest.length + 2) z = o :: (rest ++ [x, z]) := by
  rw [List.set_cons_succ, List.set_append_right _ _ (by omega)]
  simp
theorem rows_b1 {ρ : M.Env} {nm kd : List PySem.Str} {found kn : List R} (hlen : ρ.length = 9) (h0 : ρ[0]? = some (some (.r 0))) (h3 : At ρ 3 (.lst (nm.map D.str))) (h4 : At ρ 4 (.lst (kd.map D.str))) (h5 : ρ[5]? = some (some (.r (rest.length + 1)))) (h6 : ρ[6]? = some (some (.r (rest.length + 2))))
    (n3 : nm.length = 3) (n2 : kd.length = 2) (hnm : ∀ x ∈ nm, NameOk x) (hkd : ∀ x ∈ kd, NameOk x) (hk : Kn kn) (hkl : kn.length ≤ 1000) (hfl : found.length ≤ 1000) (hfk : ∀ r ∈ found, r ∈ kn) (hr : RowOk ns row) (hf : Flat rest) :
    ∃ (ρ' : M.Env) (row' : List D) (kn' : List R) (r : R), Agr [7, 8] ρ ρ' ∧ RowOk ns row' ∧ Kn kn' ∧ kn'.length ≤ kn.length + 1 ∧ (∀ s ∈ found ++ [r], s ∈ kn') ∧ dn__law_rows_b1 ρ (.lst row :: (rest ++ [.lst (found.map R.e), .diT (encKn kn)])) = .next ρ' (.lst row' :: (rest ++ [.lst ((found ++ [r]).map R.e), .diT (encKn kn')])) := by
  have hf2 : Flat (rest ++ [.lst (found.map R.e), .diT (encKn kn)]) := fun o ho => by
    rcases List.mem_append.mp ho with ho | ho
    · exact hf o ho
    · simp only [List.mem_cons, List.not_mem_nil, or_false] at ho
      rcases ho with rfl | rfl <;> rfl
  have z3 : 3 ≤ sizeLine := sz (by omega)
  have z2 : 2 ≤ sizeLine := sz (by omega)
  have z6 : 6 ≤ sizeLine := sz (by omega)
  obtain ⟨m, row1, hr1, m0, ⟨bm, hbm, m1⟩, e1⟩ := draw_ok (i := 0) (l := [3, 20, 1000]) (ρ := ρ) (fl := eLst (eCons (eC (.int 3)) (eCons (eC (.int 20)) (eCons (eC (.int 1000)) eNil)))) h0 (by simp) (by simp) (by simp) (fun st => by simp [z3]) hr hf2
  obtain ⟨k, row2, hr2, k0, ⟨bk, hbk, k1⟩, e2⟩ := draw_ok (i := 0) (l := [1, 3, 100]) (ρ := ρ) (fl := eLst (eCons (eC (.int 1)) (eCons (eC (.int 3)) (eCons (eC (.int 100)) eNil)))) h0 (by simp) (by simp) (by simp) (fun st => by simp [z3]) hr1 hf2
  have hm1 : m ≤ 999 := by simp at hbm; omega
  have hk1 : k ≤ 99 := by simp at hbk; omega
  have s2 : dn__law_rows_s2 ρ (.lst row :: (rest ++ [.lst (found.map R.e), .diT (encKn kn)])) = .next ((ρ.set 7 (some (.p (.int m)))).set 8 (some (.p (.int k)))) (.lst row2 :: (rest ++ [.lst (found.map R.e), .diT (encKn kn)])) := by
    simp only [dn__law_rows_s2, sPar, sOf, aVal, e1, Res.bind, e2, aNil, setAll]
  have ag : Agr [7, 8] ρ ((ρ.set 7 (some (.p (.int m)))).set 8 (some (.p (.int k)))) := (Agr.refl.set (by decide)).set (by decide)
  have g0 : ((ρ.set 7 (some (.p (.int m)))).set 8 (some (.p (.int k))))[0]? = some (some (.r 0)) := by (first | assumption | (((try simp only [At, wipeE]); (repeat rw [gset (by decide)])); first | assumption | (rw [gself (by (try simp only [List.length_set]); omega)])) | (simp only [wipeE, List.length_set]; omega))
  have g3 : ((ρ.set 7 (some (.p (.int m)))).set 8 (some (.p (.int k))))[3]? = some (some (.p (.lst (nm.map D.str)))) := by (first | assumption | (((try simp only [At, wipeE]); (repeat rw [gset (by decide)])); first | assumption | (rw [gself (by (try simp only [List.length_set]); omega)])) | (simp only [wipeE, List.length_set]; omega))
  have g4 : ((ρ.set 7 (some (.p (.int m)))).set 8 (some (.p (.int k))))[4]? = some (some (.p (.lst (kd.map D.str)))) := by (first | assumption | (((try simp only [At, wipeE]); (repeat rw [gset (by decide)])); first | assumption | (rw [gself (by (try simp only [List.length_set]); omega)])) | (simp only [wipeE, List.length_set]; omega))
  have g5 : ((ρ.set 7 (some (.p (.int m)))).set 8 (some (.p (.int k))))[5]? = some (some (.r (rest.length + 1))) := by (first | assumption | (((try simp only [At, wipeE]); (repeat rw [gset (by decide)])); first | assumption | (rw [gself (by (try simp only [List.length_set]); omega)])) | (simp only [wipeE, List.length_set]; omega))
  have g6 : ((ρ.set 7 (some (.p (.int m)))).set 8 (some (.p (.int k))))[6]? = some (some (.r (rest.length + 2))) := by (first | assumption | (((try simp only [At, wipeE]); (repeat rw [gset (by decide)])); first | assumption | (rw [gself (by (try simp only [List.length_set]); omega)])) | (simp only [wipeE, List.length_set]; omega))
  have g7 : ((ρ.set 7 (some (.p (.int m)))).set 8 (some (.p (.int k))))[7]? = some (some (.p (.int m))) := by (first | assumption | (((try simp only [At, wipeE]); (repeat rw [gset (by decide)])); first | assumption | (rw [gself (by (try simp only [List.length_set]); omega)])) | (simp only [wipeE, List.length_set]; omega))
  have g8 : ((ρ.set 7 (some (.p (.int m)))).set 8 (some (.p (.int k))))[8]? = some (some (.p (.int k))) := by (first | assumption | (((try simp only [At, wipeE]); (repeat rw [gset (by decide)])); first | assumption | (rw [gself (by (try simp only [List.length_set]); omega)])) | (simp only [wipeE, List.length_set]; omega))
  generalize (ρ.set 7 (some (.p (.int m)))).set 8 (some (.p (.int k))) = ρ1 at *
  have ek : ∀ st : Sto, eTupK (eCons (eVar 7) (eCons (eVar 8) eNil)) ρ1 st = .ok (.tup [.int m, .int k]) st := fun st => by
    simp [g7, g8, z2, kOfs, kOf]
  -- the part that puts a new row
  have s4 : ∃ (row' : List D) (kn' : List R) (r : R), RowOk ns row' ∧ Kn kn' ∧ kn'.length ≤ kn.length + 1 ∧ (∀ s ∈ kn, s ∈ kn') ∧ r ∈ kn' ∧ kn'.find? (isKn m k) = some r ∧ dn__law_rows_s4 ρ1 (.lst row2 :: (rest ++ [.lst (found.map R.e), .diT (encKn kn)])) = .next ρ1 (.lst row' :: (rest ++ [.lst (found.map R.e), .diT (encKn kn')])) := by
    have cond : eB (eOp2 dNotInT (eTupK (eCons (eVar 7) (eCons (eVar 8) eNil))) (eVarB 6)) ρ1 (.lst row2 :: (rest ++ [.lst (found.map R.e), .diT (encKn kn)])) = .ok (!(kn.find? (isKn m k)).isSome) (.lst row2 :: (rest ++ [.lst (found.map R.e), .diT (encKn kn)])) := by
      have lk := look_kn m k kn
      simp only [eB, eOp2, ek, Res.bind, eVarB, g6, st2_get2, Option.bind_some, thaw, dNotInT, lk, Option.isSome_map]
    cases hq : kn.find? (isKn m k) with
    | some r =>
      refine ⟨row2, kn, r, hr2, hk, by omega, fun s hs => hs, List.mem_of_find?_eq_some hq, hq, ?_⟩
      unfold dn__law_rows_s4
      simp only [sIf, sOf, cond, hq, Option.isSome_some, Bool.not_true, Bool.false_eq_true, if_false, sNil]
    | none =>
      obtain ⟨dh, row3, hr3, hdh, e3⟩ := pickS_ok (i := 0) (ρ := ρ1) (fl := eVar 3) (ds := nm.map D.str) g0 (by rw [List.length_map]; omega) (by rw [List.length_map]; omega) (fun st => by simp only [eVar, g3]) hr2 hf2
      obtain ⟨h, hh, rfl⟩ := List.mem_map.mp hdh
      obtain ⟨dw, row4, hr4, hdw, e4⟩ := pickS_ok (i := 0) (ρ := ρ1) (fl := eLst (eCons (eC (.str "sold")) (eCons (eC (.str "back")) eNil))) (ds := [.str "sold", .str "back"]) g0 (by simp) (by simp) (fun st => by simp [z2]) hr3 hf2
      obtain ⟨w, hw, rfl⟩ : ∃ w : PySem.Str, (w = "sold" ∨ w = "back") ∧ dw = .str w := by
        simp only [List.mem_cons, List.not_mem_nil, or_false] at hdw
        rcases hdw with rfl | rfl
        · exact ⟨_, .inl rfl, rfl⟩
        · exact ⟨_, .inr rfl, rfl⟩
      obtain ⟨dk, row5, hr5, hdk, e5⟩ := pickS_ok (i := 0) (ρ := ρ1) (fl := eVar 4) (ds := kd.map D.str) g0 (by rw [List.length_map]; omega) (by rw [List.length_map]; omega) (fun st => by simp only [eVar, g4]) hr4 hf2
      obtain ⟨kk, hkk, rfl⟩ := List.mem_map.mp hdk
      obtain ⟨p, row6, hr6, p0, ⟨bp, hbp, p1⟩, e6⟩ := draw_ok (i := 0) (l := [3, 40, 1000]) (ρ := ρ1) (fl := eLst (eCons (eC (.int 3)) (eCons (eC (.int 40)) (eCons (eC (.int 1000)) eNil)))) g0 (by simp) (by simp) (by simp) (fun st => by simp [z3]) hr5 hf2
      have hp1 : p ≤ 999 := by simp at hbp; omega
      have rok : R.Ok ⟨m, k, h, w, kk, p⟩ := ⟨m0, hm1, k0, hk1, hnm h hh, hw, hkd kk hkk, p0, hp1⟩
      have pk := put_kn (r := ⟨m, k, h, w, kk, p⟩) hq
      have lz : (encKn kn).length < sizeLine := szlt (by unfold encKn; rw [List.length_map]; omega)
      refine ⟨row6, kn ++ [⟨m, k, h, w, kk, p⟩], ⟨m, k, h, w, kk, p⟩, hr6, hk.snoc rok hq, by simp, fun s hs => List.mem_append_left _ hs, by simp, ?_, ?_⟩
      · rw [List.find?_append, hq]
        simp [isKn]
      · unfold dn__law_rows_s4
        have ev : eTup (eCons (eVar 7) (eCons (eVar 8) (eCons (eCallS 2 dn__law_pick (aRef 0 (aVal (eVar 3) aNil))) (eCons (eCallS 2 dn__law_pick (aRef 0 (aVal (eLst (eCons (eC (.str "sold")) (eCons (eC (.str "back")) eNil))) aNil))) (eCons (eCallS 2 dn__law_pick (aRef 0 (aVal (eVar 4) aNil))) (eCons (eCallS 2 dn__law_taken (aRef 0 (aVal (eCallS 2 dn__law_pick (aRef 0 (aVal (eLst (eCons (eC (.int 3)) (eCons (eC (.int 40)) (eCons (eC (.int 1000)) eNil)))) aNil))) aNil))) eNil)))))) ρ1 (.lst row2 :: (rest ++ [.lst (found.map R.e), .diT (encKn kn)])) = .ok (R.e ⟨m, k, h, w, kk, p⟩) (.lst row6 :: (rest ++ [.lst (found.map R.e), .diT (encKn kn)])) := by
          have ev7 : ∀ st : Sto, eVar 7 ρ1 st = .ok (.int m) st := fun st => by simp only [eVar, g7]
          have ev8 : ∀ st : Sto, eVar 8 ρ1 st = .ok (.int k) st := fun st => by simp only [eVar, g8]
          rw [eTup]
          simp only [eCons]
          rw [ev7]
          simp only [Res.bind]
          rw [ev8]
          simp only [Res.bind]
          rw [e3]
          simp only [Res.bind]
          rw [e4]
          simp only [Res.bind]
          rw [e5]
          simp only [Res.bind]
          rw [e6]
          simp only [Res.bind, eNil, List.length_cons, List.length_nil, Nat.zero_add, Nat.reduceAdd, z6, if_true]
        simp only [sIf, sOf, cond, hq, Option.isSome_none, Bool.not_false, if_true, dn__law_rows_s3, sPutT, ev, ek, diTAt, g6, st2_get2, putTAt, lz, pk, st2_set2]
  obtain ⟨row', kn', r, hr', hk', hkl', hsub, hrk, hfind, e4⟩ := s4
  refine ⟨ρ1, row', kn', r, ag, hr', hk', hkl', fun s hs => ?_, ?_⟩
  · rcases List.mem_append.mp hs with hs | hs
    · exact hsub s (hfk s hs)
    · rw [List.mem_singleton.mp hs]; exact hrk
  · unfold dn__law_rows_b1
    rw [sSeq_next s2, sSeq_next e4]
    have lk := look_kn m k kn'
    rw [hfind] at lk
    have lz : (found.map R.e).length < sizeLine := szlt (by rw [List.length_map]; omega)
    have ev : eOp2P dGetT 6 (eTupK (eCons (eVar 7) (eCons (eVar 8) eNil))) ρ1 (.lst row' :: (rest ++ [.lst (found.map R.e), .diT (encKn kn')])) = .ok r.e (.lst row' :: (rest ++ [.lst (found.map R.e), .diT (encKn kn')])) := by
      simp only [eOp2P, eVarB, g6, st2_get2, Option.bind_some, thaw, Res.bind, ek, dGetT, lk, Option.map_some]
    simp only [dn__law_rows_s5, sMut1, lstAt, g5, st2_get1, sOf, ev, kApp, lz, if_true, st2_set1, List.map_append, List.map_cons, List.map_nil]
theorem law_rows_ok {most : Nat} (hm : most ≤ 60) (hr : RowOk ns row) (hf : Flat rest) :
    ∃ (rs : List R) (row' : List D), Rows rs ∧ rs.length ≤ most ∧ RowOk ns row' ∧ dn__law_rows [.r 0, .p (.int (most : Nat))] (.lst row :: rest) = .ok (.tup (rs.map R.e)) (.lst row' :: rest) := by
  obtain ⟨nm, row1, n3, hnm, hr1, e1⟩ := names_ok (many := 3) (by omega) hr hf
  obtain ⟨kd, row2, n2, hkd, hr2, e2⟩ := names_ok (many := 2) (by omega) hr1 hf
  have hf1 : Flat (rest ++ [.lst [], .diT []]) := fun o ho => by
    rcases List.mem_append.mp ho with ho | ho
    · exact hf o ho
    · simp only [List.mem_cons, List.not_mem_nil, or_false] at ho
      rcases ho with rfl | rfl <;> rfl
  have E1 : dn__law_rows_s1 [some (.r 0), some (.p (.int (most : Nat))), none, none, none, none, none, none, none] (.lst row :: rest) = .next [some (.r 0), some (.p (.int (most : Nat))), none, some (.p (.lst (nm.map D.str))), some (.p (.lst (kd.map D.str))), some (.r (rest.length + 1)), some (.r (rest.length + 2)), none, none] (.lst row2 :: (rest ++ [.lst [], .diT []])) := by
    have e1' : dn__law_names [.r 0, .p (.int 3)] (.lst row :: rest) = .ok (.lst (nm.map D.str)) (.lst row1 :: rest) := e1
    have e2' : dn__law_names [.r 0, .p (.int 2)] (.lst row1 :: rest) = .ok (.lst (kd.map D.str)) (.lst row2 :: rest) := e2
    simp [dn__law_rows_s1, e1', e2', setAll]
  obtain ⟨v, row3, hr3, v0, v1, e3⟩ := taken (m := (most : Int) + 1) hr2 hf1 (by omega) (by omega)
  obtain ⟨n, rfl⟩ := Int.eq_ofNat_of_zero_le v0
  obtain ⟨ρ', st', e6, ag, row4, found, kn, hr4, hk, hkl, hfl, hsub, h2⟩ := forL_ix (g := gN 2) (fb := dn__law_rows_b1) (fun i : Nat => D.int (i : Nat)) (List.range n) (fun i ρ st => Agr [2, 7, 8] [some (.r 0), some (.p (.int (most : Nat))), none, some (.p (.lst (nm.map D.str))), some (.p (.lst (kd.map D.str))), some (.r (rest.length + 1)), some (.r (rest.length + 2)), none, none] ρ ∧
      ∃ row found kn, RowOk ns row ∧ Kn kn ∧ kn.length ≤ i ∧ found.length = i ∧ (∀ r ∈ found, r ∈ kn) ∧ st = .lst row :: (rest ++ [.lst (found.map R.e), .diT (encKn kn)]))
    (ρ := [some (.r 0), some (.p (.int (most : Nat))), none, some (.p (.lst (nm.map D.str))), some (.p (.lst (kd.map D.str))), some (.r (rest.length + 1)), some (.r (rest.length + 2)), none, none]) (st := .lst row3 :: (rest ++ [.lst [], .diT []])) ⟨Agr.refl, row3, [], [], hr3, ⟨by simp, by simp⟩, by simp, rfl, by simp, rfl⟩ (by
      rintro i x ρ st hx ⟨ag, row, found, kn, hr, hk, hkl, hfl, hsub, rfl⟩
      obtain ⟨hi, rfl⟩ : i < n ∧ i = x := by
        obtain ⟨h1, h2⟩ := List.getElem?_eq_some_iff.mp hx
        rw [List.length_range] at h1
        exact ⟨h1, by rw [← h2]; simp⟩
      have l0 : ρ.length = 9 := ag.1
      obtain ⟨ρ', row', kn', r, ag', hr', hk', hkl', hsub', e⟩ := rows_b1 (ρ := ρ.set 2 (some (.p (.int (i : Nat))))) (nm := nm) (kd := kd) (found := found) (kn := kn) (rest := rest) (ns := ns) (row := row) (by (first | assumption | (((try simp only [At, wipeE]); (repeat rw [gset (by decide)])); first | assumption | (rw [gself (by (try simp only [List.length_set]); omega)])) | (simp only [wipeE, List.length_set]; omega))) (by rw [gset (by decide)]; exact ag.2 0 (by decide)) (by simp only [At]; rw [gset (by decide)]; exact ag.2 3 (by decide)) (by simp only [At]; rw [gset (by decide)]; exact ag.2 4 (by decide)) (by rw [gset (by decide)]; exact ag.2 5 (by decide)) (by rw [gset (by decide)]; exact ag.2 6 (by decide)) n3 n2 hnm hkd hk (by omega) (by omega) hsub hr hf
      refine ⟨_, ρ', _, rfl, .inl e, (ag.set (by decide)).trans (ag'.mono (by decide)), row', found ++ [r], kn', hr', hk', by omega, by simp [hfl], hsub', rfl⟩)
  rw [List.length_range] at hfl hkl
  subst h2
  have g5 : ρ'[5]? = some (some (.r (rest.length + 1))) := ag.2 5 (by decide)
  have E6 : dn__law_rows_s6 [some (.r 0), some (.p (.int (most : Nat))), none, some (.p (.lst (nm.map D.str))), some (.p (.lst (kd.map D.str))), some (.r (rest.length + 1)), some (.r (rest.length + 2)), none, none] (.lst row2 :: (rest ++ [.lst [], .diT []])) = .next ρ' (.lst row4 :: (rest ++ [.lst (found.map R.e), .diT (encKn kn)])) := by
    have hb : bigR (n : Int) = true := bigR_of (by omega) (by omega)
    have e6' := e6
    rw [← rngL0] at e6'
    simp only [dn__law_rows_s6, sFor, sOf, iRange1, eCallS, aRef, aVal, aNil, eOp2, eVar, eC, List.getElem?_cons_succ, List.getElem?_cons_zero, Res.bind, dAdd, List.length_cons, List.length_nil, Nat.zero_add, Nat.reduceAdd, if_true, e3, hb, Int.toNat_natCast]
    exact e6'
  have hn : n ≤ 60 := by omega
  refine ⟨found, row4, ⟨by omega, fun r hr => hk.ok r (hsub r hr), fun r hr s hs => hk.fn r (hsub r hr) s (hsub s hs)⟩, by omega, hr4, ?_⟩
  refine dFn_retS (ex := [.lst (found.map R.e), .diT (encKn kn)]) rfl (by simp) hf.lst ?_
  show sSeq dn__law_rows_s1 (sSeq dn__law_rows_s6 (sRet (eOp1 dTuple (eVarB 5)))) [some (.r 0), some (.p (.int (most : Nat))), none, none, none, none, none, none, none] (.lst row :: rest) = _
  rw [sSeq_next E1, sSeq_next E6]
  simp only [sRet, sOf, eOp1, eVarB, g5, st2_get1, Option.bind_some, thaw, Res.bind, dTuple, List.cons_append]
end
end Law
namespace Law
open PySem PySem.Spec L2 M
noncomputable instance decR : DecidableEq R := fun _ _ => Classical.propDecidable _
theorem perm_sum {a b : List Int} (h : a.Perm b) : a.sum = b.sum := by
  induction h with
  | nil => rfl
  | cons x _ ih => rw [List.sum_cons, List.sum_cons, ih]
  | swap x y l => rw [List.sum_cons, List.sum_cons, List.sum_cons, List.sum_cons]; omega
  | trans _ _ h1 h2 => exact h1.trans h2
/-! ### the same rows in another order -/
theorem best_congr {a b : List R} (Ha : Rows a) (Hb : Rows b) (h : ∀ r, r ∈ a ↔ r ∈ b) (m : Int) : best m a = best m b := by
  cases hb : best m b with
  | none => exact best_none.mpr fun r hr => best_none.mp hb r ((h r).mp hr)
  | some c =>
    obtain ⟨c1, c2, c3⟩ := best_some hb
    exact best_uniq Ha ((h c).mpr c1) c2 fun r hr e => c3 r ((h r).mp hr) e
theorem stand_congr {a b : List R} (Ha : Rows a) (Hb : Rows b) (h : ∀ r, r ∈ a ↔ r ∈ b) : stand a = stand b := by
  unfold stand standTo
  congr 1
  funext i
  exact best_congr Ha Hb h _
theorem Rows.of {a b : List R} (H : Rows a) (h : ∀ r ∈ b, r ∈ a) (hl : b.length ≤ 60) : Rows b := ⟨hl, fun r hr => H.ok r (h r hr), fun r hr s hs => H.fn r (h r hr) s (h s hs)⟩
theorem eqvs_e : ∀ a b : List R, D.eqvs (a.map R.e) (b.map R.e) = decide (a = b)
  | [], [] => by simp
  | [], _ :: _ => by simp
  | _ :: _, [] => by simp
  | x :: xs, y :: ys => by
    rw [List.map_cons, List.map_cons, eqvs_cc, eqvs_e xs ys, Bool.eq_iff_iff]
    rw [Bool.and_eq_true, eqv_e, decide_eq_true_eq, decide_eq_true_eq, List.cons_eq_cons]
theorem flats_e {l : List R} (h : ∀ r ∈ l, r.Ok) (n : Nat) : D.flats (n + 1) (l.map R.e) = true := by
  rw [flats_all, List.all_map, List.all_eq_true]
  exact fun r hr => e_flat (h r hr) n
theorem are_alike_ok {a b : List R} (Ha : Rows a) (Hb : Rows b) : dn_are_alike [.p (.tup (a.map R.e)), .p (.tup (b.map R.e))] [] = .ok (.bl (decide (stand a = stand b))) [] := by
  have h : dEq (.tup ((stand a).map R.e)) (.tup ((stand b).map R.e)) = some (.bl (decide (stand a = stand b))) := by
    unfold dEq
    rw [flat_tup, flat_tup, flats_e (fun r hr => stand_ok Ha hr) 58, flats_e (fun r hr => stand_ok Hb hr) 58, eqv_tt, eqvs_e]
    rfl
  simp [dn_are_alike, standing_ok Ha, standing_ok Hb, h]
/-! ### sums -/
theorem sum_sub {U A : List PySem.Str} {f : PySem.Str → Int} (hU : U.Nodup) (hA : A.Nodup) (hs : ∀ x ∈ A, x ∈ U) (hz : ∀ x ∈ U, x ∉ A → f x = 0) : (U.map f).sum = (A.map f).sum := by
  have pm : U.Perm (A ++ U.filter fun x => decide (x ∉ A)) := perm_of_mem hU (by
    rw [List.nodup_append]
    refine ⟨hA, hU.filter _, fun a ha b hb e => ?_⟩
    subst e
    have := (List.mem_filter.mp hb).2
    exact absurd ha (of_decide_eq_true this)) fun x => by
      rw [List.mem_append, List.mem_filter, decide_eq_true_eq]
      constructor
      · intro h
        by_cases q : x ∈ A
        · exact .inl q
        · exact .inr ⟨h, q⟩
      · rintro (h | h)
        · exact hs x h
        · exact h.1
  rw [perm_sum (pm.map f), List.map_append, List.sum_append]
  have z : ((U.filter fun x => decide (x ∉ A)).map f).sum = 0 := by
    have hz' : ∀ x ∈ U.filter fun x => decide (x ∉ A), f x = 0 := fun x hx => hz x (List.mem_filter.mp hx).1 (of_decide_eq_true (List.mem_filter.mp hx).2)
    generalize (U.filter fun x => decide (x ∉ A)) = l at hz'
    induction l with
    | nil => rfl
    | cons x l ih =>
      rw [List.map_cons, List.sum_cons, hz' x List.mem_cons_self, ih fun y hy => hz' y (List.mem_cons_of_mem _ hy)]
      rfl
  rw [z, Int.add_zero]
theorem dueOf_zero {l : List R} {dep : Deps} {h : PySem.Str} (hn : ∀ r ∈ l, r.h ≠ h) : dueOf l dep h = 0 := by
  unfold dueOf
  rw [List.filter_eq_nil_iff.mpr fun r hr => by simpa using hn r hr]
  rfl
theorem due_off {rs : List R} {dep : Deps} {h : PySem.Str} (hn : h ∉ houses rs) : dueOf (stand rs) dep h = 0 :=
  dueOf_zero fun r hr e => hn (((houses_spec rs).2.2 h).mpr ⟨r, hr, e⟩)
/-! ### what changes -/
noncomputable def dlt (a b : List R) (dep : Deps) (h : PySem.Str) : Int := dueOf (stand b) dep h - dueOf (stand a) dep h
noncomputable def both (a b : List R) : List PySem.Str := houses a ++ (houses b).filter fun x => decide (x ∉ houses a)
theorem both_nd (a b : List R) : (both a b).Nodup := by
  unfold both
  rw [List.nodup_append]
  refine ⟨(houses_spec a).2.1, (houses_spec b).2.1.filter _, fun x hx y hy e => ?_⟩
  subst e
  exact absurd hx (of_decide_eq_true (List.mem_filter.mp hy).2)
theorem both_mem {a b : List R} {x : PySem.Str} : x ∈ both a b ↔ x ∈ houses a ∨ x ∈ houses b := by
  unfold both
  rw [List.mem_append, List.mem_filter, decide_eq_true_eq]
  constructor
  · rintro (h | h)
    · exact .inl h
    · exact .inr h.1
  · rintro (h | h)
    · exact .inl h
    · by_cases q : x ∈ houses a
      · exact .inl q
      · exact .inr ⟨h, q⟩
noncomputable def chgL (a b : List R) (dep : Deps) (hs : List PySem.Str) : List (PySem.Str × Int) := (hs.filter fun h => !decide (dlt a b dep h = 0)).map fun h => (h, dlt a b dep h)
theorem chgL_snoc (a b : List R) (dep : Deps) (hs : List PySem.Str) (h : PySem.Str) : chgL a b dep (hs ++ [h]) = chgL a b dep hs ++ (if dlt a b dep h = 0 then [] else [(h, dlt a b dep h)]) := by
  unfold chgL
  rw [List.filter_append, List.map_append]
  by_cases e : dlt a b dep h = 0 <;> simp [e]
theorem chgL_len (a b : List R) (dep : Deps) (hs : List PySem.Str) : (chgL a b dep hs).length ≤ hs.length := by
  unfold chgL
  rw [List.length_map]
  exact List.length_filter_le _ _
theorem chgL_sum (a b : List R) (dep : Deps) (hs : List PySem.Str) : ((chgL a b dep hs).map (·.2)).sum = (hs.map (dlt a b dep)).sum := by
  induction hs with
  | nil => rfl
  | cons h hs ih =>
    unfold chgL at *
    rw [List.filter_cons]
    by_cases e : dlt a b dep h = 0
    · simp only [e, decide_true, Bool.not_true, Bool.false_eq_true, if_false, List.map_cons, List.sum_cons]
      rw [ih]
      omega
    · simp only [e, decide_false, Bool.not_false, if_true, List.map_cons, List.sum_cons]
      rw [ih]
theorem held_dlt {a b : List R} (dep : Deps) {U : List PySem.Str} (hU : U.Perm (both a b)) : ((U.map (dlt a b dep)).sum) = ((duesL b dep).map (·.2)).sum - ((duesL a dep).map (·.2)).sum := by
  have e1 : ((duesL b dep).map (·.2)) = (houses b).map (dueOf (stand b) dep) := by unfold duesL; rw [List.map_map]; rfl
  have e2 : ((duesL a dep).map (·.2)) = (houses a).map (dueOf (stand a) dep) := by unfold duesL; rw [List.map_map]; rfl
  rw [e1, e2, perm_sum (hU.map _)]
  rw [← sum_sub (U := both a b) (A := houses b) (f := dueOf (stand b) dep) (both_nd a b) (houses_spec b).2.1 (fun x hx => both_mem.mpr (.inr hx)) (fun x _ hx => due_off hx),
    ← sum_sub (U := both a b) (A := houses a) (f := dueOf (stand a) dep) (both_nd a b) (houses_spec a).2.1 (fun x hx => both_mem.mpr (.inl hx)) (fun x _ hx => due_off hx)]
  generalize both a b = l
  induction l with
  | nil => rfl
  | cons x l ih =>
    rw [List.map_cons, List.map_cons, List.map_cons, List.sum_cons, List.sum_cons, List.sum_cons, ih]
    unfold dlt
    omega
/-- the order of the texts is one -/
theorem sortS_congr {a b : List PySem.Str} (h : a.Perm b) : sortS a = sortS b := by
  have e : sortD (b.map D.str) = (sortS a).map D.str := by
    refine (sortD_uniq (a := (sortS a).map D.str) (((sortS_perm a).trans h).map _) (by rw [List.pairwise_map]; exact sortS_sorted a) fun x hx y hy e => ?_).symm
    obtain ⟨x, _, rfl⟩ := List.mem_map.mp hx
    obtain ⟨y, _, rfl⟩ := List.mem_map.mp hy
    rw [toks_str e]
  rw [sortD_strs] at e
  have inj : ∀ l m : List PySem.Str, l.map D.str = m.map D.str → l = m := fun l m h => by
    have := congrArg (List.map fun d : D => match d with | .str x => x | _ => "") h
    simpa [List.map_map, Function.comp_def] using this
  exact (inj _ _ e).symm
noncomputable def uni (a b : List R) : List PySem.Str := sortS (both a b)
theorem uni_mem {a b : List R} {x : PySem.Str} : x ∈ uni a b ↔ x ∈ houses a ∨ x ∈ houses b := by
  unfold uni
  rw [(sortS_perm _).mem_iff, both_mem]
theorem mon_dues {rs : List R} {dep : Deps} (h : PySem.Str) : mon (duesL rs dep) h = dueOf (stand rs) dep h := by
  by_cases q : h ∈ houses rs
  · have hm : (h, dueOf (stand rs) dep h) ∈ duesL rs dep := List.mem_map.mpr ⟨h, q, rfl⟩
    have e := mon_pr (duesL_nd rs dep) hm
    have e2 := look_mon h (duesL rs dep)
    rw [e] at e2
    exact (D.int.inj e2).symm
  · rw [due_off q]
    have hn : ∀ l : Deps, (∀ p ∈ l, p.1 ≠ h) → mon l h = 0 := by
      intro l
      induction l with
      | nil => intro _; rfl
      | cons p l ih =>
        intro hl
        unfold mon
        rw [if_neg (hl p List.mem_cons_self)]
        exact ih fun q hq => hl q (List.mem_cons_of_mem _ hq)
    refine hn _ fun p hp e => q ?_
    obtain ⟨y, hy, rfl⟩ := List.mem_map.mp hp
    exact e ▸ hy
theorem snoc_e (rs : List R) (r : R) (h : rs.length ≤ 60) : dAdd (.tup (rs.map R.e)) (.tup [r.e]) = some (.tup ((rs ++ [r]).map R.e)) := by
  have z : (rs.map R.e).length + [r.e].length ≤ sizeLine := sz (by simp; omega)
  unfold dAdd
  simp only [z, if_true, List.map_append, List.map_cons, List.map_nil]
theorem look_some (k : PySem.Str) (l : Deps) : (lookD (encM l) (.str k)).isSome = decide (k ∈ l.map (·.1)) := by
  induction l with
  | nil => rfl
  | cons p l ih =>
    show (if keq (.str p.1) (.str k) = true then some (D.int p.2) else lookD (encM l) (.str k)).isSome = _
    by_cases h : p.1 = k
    · subst h; simp [keq]
    · simp only [keq, h, decide_false, Bool.false_eq_true, if_false, ih, List.map_cons, List.mem_cons]
      have : ¬ k = p.1 := fun e => h e.symm
      simp [this]
theorem keys_dues (rs : List R) (dep : Deps) : (duesL rs dep).map (·.1) = houses rs := by
  unfold duesL
  rw [List.map_map]
  have : ((fun p : PySem.Str × Int => p.1) ∘ fun h => (h, dueOf (stand rs) dep h)) = id := rfl
  rw [this, List.map_id]
theorem encM_keys (l : Deps) : (encM l).map (·.1) = (l.map (·.1)).map D.str := by unfold encM; rw [List.map_map, List.map_map]; rfl
theorem sortOk_strs {l : List PySem.Str} (h : ∀ x ∈ l, PyData.strOk x = true) : sortOk (l.map D.str) = true := by
  unfold sortOk
  rw [flats_strs h 59]
  simp only [Bool.true_and, Bool.and_eq_true, List.all_map, List.all_eq_true, Bool.or_eq_true]
  refine ⟨fun r hr => List.all_eq_true.mpr fun s hs => ?_, .inr fun r hr => rfl⟩
  simp [D.py, PySem.W.alike]
theorem sortG_strs {l : List PySem.Str} (h : ∀ x ∈ l, PyData.strOk x = true) (hl : l.length ≤ 100000) : dSortG (.lst (l.map D.str)) = some (.lst ((sortS l).map D.str)) := by
  have hz : (l.map D.str).length ≤ sizeLine := sz (by rw [List.length_map]; omega)
  show (if sortOk (l.map D.str) = true then (if (l.map D.str).length ≤ sizeLine then some (D.lst ((l.map D.str).mergeSort leD)) else none) else none) = _
  rw [if_pos (sortOk_strs h), if_pos hz]
  exact congrArg (fun l => some (D.lst l)) (sortD_strs _)
theorem both_ok {a b : List R} (Ha : Rows a) (Hb : Rows b) : (∀ x ∈ both a b, PyData.strOk x = true) ∧ (both a b).length ≤ 120 := by
  refine ⟨fun x hx => ?_, ?_⟩
  · rcases both_mem.mp hx with h | h
    · exact (houses_ok Ha h).sok
    · exact (houses_ok Hb h).sok
  · unfold both
    rw [List.length_append]
    have := houses_len Ha
    have := houses_len Hb
    have := List.length_filter_le (fun x => decide (x ∉ houses a)) (houses b)
    omega
theorem change_ok {rs : List R} {r : R} {dep : Deps} (H : Rows rs) (H2 : Rows (rs ++ [r])) (Hd : Dep dep) : dn_change [.p (.tup (rs.map R.e)), .p r.e, .p (.dic (encM dep))] [] = .ok (.tup ((chgL rs (rs ++ [r]) dep (uni rs (rs ++ [r]))).map encPr)) [] := by
  have hl := H.len
  have dd : ∀ q : List R, dDictX (.tupX ((duesL q dep).map encPr)) = some (.dic (encM (duesL q dep))) := fun q => by
    show (pairsD ((duesL q dep).map encPr)).map _ = _
    rw [pairsD_pr]
    have := fold_put (duesL q dep) [] (duesL_nd q dep)
    rw [List.nil_append] at this
    rw [← this]
    rfl
  have z1 : 1 ≤ sizeLine := sz (by omega)
  have z2 : 2 ≤ sizeLine := sz (by omega)
  have s1 : dn_change_s1 [some (.p (.tup (rs.map R.e))), some (.p r.e), some (.p (.dic (encM dep))), none, none, none, none, none, none] [] = .next [some (.p (.tup (rs.map R.e))), some (.p r.e), some (.p (.dic (encM dep))), none, none, some (.p (.dic (encM (duesL rs dep)))), some (.p (.dic (encM (duesL (rs ++ [r]) dep)))), none, none] [] := by
    simp only [dn_change_s1, sPar, sOf, aVal, eOp1, eCall, eCons, eNil, eOp2, eTup, eVar, List.getElem?_cons_succ, List.getElem?_cons_zero, Res.bind, List.length_cons, List.length_nil, Nat.zero_add, Nat.reduceAdd, if_true, List.map_cons, List.map_nil, duesX_ok H Hd, dd, z1, snoc_e rs r hl, duesX_ok H2 Hd, aNil, setAll, List.set_cons_succ, List.set_cons_zero]
  obtain ⟨bo1, bo2⟩ := both_ok H H2
  obtain ⟨ρ', st', e, ⟨x, y, w, hx⟩, h2⟩ := forL_ix (g := gN 4) (fb := sSeq dn_change_s2 dn_change_s4) D.str (uni rs (rs ++ [r])) (fun i ρ st => (∃ x y w, ρ = [some (.p (.tup (rs.map R.e))), some (.p r.e), some (.p (.dic (encM dep))), some (.r 0), x, some (.p (.dic (encM (duesL rs dep)))), some (.p (.dic (encM (duesL (rs ++ [r]) dep)))), y, w]) ∧ st = [.lst ((chgL rs (rs ++ [r]) dep ((uni rs (rs ++ [r])).take i)).map encPr)])
    (ρ := [some (.p (.tup (rs.map R.e))), some (.p r.e), some (.p (.dic (encM dep))), some (.r 0), none, some (.p (.dic (encM (duesL rs dep)))), some (.p (.dic (encM (duesL (rs ++ [r]) dep)))), none, none]) (st := [.lst []]) ⟨⟨none, none, none, rfl⟩, rfl⟩ (by
      rintro i h ρ st hi ⟨⟨x, y, w, rfl⟩, rfl⟩
      have hul : (uni rs (rs ++ [r])).length ≤ 120 := by unfold uni; rw [(sortS_perm _).length_eq]; exact bo2
      have ht : (uni rs (rs ++ [r])).take (i + 1) = (uni rs (rs ++ [r])).take i ++ [h] := by rw [List.take_add_one, hi]; rfl
      have lm1 := look_mon h (duesL rs dep)
      have lm2 := look_mon h (duesL (rs ++ [r]) dep)
      rw [mon_dues] at lm1 lm2
      have ll : (chgL rs (rs ++ [r]) dep ((uni rs (rs ++ [r])).take i)).length < sizeLine := szlt (by
        have := chgL_len rs (rs ++ [r]) dep ((uni rs (rs ++ [r])).take i)
        rw [List.length_take] at this
        omega)
      have t2 : dn_change_s2 [some (.p (.tup (rs.map R.e))), some (.p r.e), some (.p (.dic (encM dep))), some (.r 0), some (.p (.str h)), some (.p (.dic (encM (duesL rs dep)))), some (.p (.dic (encM (duesL (rs ++ [r]) dep)))), y, w] [.lst ((chgL rs (rs ++ [r]) dep ((uni rs (rs ++ [r])).take i)).map encPr)] = .next [some (.p (.tup (rs.map R.e))), some (.p r.e), some (.p (.dic (encM dep))), some (.r 0), some (.p (.str h)), some (.p (.dic (encM (duesL rs dep)))), some (.p (.dic (encM (duesL (rs ++ [r]) dep)))), some (.p (.int (dlt rs (rs ++ [r]) dep h))), w] [.lst ((chgL rs (rs ++ [r]) dep ((uni rs (rs ++ [r])).take i)).map encPr)] := by
        simp only [dn_change_s2, sSet, sOf, eOp2, eGet2, eVar, eC, List.getElem?_cons_succ, List.getElem?_cons_zero, Res.bind, kOf, lm1, lm2, dSub, List.set_cons_succ, List.set_cons_zero]
        rfl
      refine ⟨_, [some (.p (.tup (rs.map R.e))), some (.p r.e), some (.p (.dic (encM dep))), some (.r 0), some (.p (.str h)), some (.p (.dic (encM (duesL rs dep)))), some (.p (.dic (encM (duesL (rs ++ [r]) dep)))), some (.p (.int (dlt rs (rs ++ [r]) dep h))), w], [.lst ((chgL rs (rs ++ [r]) dep ((uni rs (rs ++ [r])).take (i + 1))).map encPr)], rfl, .inl ?_, ⟨_, _, _, rfl⟩, rfl⟩
      show sSeq dn_change_s2 dn_change_s4 [some (.p (.tup (rs.map R.e))), some (.p r.e), some (.p (.dic (encM dep))), some (.r 0), some (.p (.str h)), some (.p (.dic (encM (duesL rs dep)))), some (.p (.dic (encM (duesL (rs ++ [r]) dep)))), y, w] _ = _
      rw [sSeq_next t2, ht, chgL_snoc]
      by_cases q : dlt rs (rs ++ [r]) dep h = 0
      · simp [dn_change_s4, q, dNe]
      · simp [dn_change_s4, q, dNe, dn_change_s3, lstAt, kApp, szs, ll])
  subst h2
  rw [hx, List.take_length] at e
  have hc := compL_map (g := gN 8) (ft := eB (eOp2 dNotInK (eVar 8) (eVar 5))) (fe := eVar 8) (ρ := [some (.p (.tup (rs.map R.e))), some (.p r.e), some (.p (.dic (encM dep))), some (.r 0), none, some (.p (.dic (encM (duesL rs dep)))), some (.p (.dic (encM (duesL (rs ++ [r]) dep)))), none, none]) (st := [.lst []]) D.str (fun x => decide (x ∉ houses rs)) D.str (houses (rs ++ [r])) (by
    intro h hh
    have lk := look_some h (duesL rs dep)
    rw [keys_dues] at lk
    refine ⟨_, rfl, ?_, fun _ => ?_⟩
    · simp [dNotInK, kOf, lk]
    · simp)
  have hz : (houses (rs ++ [r])).length ≤ sizeLine := sz (by have := houses_len H2; omega)
  have k1 : dListK (.dic (encM (duesL rs dep))) = some (.lst ((houses rs).map D.str)) := by
    unfold dListK
    simp only [encM_keys, keys_dues]
  have k2 : (encM (duesL (rs ++ [r]) dep)).map (·.1) = (houses (rs ++ [r])).map D.str := by rw [encM_keys, keys_dues]
  have zz : ((houses rs).map D.str).length + (((houses (rs ++ [r])).filter fun x => decide (x ∉ houses rs)).map D.str).length ≤ sizeLine := sz (by
    have := bo2
    unfold both at this
    rw [List.length_append] at this
    rw [List.length_map, List.length_map]
    omega)
  have hsrt := sortG_strs bo1 (by omega)
  have e5 : iSeq (eOp1 dSortG (eOp2 dAdd (eOp1 dListK (eVar 5)) (ePure (eComp (iKeysD (eVar 6)) (gN 8) (eB (eOp2 dNotInK (eVar 8) (eVar 5))) (eVar 8) [8])))) [some (.p (.tup (rs.map R.e))), some (.p r.e), some (.p (.dic (encM dep))), some (.r 0), none, some (.p (.dic (encM (duesL rs dep)))), some (.p (.dic (encM (duesL (rs ++ [r]) dep)))), none, none] [.lst []] = .ok ((uni rs (rs ++ [r])).map D.str) [.lst []] := by
    have ew : wipeE [some (.p (.tup (rs.map R.e))), some (.p r.e), some (.p (.dic (encM dep))), some (.r 0), none, some (.p (.dic (encM (duesL rs dep)))), some (.p (.dic (encM (duesL (rs ++ [r]) dep)))), none, none] [8] = [some (.p (.tup (rs.map R.e))), some (.p r.e), some (.p (.dic (encM dep))), some (.r 0), none, some (.p (.dic (encM (duesL rs dep)))), some (.p (.dic (encM (duesL (rs ++ [r]) dep)))), none, none] := rfl
    simp only [iSeq, eOp1, eOp2, ePure, eComp, iKeysD, eVar, List.getElem?_cons_succ, List.getElem?_cons_zero, Res.bind, k1, k2, List.length_map, hz, if_true, ew, hc, thaw, dAdd, zz, ← List.map_append]
    rw [show houses rs ++ (houses (rs ++ [r])).filter (fun x => decide (x ∉ houses rs)) = both rs (rs ++ [r]) from rfl]
    simp only [List.length_map] at zz
    simp only [zz, if_true, hsrt, itemsOf]
    rfl
  have s5 : dn_change_s5 [some (.p (.tup (rs.map R.e))), some (.p r.e), some (.p (.dic (encM dep))), some (.r 0), none, some (.p (.dic (encM (duesL rs dep)))), some (.p (.dic (encM (duesL (rs ++ [r]) dep)))), none, none] [.lst []] = .next [some (.p (.tup (rs.map R.e))), some (.p r.e), some (.p (.dic (encM dep))), some (.r 0), x, some (.p (.dic (encM (duesL rs dep)))), some (.p (.dic (encM (duesL (rs ++ [r]) dep)))), y, w] [.lst ((chgL rs (rs ++ [r]) dep (uni rs (rs ++ [r]))).map encPr)] := by
    unfold dn_change_s5
    simp only [sFor, sOf, e5]
    exact e
  refine dFn_ret rfl (st' := [.lst ((chgL rs (rs ++ [r]) dep (uni rs (rs ++ [r]))).map encPr)]) ?_
  show sSeq dn_change_s1 (sSeq (sNew 3 (nLst eNil)) (sSeq dn_change_s5 (sRet (eOp1 dTuple (eVarB 3))))) [some (.p (.tup (rs.map R.e))), some (.p r.e), some (.p (.dic (encM dep))), none, none, none, none, none, none] [] = _
  rw [sSeq_next s1, sSeq_next (show sNew 3 (nLst eNil) [some (.p (.tup (rs.map R.e))), some (.p r.e), some (.p (.dic (encM dep))), none, none, some (.p (.dic (encM (duesL rs dep)))), some (.p (.dic (encM (duesL (rs ++ [r]) dep)))), none, none] [] = .next [some (.p (.tup (rs.map R.e))), some (.p r.e), some (.p (.dic (encM dep))), some (.r 0), none, some (.p (.dic (encM (duesL rs dep)))), some (.p (.dic (encM (duesL (rs ++ [r]) dep)))), none, none] [.lst []] from by simp), sSeq_next s5]
  simp [dTuple]
end Law
namespace M
open PySem PySem.Spec L2
theorem cutD_drop (xs : List D) (m : Nat) (h : m ≤ xs.length) : cutD xs (some (m : Int)) none = xs.drop m := by
  unfold cutD
  have h1 : HT.sIx xs.length 0 (some (m : Int)) = m := by
    rw [HT.sIx_nat]
    omega
  have h2 : HT.sIx xs.length xs.length none = xs.length := by unfold HT.sIx; rfl
  rw [h1, h2]
  apply List.take_of_length_le
  simp
theorem cutD_takeG (xs : List D) (m : Nat) : cutD xs none (some (m : Int)) = xs.take m := by
  by_cases h : m ≤ xs.length
  · exact cutD_take xs m h
  · unfold cutD
    have h1 : HT.sIx xs.length 0 none = 0 := by unfold HT.sIx; rfl
    have h2 : HT.sIx xs.length xs.length (some (m : Int)) = xs.length := by
      rw [HT.sIx_nat]
      omega
    rw [h1, h2, List.take_of_length_le (by omega : xs.length ≤ m)]
    simp
/-- a comprehension whose parts may freeze something -/
theorem compL_fz {α : Type} {g : GD} {fe : Den} {ρ : Env} {T : Sto} (enc : α → D) (f : α → D) : ∀ (xs : List α) (st0 : Sto), (∀ x ∈ xs, ∃ ρ1, g (enc x) ρ = some ρ1 ∧ fe ρ1 st0 = .ok (f x) T ∧ fe ρ1 T = .ok (f x) T) → compL g eYes fe ρ (xs.map enc) st0 = .ok (xs.map f) (if xs.isEmpty = true then st0 else T)
  | [], _, _ => rfl
  | x :: xs, st0, h => by
    obtain ⟨ρ1, h1, h2, h3⟩ := h x List.mem_cons_self
    have ih := compL_fz (T := T) enc f xs T fun y hy => by
      obtain ⟨ρ2, g1, g2, g3⟩ := h y (List.mem_cons_of_mem _ hy)
      exact ⟨ρ2, g1, g3, g3⟩
    have e : (if xs.isEmpty = true then T else T) = T := by split <;> rfl
    rw [e] at ih
    rw [List.map_cons]
    unfold compL
    simp only [h1, eYes, h2, ih, Res.bind, if_true, List.map_cons, List.isEmpty_cons, Bool.false_eq_true, if_false]
def FzAt (st : Sto) (n : Nat) (d : D) : Prop := ∃ o, st[n]? = some o ∧ thaw o = some d
theorem FzAt.var {st : Sto} {n i : Nat} {d : D} {ρ : Env} (h : FzAt st n d) (hi : ρ[i]? = some (some (.r n))) : eVar i ρ st = .ok d (st.set n (.frz d)) := by
  obtain ⟨o, h1, h2⟩ := h
  simp only [eVar, hi, h1, Option.bind_some, h2]
theorem FzAt.varB {st : Sto} {n i : Nat} {d : D} {ρ : Env} (h : FzAt st n d) (hi : ρ[i]? = some (some (.r n))) : eVarB i ρ st = .ok d st := by
  obtain ⟨o, h1, h2⟩ := h
  simp only [eVarB, hi, h1, Option.bind_some, h2]
theorem set_frz {st : Sto} {n : Nat} {d : D} (h : st[n]? = some (.frz d)) : st.set n (.frz d) = st := by
  apply List.ext_getElem?
  intro i
  by_cases e : n = i
  · subst e
    rw [List.getElem?_set_self (List.getElem?_eq_some_iff.mp h).1, h]
  · rw [List.getElem?_set_ne e]
theorem Flat.set {st : Sto} {n : Nat} {o : O} (h : Flat st) (ho : flatO o = true) : Flat (st.set n o) := fun x hx => by
  rcases List.mem_or_eq_of_mem_set hx with hx | rfl
  · exact h x hx
  · exact ho
end M
namespace Law
open PySem PySem.Spec L2 M
section
variable {ns : List Int} {row : List D} {rest : Sto} {ρ : M.Env} {st : Sto} {rs : List R} {dep : Deps}
/-! ### deposits -/
theorem putM (dep : Deps) (Hd : Dep dep) (hl : dep.length ≤ 50) {k : PySem.Str} {v : Int} (hk : NameOk k) (v0 : 0 ≤ v) (v1 : v ≤ 99) : ∃ dep' : Deps, Dep dep' ∧ dep'.length ≤ dep.length + 1 ∧ putD (encM dep) (.str k) (.int v) = encM dep' := by
  unfold putD
  split
  · refine ⟨dep.map fun p => if p.1 = k then (p.1, v) else p, ⟨by rw [List.length_map]; omega, fun p hp => ?_, fun p hp => ?_, fun p hp => ?_⟩, by simp, ?_⟩
    · obtain ⟨q, hq, rfl⟩ := List.mem_map.mp hp
      split
      · exact Hd.name q hq
      · exact Hd.name q hq
    · obtain ⟨q, hq, rfl⟩ := List.mem_map.mp hp
      split
      · exact v0
      · exact Hd.v0 q hq
    · obtain ⟨q, hq, rfl⟩ := List.mem_map.mp hp
      split
      · exact v1
      · exact Hd.v1 q hq
    · unfold encM
      rw [List.map_map, List.map_map]
      apply List.map_congr_left
      intro p _
      by_cases e : p.1 = k <;> simp [keq, e]
  · refine ⟨dep ++ [(k, v)], ⟨by simp; omega, fun p hp => ?_, fun p hp => ?_, fun p hp => ?_⟩, by simp, by simp [encM]⟩
    · rcases List.mem_append.mp hp with hp | hp
      · exact Hd.name p hp
      · rw [List.mem_singleton.mp hp]; exact hk
    · rcases List.mem_append.mp hp with hp | hp
      · exact Hd.v0 p hp
      · rw [List.mem_singleton.mp hp]; exact v0
    · rcases List.mem_append.mp hp with hp | hp
      · exact Hd.v1 p hp
      · rw [List.mem_singleton.mp hp]; exact v1
/-! ### alike -/
theorem good_e {r : R} (h : r.Ok) (n : Nat) : Good (n + 1) r.e := .tup (by simp) fun x hx => by
  simp only [List.mem_cons, List.not_mem_nil, or_false] at hx
  rcases hx with rfl | rfl | rfl | rfl | rfl | rfl
  · exact .int
  · exact .int
  · exact .str h.h.sok
  · exact .str (wok h.w)
  · exact .str h.kd.sok
  · exact .int
theorem good_tup {α : Type} {n : Nat} {f : α → D} {l : List α} (hl : l.length ≤ 1000000) (h : ∀ x ∈ l, Good n (f x)) : Good (n + 1) (.tup (l.map f)) := .tup (by rw [List.length_map]; exact hl) fun x hx => by
  obtain ⟨y, hy, rfl⟩ := List.mem_map.mp hx
  exact h y hy
theorem good_two {n : Nat} {a b : D} (h1 : Good n a) (h2 : Good n b) : Good (n + 1) (.tup [a, b]) := .tup (by simp) fun x hx => by
  simp only [List.mem_cons, List.not_mem_nil, or_false] at hx
  rcases hx with rfl | rfl
  · exact h1
  · exact h2
/-! ### marks -/
end
end Law
namespace M
open PySem PySem.Spec L2
theorem st3_get1 (o x y z : O) (rest : Sto) : (o :: (rest ++ [x, y, z]))[rest.length + 1]? = some x := by simp
theorem st3_get2 (o x y z : O) (rest : Sto) : (o :: (rest ++ [x, y, z]))[rest.length + 2]? = some y := by
  rw [List.getElem?_cons_succ, List.getElem?_append_right (by omega)]
  simp
theorem st3_get3 (o x y z : O) (rest : Sto) : (o :: (rest ++ [x, y, z]))[rest.length + 3]? = some z := by
  rw [List.getElem?_cons_succ, List.getElem?_append_right (by omega)]
  simp
theorem st3_set1 (o x y z w : O) (rest : Sto) : (o :: (rest ++ [x, y, z])).set (rest.length + 1) w = o :: (rest ++ [w, y, z]) := by
  rw [List.set_cons_succ, List.set_append_right _ _ (by omega)]
  simp
theorem st3_set2 (o x y z w : O) (rest : Sto) : (o :: (rest ++ [x, y, z])).set (rest.length + 2) w = o :: (rest ++ [x, w, z]) := by
  rw [List.set_cons_succ, List.set_append_right _ _ (by omega)]
  simp
theorem st3_set3 (o x y z w : O) (rest : Sto) : (o :: (rest ++ [x, y, z])).set (rest.length + 3) w = o :: (rest ++ [x, y, w]) := by
  rw [List.set_cons_succ, List.set_append_right _ _ (by omega)]
  simp
theorem Flat.three {rest : Sto} {x y z : O} (h : Flat rest) (a : flatO x = true) (b : flatO y = true) (c : flatO z = true) : Flat (rest ++ [x, y, z]) := fun o ho => by
  rcases List.mem_append.mp ho with ho | ho
  · exact h o ho
  · simp only [List.mem_cons, List.not_mem_nil, or_false] at ho
    rcases ho with rfl | rfl | rfl <;> assumption
theorem erase_map {α β : Type} (f : α → β) : ∀ (l : List α) (k : Nat), (l.map f).eraseIdx k = (l.eraseIdx k).map f
  | [], _ => rfl
  | _ :: _, 0 => rfl
  | x :: l, k + 1 => by
    show f x :: (l.map f).eraseIdx k = f x :: (l.eraseIdx k).map f
    rw [erase_map f l k]
end M
namespace Law
open PySem PySem.Spec L2 M
section
variable {ns : List Int} {row : List D} {rest : Sto} {ρ : M.Env} {st : Sto} {rs : List R} {dep : Deps} {n : Nat}
theorem check2 {A B : Den} {d : D} {st1 st2 : Sto} (hg : Good 9 d) (hA : A ρ st = .ok d st1) (hB : B ρ st1 = .ok d st2) : sIf (eNot (eB (eCall 2 (dn__law_alike 10) (eCons A (eCons B eNil))))) (sRet (eC (.bl false))) sNil ρ st = .next ρ st2 := by
  have e := alike_refl 9 d hg
  simp only [sIf, sOf, eNot, eB, eCall, eCons, hA, hB, eNil, Res.bind, List.length_cons, List.length_nil, Nat.zero_add, Nat.reduceAdd, if_true, List.map_cons, List.map_nil, e, Bool.not_true, Bool.false_eq_true, if_false, sNil]
theorem s2_ok (h1 : ρ[1]? = some (some (.r 0))) (hr : RowOk ns row) (hf : Flat rest) : ∃ (rs : List R) (row' : List D), Rows rs ∧ rs.length ≤ 25 ∧ RowOk ns row' ∧ dn_law_s2 ρ (.lst row :: rest) = .next (ρ.set 3 (some (.p (.tup (rs.map R.e))))) (.lst row' :: rest) := by
  have z2 : 2 ≤ sizeLine := sz (by omega)
  obtain ⟨d, row1, hr1, hd, e1⟩ := pick_ok (ds := [.int 5, .int 25]) hr hf (by simp) (by simp)
  obtain ⟨n, hn, rfl⟩ : ∃ n : Nat, n ≤ 25 ∧ d = .int (n : Nat) := by
    simp only [List.mem_cons, List.not_mem_nil, or_false] at hd
    rcases hd with rfl | rfl
    · exact ⟨5, by omega, rfl⟩
    · exact ⟨25, by omega, rfl⟩
  obtain ⟨rs, row2, H, hl, hr2, e2⟩ := law_rows_ok (most := n) (by omega) hr1 hf
  refine ⟨rs, row2, H, by omega, hr2, ?_⟩
  simp [dn_law_s2, h1, z2, e1, e2]
theorem s4_ok (H : Rows rs) (hlen : ρ.length = 20) (h1 : ρ[1]? = some (some (.r 0))) (h3 : At ρ 3 (.tup (rs.map R.e))) (h4 : ρ[4]? = some (some (.r (rest.length + 1)))) (hr : RowOk ns row) (hf : Flat rest) :
    ∃ (ρ' : M.Env) (row' : List D) (dep : Deps), Agr [5] ρ ρ' ∧ RowOk ns row' ∧ Dep dep ∧ dn_law_s4 ρ (.lst row :: (rest ++ [.dic []])) = .next ρ' (.lst row' :: (rest ++ [.dic (encM dep)])) := by
  have ct := cutD_takeG (rs.map R.e) 3
  rw [← List.map_take] at ct
  obtain ⟨ρ', st', e6, ag, row2, dep, hr2, Hd, hdl, h2⟩ := forL_ix (g := gN 5) (fb := dn_law_s3) R.e (rs.take 3) (fun i ρ' st => Agr [5] ρ ρ' ∧ ∃ row dep, RowOk ns row ∧ Dep dep ∧ dep.length ≤ i ∧ st = .lst row :: (rest ++ [.dic (encM dep)]))
    (ρ := ρ) (st := .lst row :: (rest ++ [.dic []])) ⟨Agr.refl, row, [], hr, ⟨by simp, by simp, by simp, by simp⟩, by simp, rfl⟩ (by
      rintro i r ρ1 st hx ⟨ag, row, dep, hr, Hd, hdl, rfl⟩
      have hi : i < 3 := by
        have := (List.getElem?_eq_some_iff.mp hx).1
        rw [List.length_take] at this
        omega
      have hrm : r ∈ rs := List.mem_of_mem_take (List.mem_of_getElem? hx)
      have l1 : ρ1.length = 20 := ag.1.trans hlen
      obtain ⟨v, row', hr', v0, v1, e⟩ := taken (m := 100) hr (hf.app (o := .dic (encM dep)) rfl) (by omega) (by omega)
      obtain ⟨dep', Hd', hdl', ep⟩ := putM dep Hd (by omega) (H.ok r hrm).kd v0 (show v ≤ 99 by omega)
      have g1 : (ρ1.set 5 (some (.p r.e)))[1]? = some (some (.r 0)) := by rw [gset (by decide)]; exact (ag.2 1 (by decide)).trans h1
      have g4 : (ρ1.set 5 (some (.p r.e)))[4]? = some (some (.r (rest.length + 1))) := by rw [gset (by decide)]; exact (ag.2 4 (by decide)).trans h4
      have g5 : (ρ1.set 5 (some (.p r.e)))[5]? = some (some (.p r.e)) := by (first | assumption | (((try simp only [At, wipeE]); (repeat rw [gset (by decide)])); first | assumption | (rw [gself (by (try simp only [List.length_set]); omega)])) | (simp only [wipeE, List.length_set]; omega))
      refine ⟨_, ρ1.set 5 (some (.p r.e)), .lst row' :: (rest ++ [.dic (encM dep')]), rfl, .inl ?_, ag.set (by decide), row', dep', hr', Hd', by omega, rfl⟩
      have a1 : ∀ r : List D, (O.lst r :: (rest ++ [.dic (encM dep)]))[rest.length + 1]? = some (.dic (encM dep)) := fun r => at_end _ _ _
      have lz : (encM dep).length < sizeLine := szlt (by unfold encM; rw [List.length_map]; omega)
      simp only [dn_law_s3, sPutK, sOf, eCallS, aRef, g1, aVal, eC, aNil, Res.bind, List.length_cons, List.length_nil, Nat.zero_add, Nat.reduceAdd, if_true, e, dicAt, g4, a1, eOp2P, eVarB, g5, (ix_e r).2.2.2.2.1, putKAt, kOf, lz, ep, set_end])
  subst h2
  refine ⟨ρ', row2, dep, ag, hr2, Hd, ?_⟩
  have h3' : ρ[3]? = some (some (.p (.tup (rs.map R.e)))) := h3
  have ct' : dCut (.tup (rs.map R.e)) none (some 3) = some (.tup ((rs.take 3).map R.e)) := by
    unfold dCut
    simp only
    rw [← ct]
    rfl
  simp only [dn_law_s4, sFor, sOf, iSeq, eCut, eVar, h3', Res.bind, eSo, eC, eNo, ct', itemsOf]
  exact e6
theorem s5_ok (hlen : ρ.length = 20) (hl : rs.length ≤ 25) (h3 : At ρ 3 (.tup (rs.map R.e))) : dn_law_s5 ρ (.lst row :: (rest ++ [.dic (encM dep)])) = .next ((ρ.set 15 (some (.r (rest.length + 2)))).set 7 (some (.r (rest.length + 3)))) (.lst row :: (rest ++ [.dic (encM dep), .lst (rs.map R.e), .lst []])) := by
  have h3' : ρ[3]? = some (some (.p (.tup (rs.map R.e)))) := h3
  simp [dn_law_s5, h3', lstO, setAll]
theorem s7_ok (hlen : ρ.length = 20) (hl : rs.length ≤ 25) (h1 : ρ[1]? = some (some (.r 0))) (h3 : At ρ 3 (.tup (rs.map R.e))) (h15 : ρ[15]? = some (some (.r (rest.length + 2)))) (h7 : ρ[7]? = some (some (.r (rest.length + 3)))) (hr : RowOk ns row) (hf : Flat rest) :
    ∃ (ρ' : M.Env) (row' : List D) (ot : List R), Agr [6] ρ ρ' ∧ RowOk ns row' ∧ ot.Perm rs ∧ dn_law_s7 ρ (.lst row :: (rest ++ [.dic (encM dep), .lst (rs.map R.e), .lst []])) = .next ρ' (.lst row' :: (rest ++ [.dic (encM dep), .lst [], .lst (ot.map R.e)])) := by
  obtain ⟨ρ', st', e7, ag, row2, lf, ot, hr2, pm, hol, h2⟩ := forL_ix (g := gN 6) (fb := dn_law_s6) (fun i : Nat => D.int (i : Nat)) (List.range rs.length) (fun i ρ' st => Agr [6] ρ ρ' ∧ ∃ row lf ot, RowOk ns row ∧ (ot ++ lf).Perm rs ∧ ot.length = i ∧ st = .lst row :: (rest ++ [.dic (encM dep), .lst (lf.map R.e), .lst (ot.map R.e)]))
    (ρ := ρ) (st := .lst row :: (rest ++ [.dic (encM dep), .lst (rs.map R.e), .lst []])) ⟨Agr.refl, row, rs, [], hr, .refl _, rfl, rfl⟩ (by
      rintro i x ρ1 st hx ⟨ag, row, lf, ot, hr, pm, hol, rfl⟩
      have hi : i < rs.length := by
        have := (List.getElem?_eq_some_iff.mp hx).1
        rw [List.length_range] at this
        exact this
      have l1 : ρ1.length = 20 := ag.1.trans hlen
      have hlf : lf.length + i = rs.length := by
        have := pm.length_eq
        rw [List.length_append] at this
        omega
      obtain ⟨v, row', hr', v0, v1, e⟩ := taken (m := lf.length) (rest := rest ++ [.dic (encM dep), .lst (lf.map R.e), .lst (ot.map R.e)]) hr (hf.three rfl rfl rfl) (by omega) (by omega)
      obtain ⟨k, rfl⟩ := Int.eq_ofNat_of_zero_le v0
      have hk : k < lf.length := by omega
      have g1 : (ρ1.set 6 (some (.p (.int (x : Nat)))))[1]? = some (some (.r 0)) := by rw [gset (by decide)]; exact (ag.2 1 (by decide)).trans h1
      have g7 : (ρ1.set 6 (some (.p (.int (x : Nat)))))[7]? = some (some (.r (rest.length + 3))) := by rw [gset (by decide)]; exact (ag.2 7 (by decide)).trans h7
      have g15 : (ρ1.set 6 (some (.p (.int (x : Nat)))))[15]? = some (some (.r (rest.length + 2))) := by rw [gset (by decide)]; exact (ag.2 15 (by decide)).trans h15
      have gk : lf[k]? = some lf[k] := List.getElem?_eq_getElem hk
      have hix : ixN (lf.map R.e).length (k : Nat) = some k := by
        unfold ixN
        rw [List.length_map, if_pos (by omega), if_pos (by omega)]
        simp
      have hgk : (lf.map R.e)[k]? = some lf[k].e := by rw [List.getElem?_map, gk]; rfl
      have hlz : (lf.map R.e).length ≤ 1000000 := by rw [List.length_map]; omega
      have hoz : (ot.map R.e).length < sizeLine := szlt (by rw [List.length_map]; omega)
      refine ⟨_, ρ1.set 6 (some (.p (.int (x : Nat)))), .lst row' :: (rest ++ [.dic (encM dep), .lst ((lf.eraseIdx k).map R.e), .lst ((ot ++ [lf[k]]).map R.e)]), rfl, .inl ?_, ag.set (by decide), row', lf.eraseIdx k, ot ++ [lf[k]], hr', ?_, by simp [hol], rfl⟩
      · have el : dLen (.lst (lf.map R.e)) = some (.int (lf.length : Nat)) := by unfold dLen; simp
        have ep : ePopAt 15 (eCallS 2 dn__law_taken (aRef 1 (aVal (eOp1 dLen (eVarB 15)) aNil))) (ρ1.set 6 (some (.p (.int (x : Nat))))) (.lst row :: (rest ++ [.dic (encM dep), .lst (lf.map R.e), .lst (ot.map R.e)])) = .ok lf[k].e (.lst row' :: (rest ++ [.dic (encM dep), .lst ((lf.eraseIdx k).map R.e), .lst (ot.map R.e)])) := by
          simp only [ePopAt, lstAt, g15, st3_get2, eCallS, aRef, g1, aVal, eOp1, eVarB, Option.bind_some, thaw, Res.bind, el, aNil, List.length_cons, List.length_nil, Nat.zero_add, Nat.reduceAdd, if_true, e, popAt, hix, hgk, hlz, st3_set2, erase_map]
        simp only [dn_law_s6, sMut1, lstAt, g7, st3_get3, sOf, ep, kApp, hoz, if_true, st3_set3, List.map_append, List.map_cons, List.map_nil]
      · have p1 := erase_perm lf k lf[k] gk
        rw [List.append_assoc]
        exact ((p1.append_left ot)).trans pm)
  subst h2
  rw [List.length_range] at hol
  have hlf : lf = [] := by
    have := pm.length_eq
    rw [List.length_append] at this
    exact List.length_eq_zero_iff.mp (by omega)
  subst hlf
  rw [List.append_nil] at pm
  refine ⟨ρ', row2, ot, ag, hr2, pm, ?_⟩
  have h3' : ρ[3]? = some (some (.p (.tup (rs.map R.e)))) := h3
  have hb : bigR ((rs.length : Nat) : Int) = true := bigR_of (by omega) (by omega)
  have e7' := e7
  rw [← rngL0] at e7'
  have el : dLen (.tup (rs.map R.e)) = some (.int (rs.length : Nat)) := by unfold dLen; simp
  simp only [dn_law_s7, sFor, sOf, iRange1, eOp1, eVar, h3', Res.bind, el, hb, if_true, Int.toNat_natCast]
  exact e7'
theorem s8_ok (hlen : ρ.length = 20) (hl : rs.length ≤ 25) {ot : List R} (hol : ot.length ≤ 25) (h1 : ρ[1]? = some (some (.r 0))) (h3 : At ρ 3 (.tup (rs.map R.e))) (h7 : ρ[7]? = some (some (.r (rest.length + 3)))) (hr : RowOk ns row) (hf : Flat rest) :
    ∃ (k : Nat) (row' : List D), k ≤ 2 ∧ RowOk ns row' ∧ dn_law_s8 ρ (.lst row :: (rest ++ [.dic (encM dep), .lst [], .lst (ot.map R.e)])) = .next (ρ.set 7 (some (.p (.tup ((ot ++ rs.take k).map R.e))))) (.lst row' :: (rest ++ [.dic (encM dep), .lst [], .lst (ot.map R.e)])) := by
  obtain ⟨v, row', hr', v0, v1, e⟩ := taken (m := 3) (rest := rest ++ [.dic (encM dep), .lst [], .lst (ot.map R.e)]) hr (hf.three rfl rfl rfl) (by omega) (by omega)
  obtain ⟨k, rfl⟩ := Int.eq_ofNat_of_zero_le v0
  refine ⟨k, row', by omega, hr', ?_⟩
  have ct := cutD_takeG (rs.map R.e) k
  rw [← List.map_take] at ct
  have ct' : dCut (.tup (rs.map R.e)) none (some (k : Nat)) = some (.tup ((rs.take k).map R.e)) := by
    unfold dCut
    simp only [ct]
  have h3' : ρ[3]? = some (some (.p (.tup (rs.map R.e)))) := h3
  have hz : (ot.map R.e).length + ((rs.take k).map R.e).length ≤ sizeLine := sz (by rw [List.length_map, List.length_map, List.length_take]; omega)
  simp only [dn_law_s8, sSet, sOf, eOp2, eOp1, eVarB, h7, st3_get3, Option.bind_some, thaw, Res.bind, dTuple, eCut, eVar, h3', eNo, eSo, eCallS, aRef, h1, aVal, eC, aNil, List.length_cons, List.length_nil, Nat.zero_add, Nat.reduceAdd, if_true, e, ct', dAdd, hz, List.map_append]
theorem good_dues (H : Rows rs) (dep : Deps) : Good 8 (.tup ((duesL rs dep).map encPr)) := good_tup (n := 7) (by unfold duesL; rw [List.length_map]; have := houses_len H; omega) fun p hp => by
  obtain ⟨h, hh, rfl⟩ := List.mem_map.mp hp
  exact good_two (n := 6) (.str (houses_ok H hh).sok) .int
theorem s9_ok (H : Rows rs) (Hd : Dep dep) {other : List R} (H2 : Rows other) (hm : ∀ r, r ∈ other ↔ r ∈ rs) (h3 : At ρ 3 (.tup (rs.map R.e))) (h4 : ρ[4]? = some (some (.r n))) (h7 : At ρ 7 (.tup (other.map R.e))) (f : FzAt st n (.dic (encM dep))) :
    dn_law_s9 ρ st = .next ρ (st.set n (.frz (.dic (encM dep)))) := by
  have hs : stand rs = stand other := stand_congr H H2 fun r => (hm r).symm
  have e0 : duesL other dep = duesL rs dep := by unfold duesL houses housesTo; rw [hs]
  have h3' : ρ[3]? = some (some (.p (.tup (rs.map R.e)))) := h3
  have h7' : ρ[7]? = some (some (.p (.tup (other.map R.e)))) := h7
  have e3 : ∀ st : Sto, eVar 3 ρ st = .ok (.tup (rs.map R.e)) st := fun st => by simp only [eVar, h3']
  have e7 : ∀ st : Sto, eVar 7 ρ st = .ok (.tup (other.map R.e)) st := fun st => by simp only [eVar, h7']
  have ev := f.var h4
  obtain ⟨o, o1, _⟩ := f
  have hlt := (List.getElem?_eq_some_iff.mp o1).1
  have ev2 : eVar 4 ρ (st.set n (.frz (.dic (encM dep)))) = .ok (.dic (encM dep)) (st.set n (.frz (.dic (encM dep)))) := by
    have := FzAt.var (ρ := ρ) (i := 4) (st := st.set n (.frz (.dic (encM dep)))) (d := .dic (encM dep)) (n := n) ⟨_, List.getElem?_set_self hlt, rfl⟩ h4
    rw [List.set_set] at this
    exact this
  have a1 := are_alike_ok H H2
  rw [decide_eq_true hs] at a1
  have d1 := dues_ok H Hd
  have d2 := dues_ok H2 Hd
  have k1 := held_ok H Hd
  have k2 := held_ok H2 Hd
  rw [e0] at d2 k2
  have z2 : 2 ≤ sizeLine := sz (by omega)
  have al := alike_refl 9 (.tup [.tup ((duesL rs dep).map encPr), .int (0 - ((duesL rs dep).map (·.2)).sum)]) (good_two (good_dues H dep) .int)
  have dn : dIsNot (.bl true) (.bl true) = some (.bl false) := rfl
  simp only [dn_law_s9, sIf, sOf, eOr, eNot, eB, eOp2, eCall, eCons, e3, e7, eNil, Res.bind, List.length_cons, List.length_nil, Nat.zero_add, Nat.reduceAdd, if_true, List.map_cons, List.map_nil, a1, eC, dn, Bool.false_eq_true, if_false, eTup, ev, ev2, d1, d2, k1, k2, z2, al, Bool.not_true, sNil]
theorem s10_ok (h3 : At ρ 3 (.tup (rs.map R.e))) : dn_law_s10 ρ st = .next (ρ.set 8 (some (.p (.tup (rs.tail.map R.e))))) st := by
  have h3' : ρ[3]? = some (some (.p (.tup (rs.map R.e)))) := h3
  have ct : dCut (.tup (rs.map R.e)) (some 1) none = some (.tup (rs.tail.map R.e)) := by
    unfold dCut
    simp only [cutD_tail, List.map_tail]
  simp only [dn_law_s10, sSet, sOf, eCut, eVar, h3', Res.bind, eSo, eC, eNo, ct]
theorem s11_ok (H : Rows rs) (H2 : Rows rs.tail) (h3 : At ρ 3 (.tup (rs.map R.e))) (h8 : At ρ 8 (.tup (rs.tail.map R.e))) : dn_law_s11 ρ st = .next ρ st := by
  have h3' : ρ[3]? = some (some (.p (.tup (rs.map R.e)))) := h3
  have h8' : ρ[8]? = some (some (.p (.tup (rs.tail.map R.e)))) := h8
  have a1 := are_alike_ok H H2
  have l1 := law_standing_ok H
  have l2 := law_standing_ok H2
  have de : dEq (.lst ((stand rs).map R.e)) (.lst ((stand rs.tail).map R.e)) = some (.bl (decide (stand rs = stand rs.tail))) := by
    unfold dEq
    rw [flat_lst, flat_lst, flats_e (fun r hr => stand_ok H hr) 58, flats_e (fun r hr => stand_ok H2 hr) 58, eqv_ll, eqvs_e]
    rfl
  refine check2 (d := .bl (decide (stand rs = stand rs.tail))) (st1 := st) .bl ?_ ?_
  · simp only [eCall, eCons, eVar, h3', h8', eNil, Res.bind, List.length_cons, List.length_nil, Nat.zero_add, Nat.reduceAdd, if_true, List.map_cons, List.map_nil, a1]
  · simp only [eOp2, eCall, eCons, eVar, h3', h8', eNil, Res.bind, List.length_cons, List.length_nil, Nat.zero_add, Nat.reduceAdd, if_true, List.map_cons, List.map_nil, l1, l2, de]
end
end Law
namespace Law
open PySem PySem.Spec L2 M
/-! ### sums by houses -/
def addS (sm : Deps) (h : PySem.Str) (v : Int) : Deps := if h ∈ sm.map (·.1) then sm.map (fun p => if p.1 = h then (p.1, mon sm h + v) else p) else sm ++ [(h, mon sm h + v)]
theorem put_addS (sm : Deps) (h : PySem.Str) (v : Int) : putD (encM sm) (.str h) (.int (mon sm h + v)) = encM (addS sm h v) := by
  unfold putD addS
  have ha : ((encM sm).any fun p => keq p.1 (.str h)) = decide (h ∈ sm.map (·.1)) := by
    unfold encM
    rw [List.any_map, Bool.eq_iff_iff, List.any_eq_true, decide_eq_true_eq, List.mem_map]
    constructor
    · rintro ⟨p, hp, e⟩
      exact ⟨p, hp, of_decide_eq_true (show decide (p.1 = h) = true from e)⟩
    · rintro ⟨p, hp, e⟩
      exact ⟨p, hp, show decide (p.1 = h) = true from decide_eq_true e⟩
  rw [ha]
  by_cases q : h ∈ sm.map (·.1)
  · rw [if_pos (decide_eq_true q), if_pos q]
    unfold encM
    rw [List.map_map, List.map_map]
    apply List.map_congr_left
    intro p _
    by_cases e : p.1 = h <;> simp [keq, e]
  · rw [if_neg (by simpa using q), if_neg q]
    simp [encM]
theorem mon_repl (h x : PySem.Str) (z : Int) : ∀ sm : Deps, mon (sm.map fun p => if p.1 = h then (p.1, z) else p) x = if x = h ∧ h ∈ sm.map (·.1) then z else mon sm x
  | [] => by simp [mon]
  | p :: sm => by
    rw [List.map_cons]
    unfold mon
    rw [mon_repl h x z sm]
    by_cases e : p.1 = h
    · simp only [e, if_true]
      by_cases q : h = x
      · subst q; simp [e]
      · have q2 : ¬ x = h := fun z => q z.symm
        simp [q, q2]
    · simp only [e, if_false]
      by_cases q : p.1 = x
      · have q2 : ¬ x = h := fun z => e (q.trans z)
        simp [q, q2]
      · have e2 : ¬ h = p.1 := fun z => e z.symm
        rw [if_neg q, if_neg q, List.map_cons]
        simp only [List.mem_cons, e2, false_or]
theorem mon_app (h x : PySem.Str) (z : Int) : ∀ sm : Deps, h ∉ sm.map (·.1) → mon (sm ++ [(h, z)]) x = if x = h then z else mon sm x
  | [], _ => by
    show (if h = x then z else 0) = if x = h then z else 0
    by_cases q : h = x
    · subst q; rfl
    · have q2 : ¬ x = h := fun z => q z.symm
      rw [if_neg q, if_neg q2]
  | p :: sm, hn => by
    rw [List.map_cons, List.mem_cons, not_or] at hn
    rw [List.cons_append]
    unfold mon
    rw [mon_app h x z sm hn.2]
    by_cases q : p.1 = x
    · have q2 : ¬ x = h := fun z => hn.1 (z.symm.trans q.symm)
      simp [q, q2]
    · simp [q]
theorem mon_off {x : PySem.Str} : ∀ {sm : Deps}, x ∉ sm.map (·.1) → mon sm x = 0
  | [], _ => rfl
  | p :: sm, h => by
    rw [List.map_cons, List.mem_cons, not_or] at h
    unfold mon
    rw [if_neg fun e => h.1 e.symm]
    exact mon_off h.2
theorem mon_addS (sm : Deps) (h x : PySem.Str) (v : Int) : mon (addS sm h v) x = mon sm x + if x = h then v else 0 := by
  unfold addS
  by_cases q : h ∈ sm.map (·.1)
  · rw [if_pos q, mon_repl]
    by_cases e : x = h
    · subst e; simp [q]
    · simp [e]
  · rw [if_neg q, mon_app _ _ _ _ q]
    by_cases e : x = h
    · subst e; simp
    · simp [e]
theorem keys_addS (sm : Deps) (h : PySem.Str) (v : Int) : (addS sm h v).map (·.1) = if h ∈ sm.map (·.1) then sm.map (·.1) else sm.map (·.1) ++ [h] := by
  unfold addS
  split
  · rw [List.map_map]
    apply List.map_congr_left
    intro p _
    simp only [Function.comp]
    split <;> rfl
  · simp
def foldS (dep : Deps) (sg : Int) (l : List R) (sm : Deps) : Deps := l.foldl (fun sm r => addS sm r.h (sg * dueT dep r)) sm
theorem foldS_spec (dep : Deps) (sg : Int) : ∀ (l : List R) (sm : Deps), (sm.map (·.1)).Nodup → ((foldS dep sg l sm).map (·.1)).Nodup ∧ (∀ x, x ∈ (foldS dep sg l sm).map (·.1) ↔ x ∈ sm.map (·.1) ∨ ∃ r ∈ l, r.h = x) ∧ (∀ x, mon (foldS dep sg l sm) x = mon sm x + sg * dueOf l dep x) ∧ (foldS dep sg l sm).length ≤ sm.length + l.length
  | [], sm, h => ⟨h, by simp [foldS], fun x => by simp [foldS, dueOf], by simp [foldS]⟩
  | r :: l, sm, h => by
    have hk := keys_addS sm r.h (sg * dueT dep r)
    have nd1 : ((addS sm r.h (sg * dueT dep r)).map (·.1)).Nodup := by
      rw [hk]
      split
      · exact h
      · rename_i q
        rw [List.nodup_append]
        exact ⟨h, by simp, fun a ha b hb e => by
          rw [List.mem_singleton.mp hb] at e
          exact q (e ▸ ha)⟩
    obtain ⟨i1, i2, i3, i4⟩ := foldS_spec dep sg l _ nd1
    have e : foldS dep sg (r :: l) sm = foldS dep sg l (addS sm r.h (sg * dueT dep r)) := rfl
    rw [e]
    refine ⟨i1, fun x => ?_, fun x => ?_, ?_⟩
    · rw [i2, hk]
      constructor
      · rintro (q | ⟨s, hs, q⟩)
        · split at q
          · exact .inl q
          · rcases List.mem_append.mp q with q | q
            · exact .inl q
            · exact .inr ⟨r, List.mem_cons_self, (List.mem_singleton.mp q).symm⟩
        · exact .inr ⟨s, List.mem_cons_of_mem _ hs, q⟩
      · rintro (q | ⟨s, hs, q⟩)
        · left
          split
          · exact q
          · exact List.mem_append_left _ q
        · rcases List.mem_cons.mp hs with rfl | hs
          · left
            split
            · rename_i z; exact q ▸ z
            · rw [q]; simp
          · exact .inr ⟨s, hs, q⟩
    · rw [i3, mon_addS]
      unfold dueOf
      rw [List.filter_cons]
      by_cases q : r.h = x
      · simp only [q, decide_true, if_true, List.map_cons, List.sum_cons, Int.mul_add]
        omega
      · have q2 : ¬ x = r.h := fun z => q z.symm
        simp [q, q2]
    · have hl1 : (addS sm r.h (sg * dueT dep r)).length ≤ sm.length + 1 := by
        unfold addS
        split <;> simp
      rw [List.length_cons]
      omega
theorem houses_le (rs : List R) : (stand rs).length ≤ rs.length := by
  obtain ⟨l, p, h⟩ := stand_sub rs
  rw [← p.length_eq]
  exact h
/-- all sums -/
structure Sums (sm : Deps) (a b : List R) (dep : Deps) : Prop where
  nd : (sm.map (·.1)).Nodup
  mem : ∀ x, x ∈ sm.map (·.1) ↔ x ∈ both a b
  val : ∀ x, mon sm x = dlt a b dep x
  len : sm.length ≤ a.length + b.length
theorem sums_of (a b : List R) (dep : Deps) : Sums (foldS dep 1 (stand b) (foldS dep (-1) (stand a) [])) a b dep := by
  obtain ⟨h1, h2, h3, h4⟩ := foldS_spec dep (-1) (stand a) [] .nil
  obtain ⟨g1, g2, g3, g4⟩ := foldS_spec dep 1 (stand b) _ h1
  refine ⟨g1, fun x => ?_, fun x => ?_, ?_⟩
  · rw [g2, h2, both_mem, (houses_spec a).2.2, (houses_spec b).2.2]
    simp
  · rw [g3, h3]
    unfold dlt mon
    omega
  · have := houses_le a
    have := houses_le b
    simp only [List.length_nil] at h4
    omega
theorem keys_look {sm : Deps} (nd : (sm.map (·.1)).Nodup) {x : PySem.Str} (h : x ∈ sm.map (·.1)) : lookD (encM sm) (.str x) = some (.int (mon sm x)) := by
  obtain ⟨p, hp, rfl⟩ := List.mem_map.mp h
  have e := mon_pr nd hp
  have e2 := look_mon p.1 sm
  rw [e] at e2
  rw [e]
  exact congrArg some e2
section
variable {ns : List Int} {row : List D} {rest : Sto} {ρ : M.Env} {st : Sto} {rs : List R} {dep : Deps} {n : Nat}
theorem s17_ok {sm : Deps} {r : R} {sg : Int} (ok : r.Ok) (hsg : sg = 1 ∨ sg = -1) (hl : sm.length ≤ 1000) (h5 : At ρ 5 r.e) (h18 : At ρ 18 (.int sg)) (h4 : ρ[4]? = some (some (.r n))) (h13 : ρ[13]? = some (some (.r st.length))) (f : FzAt st n (.dic (encM dep))) :
    dn_law_s17 ρ (st ++ [.dic (encM sm)]) = .next ρ (st ++ [.dic (encM (addS sm r.h (sg * dueT dep r)))]) := by
  have h5' : ρ[5]? = some (some (.p r.e)) := h5
  have h18' : ρ[18]? = some (some (.p (.int sg))) := h18
  obtain ⟨_, _, i2, i3, i4, i5⟩ := ix_e r
  have ix : ∀ (j : Int) (d : D) (st : Sto), dIx r.e (.int j) = some d → eOp2P dIx 5 (eC (.int j)) ρ st = .ok d st := fun j d st h => by
    simp only [eOp2P, eVarB, h5', Res.bind, eC, h]
  have hb := dEq_str (wok ok.w) o_back
  obtain ⟨o, o1, o2⟩ := f
  have f' : FzAt (st ++ [.dic (encM sm)]) n (.dic (encM dep)) := ⟨o, by rw [List.getElem?_append_left (List.getElem?_eq_some_iff.mp o1).1]; exact o1, o2⟩
  have v4 := f'.varB h4
  have v13 : eVarB 13 ρ (st ++ [.dic (encM sm)]) = .ok (.dic (encM sm)) (st ++ [.dic (encM sm)]) := by
    simp only [eVarB, h13, end_get, Option.bind_some, thaw]
  have e18 : ∀ st : Sto, eVar 18 ρ st = .ok (.int sg) st := fun st => by simp only [eVar, h18']
  have lm := look_mon r.kd dep
  have lm2 := look_mon r.h sm
  have p0 := ok.p0
  have p1 := ok.p1
  have sg1 : small sg = true := small_of (by omega) (by omega)
  have key : ∀ q : Int, (-1000 ≤ q ∧ q ≤ 1000) → dMulS (.int (sg * q)) (.int (mon dep r.kd)) = some (.int (sg * q * mon dep r.kd)) := fun q hq => by
    rw [dMulS_int]
    unfold dMul
    have : small (sg * q) = true := by
      rcases hsg with rfl | rfl <;> exact small_of (by omega) (by omega)
    simp only [this, Bool.true_or, if_true]
  have key1 : ∀ q : Int, dMulS (.int sg) (.int q) = some (.int (sg * q)) := fun q => by
    rw [dMulS_int]
    unfold dMul
    simp only [sg1, Bool.true_or, if_true]
  have ev : eOp2 dAdd (eGet2P 13 (eOp2P dIx 5 (eC (.int 2))) (eC (.int 0))) (eOp2 dMulS (eOp2 dMulS (eVar 18) (eIf (eB (eOp2 dEq (eOp2P dIx 5 (eC (.int 3))) (eC (.str "back")))) (eOp2P dIx 5 (eC (.int 5))) (eOp2 dSub (eC (.int 0)) (eOp2P dIx 5 (eC (.int 5)))))) (eGet2P 4 (eOp2P dIx 5 (eC (.int 4))) (eC (.int 0)))) ρ (st ++ [.dic (encM sm)]) = .ok (.int (mon sm r.h + sg * dueT dep r)) (st ++ [.dic (encM sm)]) := by
    unfold dueT
    rw [← Int.mul_assoc]
    by_cases hw : r.w = "back"
    · rw [decide_eq_true hw] at hb
      rw [if_pos hw]
      simp only [eOp2, eGet2P, v13, Res.bind, ix 2 _ _ i2, eC, kOf, lm2, e18, eIf, eB, ix 3 _ _ i3, hb, if_true, ix 5 _ _ i5, key1, v4, ix 4 _ _ i4, lm, key r.p (by omega), dAdd]
    · rw [decide_eq_false hw] at hb
      rw [if_neg hw]
      simp only [eOp2, eGet2P, v13, Res.bind, ix 2 _ _ i2, eC, kOf, lm2, e18, eIf, eB, ix 3 _ _ i3, hb, Bool.false_eq_true, if_false, ix 5 _ _ i5, dSub, key1, v4, ix 4 _ _ i4, lm, key (0 - r.p) (by omega), dAdd]
  have lz : (encM sm).length < sizeLine := szlt (by unfold encM; rw [List.length_map]; omega)
  simp only [dn_law_s17, sPutK, sOf, ev, dicAt, h13, end_get, ix 2 _ _ i2, putKAt, kOf, lz, if_true, put_addS, end_set]
theorem s18_ok {sm : Deps} {l : List R} {sg : Int} (hok : ∀ r ∈ l, r.Ok) (hsg : sg = 1 ∨ sg = -1) (nd : (sm.map (·.1)).Nodup) (hl : sm.length + l.length ≤ 1000) (hlen : ρ.length = 20) (h19 : At ρ 19 (.lst (l.map R.e))) (h18 : At ρ 18 (.int sg)) (h4 : ρ[4]? = some (some (.r n))) (h13 : ρ[13]? = some (some (.r st.length))) (f : FzAt st n (.dic (encM dep))) :
    ∃ ρ', Agr [5] ρ ρ' ∧ dn_law_s18 ρ (st ++ [.dic (encM sm)]) = .next ρ' (st ++ [.dic (encM (foldS dep sg l sm))]) := by
  obtain ⟨ρ', st', e, ag, h2⟩ := forL_ix (g := gN 5) (fb := dn_law_s17) R.e l (fun i ρ' st' => Agr [5] ρ ρ' ∧ st' = st ++ [.dic (encM (foldS dep sg (l.take i) sm))])
    (ρ := ρ) (st := st ++ [.dic (encM sm)]) ⟨Agr.refl, rfl⟩ (by
      rintro i r ρ1 st1 hx ⟨ag, rfl⟩
      have hm := List.mem_of_getElem? hx
      have ht : l.take (i + 1) = l.take i ++ [r] := by rw [List.take_add_one, hx]; rfl
      have l1 : ρ1.length = 20 := ag.1.trans hlen
      have hll := (foldS_spec dep sg (l.take i) sm nd).2.2.2
      rw [List.length_take] at hll
      have e := s17_ok (ρ := ρ1.set 5 (some (.p r.e))) (st := st) (sm := foldS dep sg (l.take i) sm) (r := r) (sg := sg) (dep := dep) (n := n) (hok r hm) hsg (by omega) (by (first | assumption | (((try simp only [At, wipeE]); (repeat rw [gset (by decide)])); first | assumption | (rw [gself (by (try simp only [List.length_set]); omega)])) | (simp only [wipeE, List.length_set]; omega))) (by simp only [At]; rw [gset (by decide)]; exact (ag.2 18 (by decide)).trans h18) (by rw [gset (by decide)]; exact (ag.2 4 (by decide)).trans h4) (by rw [gset (by decide)]; exact (ag.2 13 (by decide)).trans h13) f
      refine ⟨_, _, _, rfl, .inl e, ag.set (by decide), ?_⟩
      rw [ht]
      unfold foldS
      rw [List.foldl_append]
      rfl)
  subst h2
  rw [List.take_length] at e
  have h19' : ρ[19]? = some (some (.p (.lst (l.map R.e)))) := h19
  refine ⟨ρ', ag, ?_⟩
  simp only [dn_law_s18, sFor, sOf, iSeq, eVar, h19', Res.bind, itemsOf]
  exact e
theorem s19_ok {r : R} (H : Rows rs) (H2 : Rows (rs ++ [r])) (hlen : ρ.length = 20) (h3 : At ρ 3 (.tup (rs.map R.e))) (h12 : At ρ 12 r.e) (h4 : ρ[4]? = some (some (.r n))) (h13 : ρ[13]? = some (some (.r st.length))) (f : FzAt st n (.dic (encM dep))) :
    ∃ ρ' sm, Agr [5, 18, 19] ρ ρ' ∧ Sums sm rs (rs ++ [r]) dep ∧ dn_law_s19 ρ (st ++ [.dic []]) = .next ρ' (st ++ [.dic (encM sm)]) := by
  have hl := H.len
  have l1 := stand_len H
  have l2 := stand_len H2
  have h3' : ρ[3]? = some (some (.p (.tup (rs.map R.e)))) := h3
  have h12' : ρ[12]? = some (some (.p r.e)) := h12
  have z1 : 1 ≤ sizeLine := sz (by omega)
  have z2 : 2 ≤ sizeLine := sz (by omega)
  have e0 : iSeq (eLst (eCons (eTup (eCons (eOp1 dNeg (eC (.int 1))) (eCons (eCall 1 dn__law_standing (eCons (eVar 3) eNil)) eNil))) (eCons (eTup (eCons (eC (.int 1)) (eCons (eCall 1 dn__law_standing (eCons (eOp2 dAdd (eVar 3) (eTup (eCons (eVar 12) eNil))) eNil)) eNil))) eNil))) ρ (st ++ [.dic []]) = .ok [.tup [.int (-1), .lst ((stand rs).map R.e)], .tup [.int 1, .lst ((stand (rs ++ [r])).map R.e)]] (st ++ [.dic []]) := by
    simp only [iSeq, eLst, eTup, eCons, eOp1, eOp2, eCall, eC, dNeg, eVar, h3', h12', eNil, Res.bind, List.length_cons, List.length_nil, Nat.zero_add, Nat.reduceAdd, if_true, List.map_cons, List.map_nil, law_standing_ok H, z1, z2, snoc_e rs r hl, law_standing_ok H2, itemsOf]
  have g1 : gT (gsCons (gN 18) (gsCons (gN 19) gsNil)) 2 (.tup [.int (-1), .lst ((stand rs).map R.e)]) ρ = some ((ρ.set 18 (some (.p (.int (-1))))).set 19 (some (.p (.lst ((stand rs).map R.e))))) := rfl
  obtain ⟨nd1, _, _, ln1⟩ := foldS_spec dep (-1) (stand rs) [] .nil
  simp only [List.length_nil] at ln1
  obtain ⟨ρ1, a1, e1⟩ := s18_ok (ρ := (ρ.set 18 (some (.p (.int (-1))))).set 19 (some (.p (.lst ((stand rs).map R.e))))) (sm := []) (l := stand rs) (sg := -1) (dep := dep) (n := n) (st := st) (fun q hq => stand_ok H hq) (.inr rfl) .nil (by simp; omega) (by (first | assumption | (((try simp only [At, wipeE]); (repeat rw [gset (by decide)])); first | assumption | (rw [gself (by (try simp only [List.length_set]); omega)])) | (simp only [wipeE, List.length_set]; omega))) (by (first | assumption | (((try simp only [At, wipeE]); (repeat rw [gset (by decide)])); first | assumption | (rw [gself (by (try simp only [List.length_set]); omega)])) | (simp only [wipeE, List.length_set]; omega))) (by (first | assumption | (((try simp only [At, wipeE]); (repeat rw [gset (by decide)])); first | assumption | (rw [gself (by (try simp only [List.length_set]); omega)])) | (simp only [wipeE, List.length_set]; omega))) (by (first | assumption | (((try simp only [At, wipeE]); (repeat rw [gset (by decide)])); first | assumption | (rw [gself (by (try simp only [List.length_set]); omega)])) | (simp only [wipeE, List.length_set]; omega))) (by (first | assumption | (((try simp only [At, wipeE]); (repeat rw [gset (by decide)])); first | assumption | (rw [gself (by (try simp only [List.length_set]); omega)])) | (simp only [wipeE, List.length_set]; omega))) f
  rw [show encM [] = [] from rfl] at e1
  have b1 : Agr [5, 18, 19] ρ ρ1 := ((Agr.refl.set (by decide)).set (by decide)).trans (a1.mono (by decide))
  have lr1 : ρ1.length = 20 := b1.1.trans hlen
  have g2 : gT (gsCons (gN 18) (gsCons (gN 19) gsNil)) 2 (.tup [.int 1, .lst ((stand (rs ++ [r])).map R.e)]) ρ1 = some ((ρ1.set 18 (some (.p (.int 1)))).set 19 (some (.p (.lst ((stand (rs ++ [r])).map R.e))))) := rfl
  have c4 : ρ1[4]? = some (some (.r n)) := (b1.2 4 (by decide)).trans h4
  have c13 : ρ1[13]? = some (some (.r st.length)) := (b1.2 13 (by decide)).trans h13
  obtain ⟨ρ2, a2, e2⟩ := s18_ok (ρ := (ρ1.set 18 (some (.p (.int 1)))).set 19 (some (.p (.lst ((stand (rs ++ [r])).map R.e))))) (sm := foldS dep (-1) (stand rs) []) (l := stand (rs ++ [r])) (sg := 1) (dep := dep) (n := n) (st := st) (fun q hq => stand_ok H2 hq) (.inl rfl) nd1 (by omega) (by (first | assumption | (((try simp only [At, wipeE]); (repeat rw [gset (by decide)])); first | assumption | (rw [gself (by (try simp only [List.length_set]); omega)])) | (simp only [wipeE, List.length_set]; omega))) (by (first | assumption | (((try simp only [At, wipeE]); (repeat rw [gset (by decide)])); first | assumption | (rw [gself (by (try simp only [List.length_set]); omega)])) | (simp only [wipeE, List.length_set]; omega))) (by (first | assumption | (((try simp only [At, wipeE]); (repeat rw [gset (by decide)])); first | assumption | (rw [gself (by (try simp only [List.length_set]); omega)])) | (simp only [wipeE, List.length_set]; omega))) (by (first | assumption | (((try simp only [At, wipeE]); (repeat rw [gset (by decide)])); first | assumption | (rw [gself (by (try simp only [List.length_set]); omega)])) | (simp only [wipeE, List.length_set]; omega))) (by (first | assumption | (((try simp only [At, wipeE]); (repeat rw [gset (by decide)])); first | assumption | (rw [gself (by (try simp only [List.length_set]); omega)])) | (simp only [wipeE, List.length_set]; omega))) f
  refine ⟨ρ2, _, ((b1.set (by decide)).set (by decide)).trans (a2.mono (by decide)), sums_of rs (rs ++ [r]) dep, ?_⟩
  simp only [dn_law_s19, sFor, sOf, e0]
  rw [forL_cons g1 e1, forL_cons g2 e2]
  rfl
theorem strKeys_enc (sm : Deps) : strKeys (encM sm) = some (sm.map (·.1)) := by
  induction sm with
  | nil => rfl
  | cons p sm ih =>
    show ((strKeys (encM sm)).map fun l => p.1 :: l) = _
    rw [ih]; rfl
theorem s20_ok {r : R} {sm : Deps} (S : Sums sm rs (rs ++ [r]) dep) (hl : rs.length ≤ 25) (hlen : ρ.length = 20) (h13 : ρ[13]? = some (some (.r st.length))) :
    dn_law_s20 ρ (st ++ [.dic (encM sm)]) = .next (ρ.set 14 (some (.p (.tup ((chgL rs (rs ++ [r]) dep (uni rs (rs ++ [r]))).map encPr))))) (st ++ [.dic (encM sm)]) := by
  have hsl := S.len
  rw [List.length_append, List.length_singleton] at hsl
  have hul : (uni rs (rs ++ [r])).length = sm.length := by
    unfold uni
    rw [(sortS_perm _).length_eq, ← List.length_map (f := fun p : PySem.Str × Int => p.1) (as := sm)]
    exact (perm_of_mem (both_nd _ _) S.nd fun x => (S.mem x).symm).length_eq
  have hsrt : dSortedS (.dic (encM sm)) = some (.lst ((uni rs (rs ++ [r])).map D.str)) := by
    unfold dSortedS
    have h64 : (sm.map (·.1)).length < 64 := by rw [List.length_map]; omega
    simp only [strKeys_enc, h64, if_true, sortD_strs]
    rw [show sortS (sm.map (·.1)) = uni rs (rs ++ [r]) from sortS_congr (perm_of_mem S.nd (both_nd _ _) S.mem)]
  have lk : ∀ h ∈ uni rs (rs ++ [r]), lookD (encM sm) (.str h) = some (.int (dlt rs (rs ++ [r]) dep h)) := fun h hh => by
    rw [keys_look S.nd ((S.mem h).mpr (both_mem.mpr (uni_mem.mp hh))), S.val]
  have hc := compL_map (g := gN 16) (ft := dn_law_t2) (fe := dn_law_e1) (ρ := wipeE ρ [16]) (st := st ++ [.dic (encM sm)]) D.str (fun h => !decide (dlt rs (rs ++ [r]) dep h = 0)) (fun h => encPr (h, dlt rs (rs ++ [r]) dep h)) (uni rs (rs ++ [r])) (by
    intro h hh
    have w16 : ((wipeE ρ [16]).set 16 (some (.p (.str h))))[16]? = some (some (.p (.str h))) := by (first | assumption | (((try simp only [At, wipeE]); (repeat rw [gset (by decide)])); first | assumption | (rw [gself (by (try simp only [List.length_set]); omega)])) | (simp only [wipeE, List.length_set]; omega))
    have w13 : ((wipeE ρ [16]).set 16 (some (.p (.str h))))[13]? = some (some (.r st.length)) := by (first | assumption | (((try simp only [At, wipeE]); (repeat rw [gset (by decide)])); first | assumption | (rw [gself (by (try simp only [List.length_set]); omega)])) | (simp only [wipeE, List.length_set]; omega))
    have z2 : 2 ≤ sizeLine := sz (by omega)
    have hne : dNe (.int (dlt rs (rs ++ [r]) dep h)) (.int 0) = some (.bl (!decide (dlt rs (rs ++ [r]) dep h = 0))) := by
      unfold dNe
      simp only [flat_int, Bool.and_self, if_true, eqv_int]
      rfl
    refine ⟨_, rfl, ?_, fun _ => ?_⟩
    · simp only [dn_law_t2, eB, eOp2, eOp2P, eVarB, w13, end_get, Option.bind_some, thaw, eVar, w16, Res.bind, dGetK, kOf, lk h hh, eC, hne]
    · simp only [dn_law_e1, eTup, eCons, eOp2P, eVarB, w13, end_get, Option.bind_some, thaw, eVar, w16, Res.bind, dGetK, kOf, lk h hh, eNil, List.length_cons, List.length_nil, Nat.zero_add, Nat.reduceAdd, z2, if_true])
  have hz : (uni rs (rs ++ [r])).length ≤ sizeLine := sz (by omega)
  have em : ((uni rs (rs ++ [r])).filter fun h => !decide (dlt rs (rs ++ [r]) dep h = 0)).map (fun h => encPr (h, dlt rs (rs ++ [r]) dep h)) = (chgL rs (rs ++ [r]) dep (uni rs (rs ++ [r]))).map encPr := by
    unfold chgL
    rw [List.map_map]
    rfl
  rw [em] at hc
  simp only [dn_law_s20, sSet, sOf, eOp1, ePure, eComp, iSeq, eVarB, h13, end_get, Option.bind_some, thaw, Res.bind, hsrt, itemsOf, List.length_map, hz, if_true, hc, dTuple]
theorem s21_ok {r : R} (H : Rows rs) (H2 : Rows (rs ++ [r])) (Hd : Dep dep) (h3 : At ρ 3 (.tup (rs.map R.e))) (h12 : At ρ 12 r.e) (h14 : At ρ 14 (.tup ((chgL rs (rs ++ [r]) dep (uni rs (rs ++ [r]))).map encPr))) (h4 : ρ[4]? = some (some (.r n))) (f : st[n]? = some (.frz (.dic (encM dep)))) :
    dn_law_s21 ρ st = .next ρ st := by
  have h3' : ρ[3]? = some (some (.p (.tup (rs.map R.e)))) := h3
  have h12' : ρ[12]? = some (some (.p r.e)) := h12
  have h14' : ρ[14]? = some (some (.p (.tup ((chgL rs (rs ++ [r]) dep (uni rs (rs ++ [r]))).map encPr)))) := h14
  have e3 : ∀ st : Sto, eVar 3 ρ st = .ok (.tup (rs.map R.e)) st := fun st => by simp only [eVar, h3']
  have e12 : ∀ st : Sto, eVar 12 ρ st = .ok r.e st := fun st => by simp only [eVar, h12']
  have ev : eVar 4 ρ st = .ok (.dic (encM dep)) st := by
    have := FzAt.var (ρ := ρ) (i := 4) ⟨_, f, rfl⟩ h4
    rw [set_frz f] at this
    exact this
  refine check2 (d := .tup ((chgL rs (rs ++ [r]) dep (uni rs (rs ++ [r]))).map encPr)) (st1 := st) (good_tup (n := 8) ?_ fun p hp => ?_) ?_ ?_
  · have h1 := chgL_len rs (rs ++ [r]) dep (uni rs (rs ++ [r]))
    have h2 : (uni rs (rs ++ [r])).length ≤ 120 := by unfold uni; rw [(sortS_perm _).length_eq]; exact (both_ok H H2).2
    omega
  · obtain ⟨h, hh, rfl⟩ := List.mem_map.mp hp
    have hm := uni_mem.mp (List.mem_filter.mp hh).1
    refine good_two (n := 7) (.str ?_) .int
    rcases hm with hm | hm
    · exact (houses_ok H hm).sok
    · exact (houses_ok H2 hm).sok
  · simp only [eCall, eCons, e3, e12, ev, eNil, Res.bind, List.length_cons, List.length_nil, Nat.zero_add, Nat.reduceAdd, if_true, List.map_cons, List.map_nil, change_ok H H2 Hd]
  · simp only [eVar, h14']
theorem s22_ok {r : R} (H : Rows rs) (H2 : Rows (rs ++ [r])) (Hd : Dep dep) (hlen : ρ.length = 20) (h3 : At ρ 3 (.tup (rs.map R.e))) (h12 : At ρ 12 r.e) (h14 : At ρ 14 (.tup ((chgL rs (rs ++ [r]) dep (uni rs (rs ++ [r]))).map encPr))) (h4 : ρ[4]? = some (some (.r n))) (f : st[n]? = some (.frz (.dic (encM dep)))) :
    dn_law_s22 ρ st = .next ρ st := by
  have hl := H.len
  have h3' : ρ[3]? = some (some (.p (.tup (rs.map R.e)))) := h3
  have h12' : ρ[12]? = some (some (.p r.e)) := h12
  have h14' : ρ[14]? = some (some (.p (.tup ((chgL rs (rs ++ [r]) dep (uni rs (rs ++ [r]))).map encPr)))) := h14
  have e3 : ∀ st : Sto, eVar 3 ρ st = .ok (.tup (rs.map R.e)) st := fun st => by simp only [eVar, h3']
  have e12 : ∀ st : Sto, eVar 12 ρ st = .ok r.e st := fun st => by simp only [eVar, h12']
  have e14 : ∀ st : Sto, eVar 14 ρ st = .ok (.tup ((chgL rs (rs ++ [r]) dep (uni rs (rs ++ [r]))).map encPr)) st := fun st => by simp only [eVar, h14']
  have ev : eVar 4 ρ st = .ok (.dic (encM dep)) st := by
    have := FzAt.var (ρ := ρ) (i := 4) ⟨_, f, rfl⟩ h4
    rw [set_frz f] at this
    exact this
  have h1 := chgL_len rs (rs ++ [r]) dep (uni rs (rs ++ [r]))
  have h2 : (uni rs (rs ++ [r])).length ≤ 120 := by unfold uni; rw [(sortS_perm _).length_eq]; exact (both_ok H H2).2
  have hc := compL_all (g := gN 5) (fe := eOp2P dIx 5 (eC (.int 1))) (ρ := wipeE ρ [5]) (st := st) encPr (fun p => D.int p.2) (chgL rs (rs ++ [r]) dep (uni rs (rs ++ [r]))) (by
    intro p hp
    have w : ((wipeE ρ [5]).set 5 (some (.p (encPr p))))[5]? = some (some (.p (encPr p))) := by (first | assumption | (((try simp only [At, wipeE]); (repeat rw [gset (by decide)])); first | assumption | (rw [gself (by (try simp only [List.length_set]); omega)])) | (simp only [wipeE, List.length_set]; omega))
    refine ⟨_, rfl, ?_⟩
    have h1 : dIx (encPr p) (.int 1) = some (.int p.2) := rfl
    simp only [eOp2P, eVarB, w, eC, Res.bind, h1])
  have hz : ((chgL rs (rs ++ [r]) dep (uni rs (rs ++ [r]))).map encPr).length ≤ sizeLine := sz (by rw [List.length_map]; omega)
  have z1 : 1 ≤ sizeLine := sz (by omega)
  have hd := held_dlt (a := rs) (b := rs ++ [r]) dep (U := uni rs (rs ++ [r])) (sortS_perm _)
  have hsum : dSum (.lst ((chgL rs (rs ++ [r]) dep (uni rs (rs ++ [r]))).map fun p => D.int p.2)) = some (.int (((duesL (rs ++ [r]) dep).map (·.2)).sum - ((duesL rs dep).map (·.2)).sum)) := by
    simp only [dSum, dInts_map2, Option.map_some]
    rw [chgL_sum, hd]
  refine check2 (d := .int ((0 - ((duesL (rs ++ [r]) dep).map (·.2)).sum) - (0 - ((duesL rs dep).map (·.2)).sum))) (st1 := st) .int ?_ ?_
  · simp only [eOp2, eTup, eCall, eCons, e3, e12, ev, eNil, Res.bind, List.length_cons, List.length_nil, Nat.zero_add, Nat.reduceAdd, if_true, List.map_cons, List.map_nil, z1, snoc_e rs r hl, held_ok H2 Hd, held_ok H Hd, dSub]
  · simp only [eOp2, eOp1, ePure, eComp, iSeq, e14, eC, Res.bind, itemsOf, hz, if_true, hc, thaw, hsum, dSub]
    congr 2
    omega
end
end Law
namespace Law
open PySem PySem.Spec L2 M
section
variable {ns : List Int} {row : List D} {rest : Sto} {ρ : M.Env} {st : Sto} {rs : List R} {dep : Deps} {n : Nat}
theorem s12_ok (H : Rows rs) (h1 : ρ[1]? = some (some (.r 0))) (h3 : At ρ 3 (.tup (rs.map R.e))) (hr : RowOk ns row) (hf : Flat rest) :
    ∃ (m : Int) (row' : List D), 0 ≤ m ∧ m ≤ 999 ∧ RowOk ns row' ∧ dn_law_s12 ρ (.lst row :: rest) = .next (ρ.set 9 (some (.p (.int m)))) (.lst row' :: rest) := by
  have h3' : ρ[3]? = some (some (.p (.tup (rs.map R.e)))) := h3
  have hne : dNe (.tup (rs.map R.e)) (.tup []) = some (.bl (!rs.isEmpty)) := by
    unfold dNe
    rw [flat_tup, flats_e H.ok 58, flat_tup, flats_nil, eqv_tt, eqvs_nil]
    cases rs <;> rfl
  have z0 : 0 ≤ sizeLine := Nat.zero_le _
  cases rs with
  | nil =>
    obtain ⟨v, row', hr', v0, v1, e⟩ := taken (m := 1000) hr hf (by omega) (by omega)
    refine ⟨v, row', v0, by omega, hr', ?_⟩
    simp only [dn_law_s12, sSet, sOf, eIf, eAnd, eB, eOp2, eVar, h3', eTup, eNil, Res.bind, List.length_nil, z0, if_true, hne, List.isEmpty_nil, Bool.not_true, Bool.false_eq_true, if_false, eCallS, aRef, h1, aVal, eC, aNil, List.length_cons, Nat.zero_add, Nat.reduceAdd, e]
  | cons r rs =>
    obtain ⟨v, row1, hr1, v0, v1, e1⟩ := taken (m := 2) hr hf (by omega) (by omega)
    have ok := H.ok r List.mem_cons_self
    have i0 : dIx (.tup ((r :: rs).map R.e)) (.int 0) = some r.e := by
      unfold dIx
      simp [atI, ixN]
    by_cases hv : v = 0
    · have eq : dEq (.int v) (.int 0) = some (.bl true) := by subst hv; rfl
      refine ⟨r.m, row1, ok.m0, ok.m1, hr1, ?_⟩
      simp only [dn_law_s12, sSet, sOf, eIf, eAnd, eB, eOp2, eVar, h3', eTup, eNil, Res.bind, List.length_nil, z0, if_true, hne, List.isEmpty_cons, Bool.not_false, eCallS, aRef, h1, aVal, eC, aNil, List.length_cons, Nat.zero_add, Nat.reduceAdd, e1, eq, i0, (ix_e r).1]
    · have eq : dEq (.int v) (.int 0) = some (.bl false) := by
        unfold dEq
        simp [hv]
      obtain ⟨w, row2, hr2, w0, w1, e2⟩ := taken (m := 1000) hr1 hf (by omega) (by omega)
      refine ⟨w, row2, w0, by omega, hr2, ?_⟩
      simp only [dn_law_s12, sSet, sOf, eIf, eAnd, eB, eOp2, eVar, h3', eTup, eNil, Res.bind, List.length_nil, z0, if_true, hne, List.isEmpty_cons, Bool.not_false, eCallS, aRef, h1, aVal, eC, aNil, List.length_cons, Nat.zero_add, Nat.reduceAdd, e1, eq, Bool.false_eq_true, if_false, e2]
theorem s13_ok (h1 : ρ[1]? = some (some (.r 0))) (hr : RowOk ns row) (hf : Flat rest) :
    ∃ (k : Int) (row' : List D), 0 ≤ k ∧ k ≤ 99 ∧ RowOk ns row' ∧ dn_law_s13 ρ (.lst row :: rest) = .next (ρ.set 10 (some (.p (.int k)))) (.lst row' :: rest) := by
  obtain ⟨v, row', hr', v0, v1, e⟩ := taken (m := 100) hr hf (by omega) (by omega)
  refine ⟨v, row', v0, by omega, hr', ?_⟩
  simp only [dn_law_s13, sSet, sOf, eCallS, aRef, h1, aVal, eC, aNil, Res.bind, List.length_cons, List.length_nil, Nat.zero_add, Nat.reduceAdd, if_true, e]
theorem s14_ok {m k : Int} (H : Rows rs) (hlen : ρ.length = 20) (h3 : At ρ 3 (.tup (rs.map R.e))) (h9 : At ρ 9 (.int m)) (h10 : At ρ 10 (.int k)) : dn_law_s14 ρ st = .next (ρ.set 11 (some (.p (.lst ((rs.filter (isKn m k)).map R.e))))) st := by
  have hl := H.len
  have z2 : 2 ≤ sizeLine := sz (by omega)
  have hz : (rs.map R.e).length ≤ sizeLine := sz (by rw [List.length_map]; omega)
  have hc := compL_map (g := gN 5) (ft := dn_law_t1) (fe := eVar 5) (ρ := wipeE ρ [5]) (st := st) R.e (isKn m k) R.e rs (by
    intro r hr
    have w5 : ((wipeE ρ [5]).set 5 (some (.p r.e)))[5]? = some (some (.p r.e)) := by (first | assumption | (((try simp only [At, wipeE]); (repeat rw [gset (by decide)])); first | assumption | (rw [gself (by (try simp only [List.length_set]); omega)])) | (simp only [wipeE, List.length_set]; omega))
    have w9 : ((wipeE ρ [5]).set 5 (some (.p r.e)))[9]? = some (some (.p (.int m))) := by (first | assumption | (((try simp only [At, wipeE]); (repeat rw [gset (by decide)])); first | assumption | (rw [gself (by (try simp only [List.length_set]); omega)])) | (simp only [wipeE, List.length_set]; omega))
    have w10 : ((wipeE ρ [5]).set 5 (some (.p r.e)))[10]? = some (some (.p (.int k))) := by (first | assumption | (((try simp only [At, wipeE]); (repeat rw [gset (by decide)])); first | assumption | (rw [gself (by (try simp only [List.length_set]); omega)])) | (simp only [wipeE, List.length_set]; omega))
    have ct : dCut r.e none (some 2) = some (.tup [.int r.m, .int r.k]) := by
      unfold dCut
      simp only [cut2]
    have eq : dEq (.tup [.int r.m, .int r.k]) (.tup [.int m, .int k]) = some (.bl (isKn m k r)) := by
      unfold dEq isKn
      simp only [flat_tup, flats_cons, flats_nil, flat_int, Bool.and_self, if_true, eqv_tt, eqvs_cc, eqvs_nn, eqv_int, Bool.and_true]
      rfl
    refine ⟨_, rfl, ?_, fun _ => ?_⟩
    · simp only [dn_law_t1, eB, eOp2, eCut, eVar, w5, w9, w10, eNo, eSo, eC, Res.bind, ct, eTup, eCons, eNil, List.length_cons, List.length_nil, Nat.zero_add, Nat.reduceAdd, z2, if_true, eq]
    · simp only [eVar, w5])
  have h3' : ρ[3]? = some (some (.p (.tup (rs.map R.e)))) := h3
  simp only [dn_law_s14, sSet, sOf, ePure, eComp, iSeq, eVar, h3', Res.bind, itemsOf, hz, if_true, hc, thaw]
theorem name_lit {x : PySem.Str} (h : (decide (1 ≤ x.length) && decide (x.length ≤ 8) && x.cps.toList.all fun c => decide (97 ≤ c) && decide (c ≤ 122)) = true) : NameOk x := by
  rw [Bool.and_eq_true, Bool.and_eq_true, decide_eq_true_eq, decide_eq_true_eq, List.all_eq_true] at h
  exact ⟨h.1, fun c hc => by have := h.2 c hc; rw [Bool.and_eq_true, decide_eq_true_eq, decide_eq_true_eq] at this; exact this⟩
theorem s15_ok (H : Rows rs) (hlen : ρ.length = 20) (h1 : ρ[1]? = some (some (.r 0))) (h3 : At ρ 3 (.tup (rs.map R.e))) (hr : RowOk ns row) (hf : Flat rest) :
    ∃ (h kd : PySem.Str) (row' : List D), NameOk h ∧ NameOk kd ∧ RowOk ns row' ∧ dn_law_s15 ρ (.lst row :: rest) = .next ((ρ.set 16 (some (.p (.str h)))).set 17 (some (.p (.str kd)))) (.lst row' :: rest) := by
  have hl := H.len
  have z1 : 1 ≤ sizeLine := sz (by omega)
  have hz : (rs.map R.e).length ≤ sizeLine := sz (by rw [List.length_map]; omega)
  have h3' : ρ[3]? = some (some (.p (.tup (rs.map R.e)))) := h3
  have comp : ∀ (j : Int) (f : R → PySem.Str), (∀ r, dIx r.e (.int j) = some (.str (f r))) → ∀ (x : PySem.Str) (st : Sto), eOp2 dAdd (ePure (eComp (iSeq (eVar 3)) (gN 5) eYes (eOp2P dIx 5 (eC (.int j))) [5])) (eLst (eCons (eC (.str x)) eNil)) ρ st = .ok (.lst ((rs.map f ++ [x]).map D.str)) st := by
    intro j f hj x st
    have hc := compL_all (g := gN 5) (fe := eOp2P dIx 5 (eC (.int j))) (ρ := wipeE ρ [5]) (st := st) R.e (fun r => D.str (f r)) rs (by
      intro r hr
      have w5 : ((wipeE ρ [5]).set 5 (some (.p r.e)))[5]? = some (some (.p r.e)) := by (first | assumption | (((try simp only [At, wipeE]); (repeat rw [gset (by decide)])); first | assumption | (rw [gself (by (try simp only [List.length_set]); omega)])) | (simp only [wipeE, List.length_set]; omega))
      refine ⟨_, rfl, ?_⟩
      simp only [eOp2P, eVarB, w5, Res.bind, eC, hj])
    have zz : (rs.map fun r => D.str (f r)).length + [D.str x].length ≤ sizeLine := sz (by simp; omega)
    simp only [eOp2, ePure, eComp, iSeq, eVar, h3', Res.bind, itemsOf, hz, if_true, hc, thaw, eLst, eCons, eC, eNil, List.length_cons, List.length_nil, Nat.zero_add, z1]
    unfold dAdd
    simp only [zz, if_true, List.map_append, List.map_map, List.map_cons, List.map_nil]
    rfl
  have c1 := comp 2 R.h (fun r => (ix_e r).2.2.1) "hall"
  have c2 := comp 4 R.kd (fun r => (ix_e r).2.2.2.2.1) "jar"
  obtain ⟨d1, row1, hr1, m1, e1⟩ := pickS_ok (i := 1) (ρ := ρ) (fl := eOp2 dAdd (ePure (eComp (iSeq (eVar 3)) (gN 5) eYes (eOp2P dIx 5 (eC (.int 2))) [5])) (eLst (eCons (eC (.str "hall")) eNil))) h1 (by simp) (by simp; omega) (fun st => c1 st) hr hf
  obtain ⟨d2, row2, hr2, m2, e2⟩ := pickS_ok (i := 1) (ρ := ρ) (fl := eOp2 dAdd (ePure (eComp (iSeq (eVar 3)) (gN 5) eYes (eOp2P dIx 5 (eC (.int 4))) [5])) (eLst (eCons (eC (.str "jar")) eNil))) h1 (by simp) (by simp; omega) (fun st => c2 st) hr1 hf
  obtain ⟨h, hm1, rfl⟩ := List.mem_map.mp m1
  obtain ⟨kd, hm2, rfl⟩ := List.mem_map.mp m2
  refine ⟨h, kd, row2, ?_, ?_, hr2, ?_⟩
  · rcases List.mem_append.mp hm1 with q | q
    · obtain ⟨r, hr, rfl⟩ := List.mem_map.mp q
      exact (H.ok r hr).h
    · rw [List.mem_singleton.mp q]
      exact name_lit (by decide +kernel)
  · rcases List.mem_append.mp hm2 with q | q
    · obtain ⟨r, hr, rfl⟩ := List.mem_map.mp q
      exact (H.ok r hr).kd
    · rw [List.mem_singleton.mp q]
      exact name_lit (by decide +kernel)
  · unfold dn_law_s15
    rw [sPar]
    simp only [sOf, aVal]
    rw [e1]
    simp only [Res.bind]
    rw [e2]
    simp only [Res.bind, aNil, setAll]
theorem s16_ok {m k : Int} {h kd : PySem.Str} (H : Rows rs) (hl : rs.length ≤ 25) (m0 : 0 ≤ m) (m1 : m ≤ 999) (k0 : 0 ≤ k) (k1 : k ≤ 99) (hh : NameOk h) (hkd : NameOk kd) (h1 : ρ[1]? = some (some (.r 0))) (h9 : At ρ 9 (.int m)) (h10 : At ρ 10 (.int k)) (h11 : At ρ 11 (.lst ((rs.filter (isKn m k)).map R.e))) (h16 : At ρ 16 (.str h)) (h17 : At ρ 17 (.str kd)) (hr : RowOk ns row) (hf : Flat rest) :
    ∃ (r : R) (row' : List D), Rows (rs ++ [r]) ∧ RowOk ns row' ∧ dn_law_s16 ρ (.lst row :: rest) = .next (ρ.set 12 (some (.p r.e))) (.lst row' :: rest) := by
  have h9' : ρ[9]? = some (some (.p (.int m))) := h9
  have h10' : ρ[10]? = some (some (.p (.int k))) := h10
  have h11' : ρ[11]? = some (some (.p (.lst ((rs.filter (isKn m k)).map R.e)))) := h11
  have h16' : ρ[16]? = some (some (.p (.str h))) := h16
  have h17' : ρ[17]? = some (some (.p (.str kd))) := h17
  have z0 : 0 ≤ sizeLine := Nat.zero_le _
  have z2 : 2 ≤ sizeLine := sz (by omega)
  have z6 : 6 ≤ sizeLine := sz (by omega)
  have hne : dNe (.lst ((rs.filter (isKn m k)).map R.e)) (.lst []) = some (.bl (!(rs.filter (isKn m k)).isEmpty)) := by
    unfold dNe
    rw [flat_lst, flats_e (fun r hr => H.ok r (List.mem_filter.mp hr).1) 58, flat_lst, flats_nil, eqv_ll, eqvs_nil]
    cases rs.filter (isKn m k) <;> rfl
  cases hq : rs.filter (isKn m k) with
  | cons x xs =>
    have hx : x ∈ rs := (List.mem_filter.mp (show x ∈ rs.filter (isKn m k) by rw [hq]; simp)).1
    rw [hq] at hne h11'
    have i0 : dIx (.lst ((x :: xs).map R.e)) (.int 0) = some x.e := by
      unfold dIx
      simp [atI, ixN]
    refine ⟨x, row, H.of (fun r hr => ?_) (by simp; omega), hr, ?_⟩
    · rcases List.mem_append.mp hr with q | q
      · exact q
      · rw [List.mem_singleton.mp q]; exact hx
    · simp only [dn_law_s16, sSet, sOf, eIf, eB, eOp2, eVar, h11', eLst, eNil, Res.bind, List.length_nil, z0, if_true, hne, List.isEmpty_cons, Bool.not_false, eC, i0]
  | nil =>
    rw [hq] at hne h11'
    obtain ⟨dw, row4, hr4, hdw, e4⟩ := pickS_ok (i := 1) (ρ := ρ) (fl := eLst (eCons (eC (.str "sold")) (eCons (eC (.str "back")) eNil))) (ds := [.str "sold", .str "back"]) h1 (by simp) (by simp) (fun st => by simp [z2]) hr hf
    obtain ⟨w, hw, rfl⟩ : ∃ w : PySem.Str, (w = "sold" ∨ w = "back") ∧ dw = .str w := by
      simp only [List.mem_cons, List.not_mem_nil, or_false] at hdw
      rcases hdw with rfl | rfl
      · exact ⟨_, .inl rfl, rfl⟩
      · exact ⟨_, .inr rfl, rfl⟩
    obtain ⟨p, row5, hr5, p0, p1, e5⟩ := taken (m := 40) hr4 hf (by omega) (by omega)
    have e5' : eCallS 2 dn__law_taken (aRef 1 (aVal (eC (.int 40)) aNil)) ρ (.lst row4 :: rest) = .ok (.int p) (.lst row5 :: rest) := by
      simp only [eCallS, aRef, h1, aVal, eC, aNil, Res.bind, List.length_cons, List.length_nil, Nat.zero_add, Nat.reduceAdd, if_true, e5]
    have hno : ∀ s ∈ rs, s.m = m → s.k = k → False := fun s hs q1 q2 => by
      have := List.filter_eq_nil_iff.mp hq s hs
      simp [isKn, q1, q2] at this
    refine ⟨⟨m, k, h, w, kd, p⟩, row5, ⟨by simp; omega, fun r hr => ?_, fun a ha b hb q1 q2 => ?_⟩, hr5, ?_⟩
    · rcases List.mem_append.mp hr with q | q
      · exact H.ok r q
      · rw [List.mem_singleton.mp q]
        exact ⟨m0, m1, k0, k1, hh, hw, hkd, p0, show p ≤ 999 by omega⟩
    · rcases List.mem_append.mp ha with ha | ha <;> rcases List.mem_append.mp hb with hb | hb
      · exact H.fn a ha b hb q1 q2
      · rw [List.mem_singleton.mp hb] at q1 q2
        exact (hno a ha q1 q2).elim
      · rw [List.mem_singleton.mp ha] at q1 q2
        exact (hno b hb q1.symm q2.symm).elim
      · rw [List.mem_singleton.mp ha, List.mem_singleton.mp hb]
    · have ev9 : ∀ st : Sto, eVar 9 ρ st = .ok (.int m) st := fun st => by simp only [eVar, h9']
      have ev10 : ∀ st : Sto, eVar 10 ρ st = .ok (.int k) st := fun st => by simp only [eVar, h10']
      have ev11 : ∀ st : Sto, eVar 11 ρ st = .ok (.lst []) st := fun st => by simp only [eVar, h11']; rfl
      have ev16 : ∀ st : Sto, eVar 16 ρ st = .ok (.str h) st := fun st => by simp only [eVar, h16']
      have ev17 : ∀ st : Sto, eVar 17 ρ st = .ok (.str kd) st := fun st => by simp only [eVar, h17']
      have et : eTup (eCons (eVar 9) (eCons (eVar 10) (eCons (eVar 16) (eCons (eCallS 2 dn__law_pick (aRef 1 (aVal (eLst (eCons (eC (.str "sold")) (eCons (eC (.str "back")) eNil))) aNil))) (eCons (eVar 17) (eCons (eCallS 2 dn__law_taken (aRef 1 (aVal (eC (.int 40)) aNil))) eNil)))))) ρ (.lst row :: rest) = .ok (R.e ⟨m, k, h, w, kd, p⟩) (.lst row5 :: rest) := by
        rw [eTup]
        simp only [eCons]
        rw [ev9]
        simp only [Res.bind]
        rw [ev10]
        simp only [Res.bind]
        rw [ev16]
        simp only [Res.bind]
        rw [e4]
        simp only [Res.bind]
        rw [ev17]
        simp only [Res.bind]
        rw [e5']
        simp only [Res.bind, eNil, List.length_cons, List.length_nil, Nat.zero_add, Nat.reduceAdd, z6, if_true]
      have hne' : dNe (.lst []) (.lst []) = some (.bl false) := hne
      unfold dn_law_s16
      rw [sSet]
      simp only [sOf]
      rw [show ∀ (A B : Den), eIf (eB (eOp2 dNe (eVar 11) (eLst eNil))) A B ρ (.lst row :: rest) = B ρ (.lst row :: rest) from fun A B => by
        simp only [eIf, eB, eOp2, ev11, eLst, eNil, Res.bind, List.length_nil, z0, if_true, hne', Bool.false_eq_true, if_false]]
      rw [et]
structure BF (ρ : M.Env) (n : Nat) (rs : List R) : Prop where
  len : ρ.length = 20
  h1 : ρ[1]? = some (some (.r 0))
  h3 : At ρ 3 (.tup (rs.map R.e))
  h4 : ρ[4]? = some (some (.r n))
theorem BF.agr {vs : List Nat} {ρ' : M.Env} (b : BF ρ n rs) (a : Agr vs ρ ρ') (h : 1 ∉ vs ∧ 3 ∉ vs ∧ 4 ∉ vs) : BF ρ' n rs :=
  ⟨a.1.trans b.len, (a.2 1 h.1).trans b.h1, (a.2 3 h.2.1).trans b.h3, (a.2 4 h.2.2).trans b.h4⟩
theorem BF.set {j : Nat} {x : Option S} (b : BF ρ n rs) (h : 1 ≠ j ∧ 3 ≠ j ∧ 4 ≠ j) : BF (ρ.set j x) n rs :=
  b.agr (Agr.refl.set (vs := [j]) (by simp)) (by simpa using h)
theorem b1_ok (hlen : ρ.length = 20) (h1 : ρ[1]? = some (some (.r 0))) (hr : RowOk ns row) (hf : Flat rest) :
    ∃ (row' : List D) (rest' : Sto) (ρ' : M.Env), ρ'.length = 20 ∧ ρ'[1]? = some (some (.r 0)) ∧ RowOk ns row' ∧ Flat rest' ∧ dn_law_b1 ρ (.lst row :: rest) = .next ρ' (.lst row' :: rest') := by
  obtain ⟨rs, row1, H, hrl, hr1, e2⟩ := s2_ok h1 hr hf
  have eN4 : sNew 4 nDicK (ρ.set 3 (some (.p (.tup (rs.map R.e))))) (.lst row1 :: rest) = .next ((ρ.set 3 (some (.p (.tup (rs.map R.e))))).set 4 (some (.r (rest.length + 1)))) (.lst row1 :: (rest ++ [.dic []])) := by simp
  have B0 : BF ((ρ.set 3 (some (.p (.tup (rs.map R.e))))).set 4 (some (.r (rest.length + 1)))) (rest.length + 1) rs := ⟨by (first | assumption | (((try simp only [At, wipeE]); (repeat rw [gset (by decide)])); first | assumption | (rw [gself (by (try simp only [List.length_set]); omega)])) | (simp only [wipeE, List.length_set]; omega)), by (first | assumption | (((try simp only [At, wipeE]); (repeat rw [gset (by decide)])); first | assumption | (rw [gself (by (try simp only [List.length_set]); omega)])) | (simp only [wipeE, List.length_set]; omega)), by (first | assumption | (((try simp only [At, wipeE]); (repeat rw [gset (by decide)])); first | assumption | (rw [gself (by (try simp only [List.length_set]); omega)])) | (simp only [wipeE, List.length_set]; omega)), by (first | assumption | (((try simp only [At, wipeE]); (repeat rw [gset (by decide)])); first | assumption | (rw [gself (by (try simp only [List.length_set]); omega)])) | (simp only [wipeE, List.length_set]; omega))⟩
  generalize (ρ.set 3 (some (.p (.tup (rs.map R.e))))).set 4 (some (.r (rest.length + 1))) = ρ1 at *
  obtain ⟨ρ2, row2, dep, ag2, hr2, Hd, e4⟩ := s4_ok H B0.len B0.h1 B0.h3 B0.h4 hr1 hf
  have B1 := B0.agr ag2 (by decide)
  have e5 := s5_ok (row := row2) (rest := rest) (dep := dep) B1.len hrl B1.h3
  have B2 : BF ((ρ2.set 15 (some (.r (rest.length + 2)))).set 7 (some (.r (rest.length + 3)))) (rest.length + 1) rs := (B1.set (by decide)).set (by decide)
  have l2 := B1.len
  have c15 : ((ρ2.set 15 (some (.r (rest.length + 2)))).set 7 (some (.r (rest.length + 3))))[15]? = some (some (.r (rest.length + 2))) := by (first | assumption | (((try simp only [At, wipeE]); (repeat rw [gset (by decide)])); first | assumption | (rw [gself (by (try simp only [List.length_set]); omega)])) | (simp only [wipeE, List.length_set]; omega))
  have c7 : ((ρ2.set 15 (some (.r (rest.length + 2)))).set 7 (some (.r (rest.length + 3))))[7]? = some (some (.r (rest.length + 3))) := by (first | assumption | (((try simp only [At, wipeE]); (repeat rw [gset (by decide)])); first | assumption | (rw [gself (by (try simp only [List.length_set]); omega)])) | (simp only [wipeE, List.length_set]; omega))
  generalize (ρ2.set 15 (some (.r (rest.length + 2)))).set 7 (some (.r (rest.length + 3))) = ρ3 at *
  obtain ⟨ρ4, row3, ot, ag4, hr3, pm, e7⟩ := s7_ok (dep := dep) B2.len hrl B2.h1 B2.h3 c15 c7 hr2 hf
  have B3 := B2.agr ag4 (by decide)
  have hol : ot.length ≤ 25 := by rw [pm.length_eq]; exact hrl
  obtain ⟨k, row4, hk, hr4, e8⟩ := s8_ok (dep := dep) B3.len hrl hol B3.h1 B3.h3 ((ag4.2 7 (by decide)).trans c7) hr3 hf
  have H2 : Rows (ot ++ rs.take k) := H.of (fun r hr => by
    rcases List.mem_append.mp hr with q | q
    · exact pm.mem_iff.mp q
    · exact List.mem_of_mem_take q) (by rw [List.length_append, List.length_take]; omega)
  have hmem : ∀ r, r ∈ ot ++ rs.take k ↔ r ∈ rs := fun r => ⟨fun hr => by
    rcases List.mem_append.mp hr with q | q
    · exact pm.mem_iff.mp q
    · exact List.mem_of_mem_take q, fun hr => List.mem_append_left _ (pm.mem_iff.mpr hr)⟩
  have B4 : BF (ρ4.set 7 (some (.p (.tup ((ot ++ rs.take k).map R.e))))) (rest.length + 1) rs := B3.set (by decide)
  have l4 := B3.len
  have d7 : At (ρ4.set 7 (some (.p (.tup ((ot ++ rs.take k).map R.e))))) 7 (.tup ((ot ++ rs.take k).map R.e)) := by (first | assumption | (((try simp only [At, wipeE]); (repeat rw [gset (by decide)])); first | assumption | (rw [gself (by (try simp only [List.length_set]); omega)])) | (simp only [wipeE, List.length_set]; omega))
  generalize ρ4.set 7 (some (.p (.tup ((ot ++ rs.take k).map R.e)))) = ρ5 at *
  have e9 := s9_ok (st := .lst row4 :: (rest ++ [.dic (encM dep), .lst [], .lst (ot.map R.e)])) H Hd H2 hmem B4.h3 B4.h4 d7 ⟨_, st3_get1 _ _ _ _ _, rfl⟩
  rw [st3_set1] at e9
  have e10 := s10_ok (st := .lst row4 :: (rest ++ [.frz (.dic (encM dep)), .lst [], .lst (ot.map R.e)])) B4.h3
  have H3 : Rows rs.tail := H.of (fun r hr => List.mem_of_mem_tail hr) (by rw [List.length_tail]; omega)
  have B5 : BF (ρ5.set 8 (some (.p (.tup (rs.tail.map R.e))))) (rest.length + 1) rs := B4.set (by decide)
  have l5 := B4.len
  have e11 := s11_ok (st := .lst row4 :: (rest ++ [.frz (.dic (encM dep)), .lst [], .lst (ot.map R.e)])) (ρ := ρ5.set 8 (some (.p (.tup (rs.tail.map R.e))))) H H3 B5.h3 (by (first | assumption | (((try simp only [At, wipeE]); (repeat rw [gset (by decide)])); first | assumption | (rw [gself (by (try simp only [List.length_set]); omega)])) | (simp only [wipeE, List.length_set]; omega)))
  generalize ρ5.set 8 (some (.p (.tup (rs.tail.map R.e)))) = ρ6 at *
  have hf2 : Flat (rest ++ [.frz (.dic (encM dep)), .lst [], .lst (ot.map R.e)]) := hf.three rfl rfl rfl
  obtain ⟨m, row5, m0, m1, hr5, e12⟩ := s12_ok H B5.h1 B5.h3 hr4 hf2
  have B6 : BF (ρ6.set 9 (some (.p (.int m)))) (rest.length + 1) rs := B5.set (by decide)
  obtain ⟨rk, row6, k0, k1, hr6, e13⟩ := s13_ok (ρ := ρ6.set 9 (some (.p (.int m)))) B6.h1 hr5 hf2
  have B7 : BF ((ρ6.set 9 (some (.p (.int m)))).set 10 (some (.p (.int rk)))) (rest.length + 1) rs := B6.set (by decide)
  have l6 := B5.len
  have q9 : At ((ρ6.set 9 (some (.p (.int m)))).set 10 (some (.p (.int rk)))) 9 (.int m) := by (first | assumption | (((try simp only [At, wipeE]); (repeat rw [gset (by decide)])); first | assumption | (rw [gself (by (try simp only [List.length_set]); omega)])) | (simp only [wipeE, List.length_set]; omega))
  have q10 : At ((ρ6.set 9 (some (.p (.int m)))).set 10 (some (.p (.int rk)))) 10 (.int rk) := by (first | assumption | (((try simp only [At, wipeE]); (repeat rw [gset (by decide)])); first | assumption | (rw [gself (by (try simp only [List.length_set]); omega)])) | (simp only [wipeE, List.length_set]; omega))
  generalize (ρ6.set 9 (some (.p (.int m)))).set 10 (some (.p (.int rk))) = ρ7 at *
  have e14 := s14_ok (st := .lst row6 :: (rest ++ [.frz (.dic (encM dep)), .lst [], .lst (ot.map R.e)])) H B7.len B7.h3 q9 q10
  have B8 : BF (ρ7.set 11 (some (.p (.lst ((rs.filter (isKn m rk)).map R.e))))) (rest.length + 1) rs := B7.set (by decide)
  have l7 := B7.len
  obtain ⟨h, kd, row7, nh, nk, hr7, e15⟩ := s15_ok (ρ := ρ7.set 11 (some (.p (.lst ((rs.filter (isKn m rk)).map R.e))))) H B8.len B8.h1 B8.h3 hr6 hf2
  have B9 : BF (((ρ7.set 11 (some (.p (.lst ((rs.filter (isKn m rk)).map R.e))))).set 16 (some (.p (.str h)))).set 17 (some (.p (.str kd)))) (rest.length + 1) rs := (B8.set (by decide)).set (by decide)
  obtain ⟨r, row8, HR, hr8, e16⟩ := s16_ok (ρ := ((ρ7.set 11 (some (.p (.lst ((rs.filter (isKn m rk)).map R.e))))).set 16 (some (.p (.str h)))).set 17 (some (.p (.str kd)))) H hrl m0 m1 k0 k1 nh nk B9.h1 (by (first | assumption | (((try simp only [At, wipeE]); (repeat rw [gset (by decide)])); first | assumption | (rw [gself (by (try simp only [List.length_set]); omega)])) | (simp only [wipeE, List.length_set]; omega))) (by (first | assumption | (((try simp only [At, wipeE]); (repeat rw [gset (by decide)])); first | assumption | (rw [gself (by (try simp only [List.length_set]); omega)])) | (simp only [wipeE, List.length_set]; omega))) (by (first | assumption | (((try simp only [At, wipeE]); (repeat rw [gset (by decide)])); first | assumption | (rw [gself (by (try simp only [List.length_set]); omega)])) | (simp only [wipeE, List.length_set]; omega))) (by (first | assumption | (((try simp only [At, wipeE]); (repeat rw [gset (by decide)])); first | assumption | (rw [gself (by (try simp only [List.length_set]); omega)])) | (simp only [wipeE, List.length_set]; omega))) (by (first | assumption | (((try simp only [At, wipeE]); (repeat rw [gset (by decide)])); first | assumption | (rw [gself (by (try simp only [List.length_set]); omega)])) | (simp only [wipeE, List.length_set]; omega))) hr7 hf2
  have l9 := B9.len
  generalize ((ρ7.set 11 (some (.p (.lst ((rs.filter (isKn m rk)).map R.e))))).set 16 (some (.p (.str h)))).set 17 (some (.p (.str kd))) = ρ8 at *
  have eN13 : sNew 13 nDicK (ρ8.set 12 (some (.p r.e))) (.lst row8 :: (rest ++ [.frz (.dic (encM dep)), .lst [], .lst (ot.map R.e)])) = .next ((ρ8.set 12 (some (.p r.e))).set 13 (some (.r (O.lst row8 :: (rest ++ [O.frz (.dic (encM dep)), .lst [], .lst (ot.map R.e)])).length))) ((.lst row8 :: (rest ++ [.frz (.dic (encM dep)), .lst [], .lst (ot.map R.e)])) ++ [.dic []]) := rfl
  have fz : (O.lst row8 :: (rest ++ [O.frz (.dic (encM dep)), .lst [], .lst (ot.map R.e)]))[rest.length + 1]? = some (.frz (.dic (encM dep))) := st3_get1 _ _ _ _ _
  have fS : Flat (O.lst row8 :: (rest ++ [O.frz (.dic (encM dep)), .lst [], .lst (ot.map R.e)])) := hf2.lst
  have hS0 : ∃ rest', (O.lst row8 :: (rest ++ [O.frz (.dic (encM dep)), .lst [], .lst (ot.map R.e)])) = .lst row8 :: rest' ∧ Flat rest' := ⟨_, rfl, hf2⟩
  have B10 : BF ((ρ8.set 12 (some (.p r.e))).set 13 (some (.r (O.lst row8 :: (rest ++ [O.frz (.dic (encM dep)), .lst [], .lst (ot.map R.e)])).length))) (rest.length + 1) rs := (B9.set (by decide)).set (by decide)
  have v12 : At ((ρ8.set 12 (some (.p r.e))).set 13 (some (.r (O.lst row8 :: (rest ++ [O.frz (.dic (encM dep)), .lst [], .lst (ot.map R.e)])).length))) 12 r.e := by (first | assumption | (((try simp only [At, wipeE]); (repeat rw [gset (by decide)])); first | assumption | (rw [gself (by (try simp only [List.length_set]); omega)])) | (simp only [wipeE, List.length_set]; omega))
  have v13 : ((ρ8.set 12 (some (.p r.e))).set 13 (some (.r (O.lst row8 :: (rest ++ [O.frz (.dic (encM dep)), .lst [], .lst (ot.map R.e)])).length)))[13]? = some (some (.r (O.lst row8 :: (rest ++ [O.frz (.dic (encM dep)), .lst [], .lst (ot.map R.e)])).length)) := by (first | assumption | (((try simp only [At, wipeE]); (repeat rw [gset (by decide)])); first | assumption | (rw [gself (by (try simp only [List.length_set]); omega)])) | (simp only [wipeE, List.length_set]; omega))
  generalize hS : (O.lst row8 :: (rest ++ [O.frz (.dic (encM dep)), .lst [], .lst (ot.map R.e)])) = ST at *
  generalize (ρ8.set 12 (some (.p r.e))).set 13 (some (.r ST.length)) = ρ9 at *
  obtain ⟨ρ10, sm, a10, SM, e19⟩ := s19_ok (st := ST) (dep := dep) H HR B10.len B10.h3 v12 B10.h4 v13 ⟨_, fz, rfl⟩
  have B11 := B10.agr a10 (by decide)
  have w13 : ρ10[13]? = some (some (.r ST.length)) := (a10.2 13 (by decide)).trans v13
  have w12 : At ρ10 12 r.e := (a10.2 12 (by decide)).trans v12
  have e20 := s20_ok (st := ST) SM hrl B11.len w13
  have B12 : BF (ρ10.set 14 (some (.p (.tup ((chgL rs (rs ++ [r]) dep (uni rs (rs ++ [r]))).map encPr))))) (rest.length + 1) rs := B11.set (by decide)
  have l11 := B11.len
  have x12 : At (ρ10.set 14 (some (.p (.tup ((chgL rs (rs ++ [r]) dep (uni rs (rs ++ [r]))).map encPr))))) 12 r.e := by (first | assumption | (((try simp only [At, wipeE]); (repeat rw [gset (by decide)])); first | assumption | (rw [gself (by (try simp only [List.length_set]); omega)])) | (simp only [wipeE, List.length_set]; omega))
  have x14 : At (ρ10.set 14 (some (.p (.tup ((chgL rs (rs ++ [r]) dep (uni rs (rs ++ [r]))).map encPr))))) 14 (.tup ((chgL rs (rs ++ [r]) dep (uni rs (rs ++ [r]))).map encPr)) := by (first | assumption | (((try simp only [At, wipeE]); (repeat rw [gset (by decide)])); first | assumption | (rw [gself (by (try simp only [List.length_set]); omega)])) | (simp only [wipeE, List.length_set]; omega))
  generalize ρ10.set 14 (some (.p (.tup ((chgL rs (rs ++ [r]) dep (uni rs (rs ++ [r]))).map encPr)))) = ρ11 at *
  have fz2 : (ST ++ [O.dic (encM sm)])[rest.length + 1]? = some (.frz (.dic (encM dep))) := by
    rw [List.getElem?_append_left (List.getElem?_eq_some_iff.mp fz).1]
    exact fz
  have e21 := s21_ok (st := ST ++ [.dic (encM sm)]) H HR Hd B12.h3 x12 x14 B12.h4 fz2
  have e22 := s22_ok (st := ST ++ [.dic (encM sm)]) H HR Hd B12.len B12.h3 x12 x14 B12.h4 fz2
  obtain ⟨rest', hS0, hfr⟩ := hS0
  refine ⟨row8, rest' ++ [.dic (encM sm)], ρ11, B12.len, B12.h1, hr8, hfr.app rfl, ?_⟩
  have hfin : ST ++ [O.dic (encM sm)] = .lst row8 :: (rest' ++ [.dic (encM sm)]) := by rw [hS0]; rfl
  rw [← hfin]
  unfold dn_law_b1
  rw [sSeq_next e2, sSeq_next eN4, sSeq_next e4, sSeq_next e5, sSeq_next e7, sSeq_next e8, sSeq_next e9, sSeq_next e10, sSeq_next e11, sSeq_next e12, sSeq_next e13, sSeq_next e14, sSeq_next e15, sSeq_next e16, sSeq_next eN13, sSeq_next e19, sSeq_next e20, sSeq_next e21, e22]
end
theorem main (ns : List Int) (hl : ns.length ≤ 63) (hb : ∀ z ∈ ns, Builtin.Int.intBits z ≤ 1048576) : dn_law [.p (.scr ns)] [] = .ok (.bl true) [] := by
  have h4 : 4 ≤ sizeLine := sz (by omega)
  obtain ⟨ρ', st', e, _⟩ := forL_ix (g := gN 2) (fb := dn_law_b1) (fun i : Nat => D.int (i : Nat)) (List.range 4) (fun _ ρ st => (ρ.length = 20 ∧ ρ[1]? = some (some (.r 0))) ∧ ∃ row rest, RowOk ns row ∧ Flat rest ∧ st = .lst row :: rest)
    (ρ := [some (.p (.scr ns)), some (.r 0), none, none, none, none, none, none, none, none, none, none, none, none, none, none, none, none, none, none]) (st := [.lst [.scr ns, .int 0, .int 5221, .int 0]])
    ⟨⟨rfl, rfl⟩, _, [], ⟨0, 5221, 0, rfl, by omega, by omega, by omega, by omega⟩, (fun o ho => by cases ho), rfl⟩ (by
      rintro i x ρ st hx ⟨⟨l0, r1⟩, row, rest, hr, hf, rfl⟩
      obtain ⟨row', rest', ρ', l', r', hr', hf', e⟩ := b1_ok (ρ := ρ.set 2 (some (.p (.int (x : Nat))))) (by (first | assumption | (((try simp only [At, wipeE]); (repeat rw [gset (by decide)])); first | assumption | (rw [gself (by (try simp only [List.length_set]); omega)])) | (simp only [wipeE, List.length_set]; omega))) (by (first | assumption | (((try simp only [At, wipeE]); (repeat rw [gset (by decide)])); first | assumption | (rw [gself (by (try simp only [List.length_set]); omega)])) | (simp only [wipeE, List.length_set]; omega))) hr hf
      exact ⟨_, ρ', _, rfl, .inl e, ⟨l', r'⟩, row', rest', hr', hf', rfl⟩)
  have s1 : dn_law_s1 [some (.p (.scr ns)), none, none, none, none, none, none, none, none, none, none, none, none, none, none, none, none, none, none, none] [] = .next [some (.p (.scr ns)), some (.r 0), none, none, none, none, none, none, none, none, none, none, none, none, none, none, none, none, none, none] [.lst [.scr ns, .int 0, .int 5221, .int 0]] := by
    simp [dn_law_s1, h4]
  have s23 : dn_law_s23 [some (.p (.scr ns)), some (.r 0), none, none, none, none, none, none, none, none, none, none, none, none, none, none, none, none, none, none] [.lst [.scr ns, .int 0, .int 5221, .int 0]] = .next ρ' st' := by
    exact sFor_range (n := 4) (by omega) e
  refine dFn_ret rfl (st' := st') ?_
  show sSeq dn_law_s1 (sSeq dn_law_s23 _) [some (.p (.scr ns)), none, none, none, none, none, none, none, none, none, none, none, none, none, none, none, none, none, none, none] [] = _
  rw [sSeq_next s1, sSeq_next s23]
  simp
end Law
open PySem PySem.W PyProof.Rows
set_option maxRecDepth 100000 in
set_option maxHeartbeats 0 in
theorem PySem.Challenge.cw_craterounds_k22_whole_dues_whatever_come_holds : PySem.Challenge.rw_craterounds_k22_whole_dues_whatever_come.Holds := by
  w_on; o_law; k_head; (case hw => w_witness2)
  k_fill
  first | refine Law.walk (l := PySem.Challenge.rw_craterounds_k22_whole_dues_whatever_come) rfl rfl (fun w h Y => PySem.W.kIn_of Y) ?F | refine Law.walk (l := PySem.Challenge.rw_craterounds_k22_whole_dues_whatever_come) rfl rfl (fun w h Y => PySem.W.km_in_of Y) ?F
  case F =>
    intro w mg mb mean fa h T KX hmg
    refine' Law.all_mk Law.main T KX hmg ?z_all ?z_bool ?z_dict ?z_enumerate ?z_int ?z_isinstance ?z_len ?z_list ?z_range ?z_sorted ?z_str ?z_sum ?z_tuple ?q_BACK ?q_LETTERS ?q_LONGEST ?q_MOST_DEPOSIT ?q_MOST_MARK ?q_MOST_PIECES ?q_MOST_RANK ?q_MOST_ROWS ?q_SOLD ?ex_all ?a__law_taken ?l__law_taken ?c__law_taken ?k__law_taken ?a__law_names ?l__law_names ?c__law_names ?k__law_names ?a__law_pick ?l__law_pick ?c__law_pick ?k__law_pick ?a__law_rows ?l__law_rows ?c__law_rows ?k__law_rows ?a__law_alike ?l__law_alike ?c__law_alike ?k__law_alike ?a_is_whole ?l_is_whole ?c_is_whole ?k_is_whole ?a_is_within ?l_is_within ?c_is_within ?k_is_within ?a_is_row ?l_is_row ?c_is_row ?k_is_row ?a_is_name ?l_is_name ?c_is_name ?k_is_name ?a_is_told_row ?l_is_told_row ?c_is_told_row ?k_is_told_row ?a_first_wrong ?l_first_wrong ?c_first_wrong ?k_first_wrong ?a_place_told ?l_place_told ?c_place_told ?k_place_told ?a_require_rows ?l_require_rows ?c_require_rows ?k_require_rows ?a_standing_of ?l_standing_of ?c_standing_of ?k_standing_of ?a_standing ?l_standing ?c_standing ?k_standing ?a_are_alike ?l_are_alike ?c_are_alike ?k_are_alike ?a__law_standing ?l__law_standing ?c__law_standing ?k__law_standing ?a_require_deposits ?l_require_deposits ?c_require_deposits ?k_require_deposits ?a_due_of ?l_due_of ?c_due_of ?k_due_of ?a_houses_in ?l_houses_in ?c_houses_in ?k_houses_in ?a_change ?l_change ?c_change ?k_change ?a_dues ?l_dues ?c_dues ?k_dues ?a_held_back ?l_held_back ?c_held_back ?k_held_back ?a_law ?l_law ?c_law ?k_law
    (case z_all => k_is)
    (case z_bool => k_is)
    (case z_dict => k_is)
    (case z_enumerate => k_is)
    (case z_int => k_is)
    (case z_isinstance => k_is)
    (case z_len => k_is)
    (case z_list => k_is)
    (case z_range => k_is)
    (case z_sorted => k_is)
    (case z_str => k_is)
    (case z_sum => k_is)
    (case z_tuple => k_is)
    (case q_BACK => k_is)
    (case q_LETTERS => k_is)
    (case q_LONGEST => k_is)
    (case q_MOST_DEPOSIT => k_is)
    (case q_MOST_MARK => k_is)
    (case q_MOST_PIECES => k_is)
    (case q_MOST_RANK => k_is)
    (case q_MOST_ROWS => k_is)
    (case q_SOLD => k_is)
    (case ex_all => kernel_rfl)
    (case a__law_taken => k_is)
    (case l__law_taken => k_is)
    (case c__law_taken => k_is)
    (case k__law_taken => k_is)
    (case a__law_names => k_is)
    (case l__law_names => k_is)
    (case c__law_names => k_is)
    (case k__law_names => k_is)
    (case a__law_pick => k_is)
    (case l__law_pick => k_is)
    (case c__law_pick => k_is)
    (case k__law_pick => k_is)
    (case a__law_rows => k_is)
    (case l__law_rows => k_is)
    (case c__law_rows => k_is)
    (case k__law_rows => k_is)
    (case a__law_alike => k_is)
    (case l__law_alike => k_is)
    (case c__law_alike => k_is)
    (case k__law_alike => k_is)
    (case a_is_whole => k_is)
    (case l_is_whole => k_is)
    (case c_is_whole => k_is)
    (case k_is_whole => k_is)
    (case a_is_within => k_is)
    (case l_is_within => k_is)
    (case c_is_within => k_is)
    (case k_is_within => k_is)
    (case a_is_row => k_is)
    (case l_is_row => k_is)
    (case c_is_row => k_is)
    (case k_is_row => k_is)
    (case a_is_name => k_is)
    (case l_is_name => k_is)
    (case c_is_name => k_is)
    (case k_is_name => k_is)
    (case a_is_told_row => k_is)
    (case l_is_told_row => k_is)
    (case c_is_told_row => k_is)
    (case k_is_told_row => k_is)
    (case a_first_wrong => k_is)
    (case l_first_wrong => k_is)
    (case c_first_wrong => k_is)
    (case k_first_wrong => k_is)
    (case a_place_told => k_is)
    (case l_place_told => k_is)
    (case c_place_told => k_is)
    (case k_place_told => k_is)
    (case a_require_rows => k_is)
    (case l_require_rows => k_is)
    (case c_require_rows => k_is)
    (case k_require_rows => k_is)
    (case a_standing_of => k_is)
    (case l_standing_of => k_is)
    (case c_standing_of => k_is)
    (case k_standing_of => k_is)
    (case a_standing => k_is)
    (case l_standing => k_is)
    (case c_standing => k_is)
    (case k_standing => k_is)
    (case a_are_alike => k_is)
    (case l_are_alike => k_is)
    (case c_are_alike => k_is)
    (case k_are_alike => k_is)
    (case a__law_standing => k_is)
    (case l__law_standing => k_is)
    (case c__law_standing => k_is)
    (case k__law_standing => k_is)
    (case a_require_deposits => k_is)
    (case l_require_deposits => k_is)
    (case c_require_deposits => k_is)
    (case k_require_deposits => k_is)
    (case a_due_of => k_is)
    (case l_due_of => k_is)
    (case c_due_of => k_is)
    (case k_due_of => k_is)
    (case a_houses_in => k_is)
    (case l_houses_in => k_is)
    (case c_houses_in => k_is)
    (case k_houses_in => k_is)
    (case a_change => k_is)
    (case l_change => k_is)
    (case c_change => k_is)
    (case k_change => k_is)
    (case a_dues => k_is)
    (case l_dues => k_is)
    (case c_dues => k_is)
    (case k_dues => k_is)
    (case a_held_back => k_is)
    (case l_held_back => k_is)
    (case c_held_back => k_is)
    (case k_held_back => k_is)
    (case a_law => k_is)
    (case l_law => k_is)
    (case c_law => k_is)
    (case k_law => k_is)
