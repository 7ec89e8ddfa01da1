import PyProof.Rows.All
import Wide.All
import OpenK.AllK
import Wide.FinOn
import PySem.Challenge.RW_craterounds_k16_whole_times_of_carrying
import HandS.ForMost
import HandS.ForExc
import HandS.TupAny
import HandS.Zip
import HandS.IsInst
import HandS.Steps
import HandS.Deep
import HandS.HotCalls
import HandS.ExcInit
import HandS.Lambda
import HandS.ExcField
import HandS.ExcIs
import KE.KExcSuper
import KE.KTupSum
import HandS.SortInts
import HandS.Style
import HandS.WordsDict
import HandS.TupMul
import HandS.ExcSuper
import HandS.NestedK
import HandS.EndTab
import PyProof.ReprRoads
import PyProof.ReprLen
import PyProof.EnumMake
import PyProof.Draws
import KE.GoesMore
import HandS.Conv
set_option Elab.async false
set_option linter.all false
set_option maxRecDepth 100000
set_option maxHeartbeats 8000000
namespace M
open PySem PySem.Spec L2
/-! what the kernel shall not decide by counting -/
noncomputable instance (priority := high) undSz (n : Nat) : Decidable (n ≤ sizeLine) := Classical.propDecidable _
noncomputable instance (priority := high) undSzLt (n : Nat) : Decidable (n < sizeLine) := Classical.propDecidable _
noncomputable instance (priority := high) undB1 (i : Int) : Decidable (i < 4611686018427387904) := Classical.propDecidable _
noncomputable instance (priority := high) undB2 (i : Int) : Decidable (-4611686018427387904 ≤ i) := Classical.propDecidable _
noncomputable instance (priority := high) undB3 (i : Int) : Decidable (-4611686018427387904 < i) := Classical.propDecidable _

/-! ### data, store, results -/
inductive D where
  | non | bl (b : Bool) | int (i : Int) | str (x : Str) | tup (xs : List D) | lst (xs : List D) | dic (kvs : List (D × D)) | diT (kvs : List (D × D))
  | ins (c : Str) (fs : List (Str × D)) | fn (x : Str) | scr (ns : List Int)
inductive S where
  | p (d : D) | r (n : Nat) | x (c : Str) (fs : List (Str × D))
inductive O where
  | lst (ds : List D) | dic (kvs : List (D × D)) | diT (kvs : List (D × D)) | rows (ns : List Nat) | ins (c : Str) (fs : List (Str × S)) | frz (d : D) | dead
@[simp] def O.live : O → Bool
  | .lst _ => true | .dic _ => true | .diT _ => true | .rows _ => true | .ins _ _ => true | _ => false
abbrev Sto := List O
abbrev Env := List (Option S)
inductive Res (α : Type) where
  | ok (a : α) (st : Sto) | exc (c : Str) (fs : List (Str × D)) (st : Sto) | stuck
inductive SRes where
  | next (ρ : Env) (st : Sto) | ret (d : D) (st : Sto) | brk (ρ : Env) (st : Sto) | cont (ρ : Env) (st : Sto)
  | exc (c : Str) (fs : List (Str × D)) (ρ : Env) (st : Sto) | stuck
abbrev Den := Env → Sto → Res D
abbrev DenB := Env → Sto → Res Bool
abbrev DenL := Env → Sto → Res (List D)
abbrev SDen := Env → Sto → SRes
abbrev FDen := List D → Sto → Res D
@[simp] def Res.bind {α β : Type} (r : Res α) (k : α → Sto → Res β) : Res β := match r with
  | .ok a st => k a st
  | .exc c fs st => .exc c fs st
  | .stuck => .stuck

/-! ### what stands for what -/
structure Wd where
  K : PySem.W.Frag
  cls : Str → Option Addr
  fn : Str → Option Addr
  exc : Option (Addr × Addr × Option Addr) := none
  T : List (Addr × Str) := []

abbrev Zone := Addr → Prop
def KTup (K : PySem.W.Frag) (a : Addr) (xs : List V) : Prop :=
  ∃ (o : Obj) (its : Array Value) (n : Nat), K.lookup a = some o ∧ o.cls = .type "tuple" ∧ o.data = .seq its n ∧ its.size ≤ sizeLine ∧ Vals xs its.toList
def KLst (K : PySem.W.Frag) (a : Addr) (xs : List V) : Prop :=
  ∃ (o : Obj) (its : Array Value) (n : Nat), K.lookup a = some o ∧ o.cls = .type "list" ∧ o.dict = none ∧ o.data = .seq its n ∧ its.size ≤ sizeLine ∧ Vals xs its.toList
mutual
inductive Rep (G : Wd) (Z : Zone) (H : Hp) : D → V → Prop
  | non : Rep G Z H .non .non
  | bl (b : Bool) : Rep G Z H (.bl b) (.bl b)
  | int (i : Int) : Rep G Z H (.int i) (.int i)
  | str (x : Str) : Rep G Z H (.str x) (.str x)
  | tup {a : Addr} {vs : List V} {ds : List D} : Rd H a (.tup vs) → ¬ Z a → Reps G Z H ds vs → Rep G Z H (.tup ds) (.ref a)
  | tupK {a : Addr} {vs : List V} {ds : List D} : KTup G.K a vs → Reps G Z H ds vs → Rep G Z H (.tup ds) (.ref a)
  | lst {a : Addr} {vs : List V} {ds : List D} : Rd H a (.lst vs) → ¬ Z a → Reps G Z H ds vs → Rep G Z H (.lst ds) (.ref a)
  | dK {a : Addr} {kvs : List (Key × V)} {ds : List (D × D)} : Rd H a (.dK kvs) → ¬ Z a → RepK G Z H ds kvs → Rep G Z H (.dic ds) (.ref a)
  | dT {a : Addr} {kvs : List (List Key × V)} {ds : List (D × D)} : Rd H a (.dT kvs) → ¬ Z a → RepT G Z H ds kvs → Rep G Z H (.diT ds) (.ref a)
  | ins {a C dx : Addr} {c : Str} {vfs : List (Str × V)} {fs : List (Str × D)} : H a = some (.ins C dx vfs) → ¬ Z a → G.cls c = some C → RepF G Z H fs vfs → Rep G Z H (.ins c fs) (.ref a)
  | fn {a : Addr} {x : Str} : G.fn x = some a → Rep G Z H (.fn x) (.ref a)
  | scr {a : Addr} {ns : List Int} : Rd H a (.lst (ns.map V.int)) → ¬ Z a → Rep G Z H (.scr ns) (.ref a)
  | scrK {a : Addr} {ns : List Int} : KLst G.K a (ns.map V.int) → Rep G Z H (.scr ns) (.ref a)
inductive Reps (G : Wd) (Z : Zone) (H : Hp) : List D → List V → Prop
  | nil : Reps G Z H [] []
  | cons {d : D} {v : V} {ds : List D} {vs : List V} : Rep G Z H d v → Reps G Z H ds vs → Reps G Z H (d :: ds) (v :: vs)
inductive RepK (G : Wd) (Z : Zone) (H : Hp) : List (D × D) → List (Key × V) → Prop
  | nil : RepK G Z H [] []
  | int {i : Int} {d : D} {v : V} {ds : List (D × D)} {vs : List (Key × V)} : Rep G Z H d v → RepK G Z H ds vs → RepK G Z H ((.int i, d) :: ds) ((.inl i, v) :: vs)
  | str {x : Str} {d : D} {v : V} {ds : List (D × D)} {vs : List (Key × V)} : Rep G Z H d v → RepK G Z H ds vs → RepK G Z H ((.str x, d) :: ds) ((.inr x, v) :: vs)
inductive RepT (G : Wd) (Z : Zone) (H : Hp) : List (D × D) → List (List Key × V) → Prop
  | nil : RepT G Z H [] []
  | cons {ks : List Key} {es : List D} {d : D} {v : V} {ds : List (D × D)} {vs : List (List Key × V)} : Reps G Z H es (ks.map kV) → Rep G Z H d v → RepT G Z H ds vs → RepT G Z H ((.tup es, d) :: ds) ((ks, v) :: vs)
inductive RepF (G : Wd) (Z : Zone) (H : Hp) : List (Str × D) → List (Str × V) → Prop
  | nil : RepF G Z H [] []
  | cons {x : Str} {d : D} {v : V} {ds : List (Str × D)} {vs : List (Str × V)} : Rep G Z H d v → RepF G Z H ds vs → RepF G Z H ((x, d) :: ds) ((x, v) :: vs)
end

/-- an object, but for the lock of a dict that a loop walks -/
def core : HO → HO
  | .frz _ (.dK k) => .dK k | .frz _ (.dT k) => .dT k | .tbl _ => .tbl #[] | o => o
def KeepAt (H' : Hp) (a : Addr) (o : HO) : Prop := ∃ o', H' a = some o' ∧ core o' = core o
theorem KeepAt.of {H' : Hp} {a : Addr} {o : HO} (h : H' a = some o) : KeepAt H' a o := ⟨o, h, rfl⟩
theorem KeepAt.ins {H' : Hp} {a C dx : Addr} {fs : List (Str × V)} (k : KeepAt H' a (.ins C dx fs)) : H' a = some (.ins C dx fs) := by
  obtain ⟨o', h, e⟩ := k
  have e2 : core o' = .ins C dx fs := e
  unfold core at e2
  split at e2 <;> first | (cases e2; done) | exact (by rw [h, e2])
theorem KeepAt.rd {H H' : Hp} {a : Addr} {u : HO} (r : Rd H a u) (k : ∀ o, H a = some o → KeepAt H' a o) : (∃ xs, u = .lst xs) ∨ (∃ xs, u = .tup xs) ∨ (∃ xs, u = .dK xs) ∨ (∃ xs, u = .dT xs) → Rd H' a u := by
  intro hu
  have go : ∀ o, H a = some o → (o = u ∨ ∃ ob, o = .frz ob u) → Rd H' a u := fun o ho hc => by
    obtain ⟨o', h', e⟩ := k o ho
    rcases hu with ⟨xs, rfl⟩ | ⟨xs, rfl⟩ | ⟨xs, rfl⟩ | ⟨xs, rfl⟩
    · rcases hc with rfl | ⟨ob, rfl⟩
      · have e2 : core o' = .lst xs := e
        unfold core at e2
        split at e2 <;> first | (cases e2; done) | exact .inl (by rw [h', e2])
      · have e2 : core o' = .frz ob (.lst xs) := e
        unfold core at e2
        split at e2 <;> first | (cases e2; done) | exact .inr ⟨ob, by rw [h', e2]⟩
    · rcases hc with rfl | ⟨ob, rfl⟩
      · have e2 : core o' = .tup xs := e
        unfold core at e2
        split at e2 <;> first | (cases e2; done) | exact .inl (by rw [h', e2])
      · have e2 : core o' = .frz ob (.tup xs) := e
        unfold core at e2
        split at e2 <;> first | (cases e2; done) | exact .inr ⟨ob, by rw [h', e2]⟩
    · have e2 : core o' = .dK xs := by
        rcases hc with rfl | ⟨ob, rfl⟩ <;> exact e
      unfold core at e2
      split at e2
      · cases e2
        exact .inr ⟨_, h'⟩
      · cases e2
      · cases e2
      · exact .inl (by rw [h', e2])
    · have e2 : core o' = .dT xs := by
        rcases hc with rfl | ⟨ob, rfl⟩ <;> exact e
      unfold core at e2
      split at e2
      · cases e2
      · cases e2
        exact .inr ⟨_, h'⟩
      · cases e2
      · exact .inl (by rw [h', e2])
  rcases r with r | ⟨o, r⟩
  · exact go _ r (.inl rfl)
  · exact go _ r (.inr ⟨o, rfl⟩)
/-- what is read as u at an address that may be leant on is so in the other heap and zone -/
def Keeps (Z Z' : Zone) (H H' : Hp) : Prop := ∀ a o, H a = some o → ¬ Z a → KeepAt H' a o ∧ ¬ Z' a
theorem Keeps.rd {Z Z' : Zone} {H H' : Hp} (k : Keeps Z Z' H H') {a : Addr} {u : HO} (r : Rd H a u) (z : ¬ Z a) (hu : (∃ xs, u = .lst xs) ∨ (∃ xs, u = .tup xs) ∨ (∃ xs, u = .dK xs) ∨ (∃ xs, u = .dT xs)) : Rd H' a u ∧ ¬ Z' a := by
  refine ⟨KeepAt.rd r (fun o h => (k a o h z).1) hu, ?_⟩
  rcases r with r | ⟨o, r⟩
  · exact (k _ _ r z).2
  · exact (k _ _ r z).2
section
variable {G : Wd} {Z Z' : Zone} {H H' : Hp}
mutual
theorem Rep.mono (k : Keeps Z Z' H H') : ∀ {d : D} {v : V}, Rep G Z H d v → Rep G Z' H' d v
  | _, _, .non => .non
  | _, _, .bl b => .bl b
  | _, _, .int i => .int i
  | _, _, .str x => .str x
  | _, _, .tup r z h => .tup (k.rd r z (.inr (.inl ⟨_, rfl⟩))).1 (k.rd r z (.inr (.inl ⟨_, rfl⟩))).2 (Reps.mono k h)
  | _, _, .tupK r h => .tupK r (Reps.mono k h)
  | _, _, .lst r z h => .lst (k.rd r z (.inl ⟨_, rfl⟩)).1 (k.rd r z (.inl ⟨_, rfl⟩)).2 (Reps.mono k h)
  | _, _, .dK r z h => .dK (k.rd r z (.inr (.inr (.inl ⟨_, rfl⟩)))).1 (k.rd r z (.inr (.inr (.inl ⟨_, rfl⟩)))).2 (RepK.mono k h)
  | _, _, .dT r z h => .dT (k.rd r z (.inr (.inr (.inr ⟨_, rfl⟩)))).1 (k.rd r z (.inr (.inr (.inr ⟨_, rfl⟩)))).2 (RepT.mono k h)
  | _, _, .ins e z c h => .ins (k _ _ e z).1.ins (k _ _ e z).2 c (RepF.mono k h)
  | _, _, .fn e => .fn e
  | _, _, .scr r z => .scr (k.rd r z (.inl ⟨_, rfl⟩)).1 (k.rd r z (.inl ⟨_, rfl⟩)).2
  | _, _, .scrK h => .scrK h
theorem Reps.mono (k : Keeps Z Z' H H') : ∀ {d : List D} {v : List V}, Reps G Z H d v → Reps G Z' H' d v
  | _, _, .nil => .nil
  | _, _, .cons h t => .cons (Rep.mono k h) (Reps.mono k t)
theorem RepK.mono (k : Keeps Z Z' H H') : ∀ {d : List (D × D)} {v : List (Key × V)}, RepK G Z H d v → RepK G Z' H' d v
  | _, _, .nil => .nil
  | _, _, .int h t => .int (Rep.mono k h) (RepK.mono k t)
  | _, _, .str h t => .str (Rep.mono k h) (RepK.mono k t)
theorem RepT.mono (k : Keeps Z Z' H H') : ∀ {d : List (D × D)} {v : List (List Key × V)}, RepT G Z H d v → RepT G Z' H' d v
  | _, _, .nil => .nil
  | _, _, .cons e h t => .cons (Reps.mono k e) (Rep.mono k h) (RepT.mono k t)
theorem RepF.mono (k : Keeps Z Z' H H') : ∀ {d : List (Str × D)} {v : List (Str × V)}, RepF G Z H d v → RepF G Z' H' d v
  | _, _, .nil => .nil
  | _, _, .cons h t => .cons (Rep.mono k h) (RepF.mono k t)
end
theorem Reps.length : ∀ {ds : List D} {vs : List V}, Reps G Z H ds vs → ds.length = vs.length
  | _, _, .nil => rfl
  | _, _, .cons _ t => congrArg (· + 1) t.length
theorem Reps.get : ∀ {ds : List D} {vs : List V} {i : Nat} {d : D}, Reps G Z H ds vs → ds[i]? = some d → ∃ v, vs[i]? = some v ∧ Rep G Z H d v
  | _, _, _, _, .nil, e => by simp at e
  | _, _, 0, _, .cons r _, e => by simp at e; subst e; exact ⟨_, rfl, r⟩
  | _, _, i + 1, d, .cons _ t, e => by
    obtain ⟨v, h1, h2⟩ := Reps.get (i := i) (d := d) t (by simpa using e)
    exact ⟨v, by simpa using h1, h2⟩
theorem Reps.getV : ∀ {ds : List D} {vs : List V} {i : Nat} {v : V}, Reps G Z H ds vs → vs[i]? = some v → ∃ d, ds[i]? = some d ∧ Rep G Z H d v
  | _, _, _, _, .nil, e => by simp at e
  | _, _, 0, _, .cons r _, e => by simp at e; subst e; exact ⟨_, rfl, r⟩
  | _, _, i + 1, d, .cons _ t, e => by
    obtain ⟨v, h1, h2⟩ := Reps.getV (i := i) (v := d) t (by simpa using e)
    exact ⟨v, by simpa using h1, h2⟩
theorem Reps.append : ∀ {ds es : List D} {vs ws : List V}, Reps G Z H ds vs → Reps G Z H es ws → Reps G Z H (ds ++ es) (vs ++ ws)
  | _, _, _, _, .nil, s => s
  | _, _, _, _, .cons r t, s => .cons r (Reps.append t s)
theorem Reps.take : ∀ {ds : List D} {vs : List V} (n : Nat), Reps G Z H ds vs → Reps G Z H (ds.take n) (vs.take n)
  | _, _, 0, _ => .nil
  | _, _, _ + 1, .nil => .nil
  | _, _, n + 1, .cons r t => .cons r (Reps.take n t)
theorem Reps.drop : ∀ {ds : List D} {vs : List V} (n : Nat), Reps G Z H ds vs → Reps G Z H (ds.drop n) (vs.drop n)
  | _, _, 0, r => r
  | _, _, _ + 1, .nil => .nil
  | _, _, n + 1, .cons _ t => Reps.drop n t
theorem Reps.set {d : D} {v : V} (r : Rep G Z H d v) : ∀ {ds : List D} {vs : List V} (i : Nat), Reps G Z H ds vs → Reps G Z H (ds.set i d) (vs.set i v)
  | _, _, _, .nil => .nil
  | _, _, 0, .cons _ t => .cons r t
  | _, _, i + 1, .cons q t => .cons q (Reps.set r i t)
theorem Reps.one {d : D} {v : V} (r : Rep G Z H d v) : Reps G Z H [d] [v] := .cons r .nil
theorem Reps.none_of {ds : List D} {vs : List V} {i : Nat} (r : Reps G Z H ds vs) (e : ds[i]? = none) : vs[i]? = none := by
  rw [List.getElem?_eq_none_iff] at *
  have := r.length; omega
end

/-! ### the store -/
/-- the dict of an exception, if it has one -/
def XdAt (Z : Zone) (H : Hp) (dd : Option Addr) (vfs : List (Str × V)) : Prop := match dd with
  | some d => H d = some (.xd vfs) ∧ ¬ Z d
  | none => vfs = []
theorem XdAt.mono {Z Z' : Zone} {H H' : Hp} (k : Keeps Z Z' H H') {dd : Option Addr} {vfs : List (Str × V)} (h : XdAt Z H dd vfs) : XdAt Z' H' dd vfs := by
  cases dd with
  | none => exact h
  | some d =>
    obtain ⟨h1, h2⟩ := h
    obtain ⟨⟨o', e1, e2⟩, z⟩ := k d _ h1 h2
    refine ⟨?_, z⟩
    have e3 : core o' = .xd vfs := e2
    unfold core at e3
    split at e3 <;> first | (cases e3; done) | exact (by rw [e1, e3])
theorem XdAt.zone {Z Z' : Zone} {H : Hp} (h : ∀ a, Z' a → Z a) {dd : Option Addr} {vfs : List (Str × V)} (x : XdAt Z H dd vfs) : XdAt Z' H dd vfs := x.mono fun a o e z => ⟨.of e, fun q => z (h a q)⟩
def Live (L : List Addr) (st : Sto) (a : Addr) : Prop := ∃ (n : Nat) (o : O), L[n]? = some a ∧ st[n]? = some o ∧ o.live = true
def Zof (Z : Zone) (L : List Addr) (st : Sto) : Zone := fun a => Z a ∨ Live L st a
inductive SRep (G : Wd) (Z : Zone) (H : Hp) (L : List Addr) : S → V → Prop
  | p {d : D} {v : V} : Rep G Z H d v → SRep G Z H L (.p d) v
  | r {n : Nat} {a : Addr} : L[n]? = some a → SRep G Z H L (.r n) (.ref a)
  | x {a C : Addr} {dd : Option Addr} {c : Str} {fs : List (Str × D)} {vfs : List (Str × V)} : G.exc = some (a, C, dd) → G.cls c = some C → XdAt Z H dd vfs → RepF G Z H fs vfs → SRep G Z H L (.x c fs) (.ref a)
inductive SRepF (G : Wd) (Z : Zone) (H : Hp) (L : List Addr) : List (Str × S) → List (Str × V) → Prop
  | nil : SRepF G Z H L [] []
  | cons {x : Str} {d : S} {v : V} {ds : List (Str × S)} {vs : List (Str × V)} : SRep G Z H L d v → SRepF G Z H L ds vs → SRepF G Z H L ((x, d) :: ds) ((x, v) :: vs)
/-- the places of things of one's own -/
def RowsAt (L : List Addr) (ns : List Nat) (as : List Addr) : Prop := as.map some = ns.map fun n => L[n]?
theorem RowsAt.mono {L L' : List Addr} (h : ∀ (n : Nat) (a : Addr), L[n]? = some a → L'[n]? = some a) : ∀ {ns : List Nat} {as : List Addr}, RowsAt L ns as → RowsAt L' ns as
  | [], [], _ => rfl
  | [], _ :: _, r => nomatch r
  | _ :: _, [], r => nomatch r
  | n :: ns, a :: as, r => by
    have r : some a :: as.map some = L[n]? :: ns.map fun n => L[n]? := r
    obtain ⟨r1, r2⟩ := List.cons.inj r
    show some a :: as.map some = L'[n]? :: ns.map fun n => L'[n]?
    rw [h n a r1.symm, show as.map some = ns.map (fun n => L'[n]?) from RowsAt.mono h r2]
def OOk (G : Wd) (Z : Zone) (H : Hp) (L : List Addr) (a : Addr) : O → Prop
  | .lst ds => ∃ vs, H a = some (.lst vs) ∧ Reps G Z H ds vs
  | .dic ds => ∃ kvs, H a = some (.dK kvs) ∧ RepK G Z H ds kvs
  | .diT ds => ∃ kvs, H a = some (.dT kvs) ∧ RepT G Z H ds kvs
  | .rows ns => ∃ as : List Addr, H a = some (.lst (as.map V.ref)) ∧ RowsAt L ns as
  | .ins c fs => ∃ C dx vfs, G.cls c = some C ∧ H a = some (.ins C dx vfs) ∧ SRepF G Z H L fs vfs
  | .frz d => Rep G Z H d (.ref a)
  | .dead => True
/-- the tables of code objects, out of the zone -/
def TabZ (T : List (Addr × Str)) (Z : Zone) (H : Hp) : Prop := ∀ p ∈ T, ¬ Z p.1 ∧ ∃ ps : Array Value, H p.1 = some (.tbl ps) ∧ TriplesOk ps.toList ∧
  ∀ (pos : Pos) (cv : Value), codeAmong pos ps.toList = some cv → ∃ c, cv = .ref c ∧ H c = some (LamX.CodeO c p.2) ∧ ¬ Z c
theorem TabZ.mono {T : List (Addr × Str)} {Z Z' : Zone} {H H' : Hp} (k : ∀ a o, H a = some o → ¬ Z a → H' a = some o ∧ ¬ Z' a) (t : TabZ T Z H) : TabZ T Z' H' := fun p hp => by
  obtain ⟨h0, ps, h1, h2, h3⟩ := t p hp
  obtain ⟨e1, e2⟩ := k _ _ h1 h0
  refine ⟨e2, ps, e1, h2, fun pos cv hc => ?_⟩
  obtain ⟨c, g1, g2, g3⟩ := h3 pos cv hc
  obtain ⟨e3, e4⟩ := k _ _ g2 g3
  exact ⟨c, g1, e3, e4⟩
theorem TabZ.zone {T : List (Addr × Str)} {Z Z' : Zone} {H : Hp} (h : ∀ a, Z' a → Z a) (t : TabZ T Z H) : TabZ T Z' H := t.mono fun a o e z => ⟨e, fun q => z (h a q)⟩
structure StOk (G : Wd) (Z : Zone) (L : List Addr) (st : Sto) (H : Hp) : Prop where
  len : L.length = st.length
  nd : L.Nodup
  obj : ∀ (n : Nat) (a : Addr) (o : O), L[n]? = some a → st[n]? = some o → OOk G (Zof Z L st) H L a o
  z0 : ∀ a, Z a → H a ≠ none
  zl : ∀ a ∈ L, ¬ Z a
  lh : ∀ a ∈ L, H a ≠ none
  tb : TabZ G.T (Zof Z L st) H
/-- from one state to a later one -/
structure Fw (Z : Zone) (L : List Addr) (st : Sto) (H : Hp) (L' : List Addr) (st' : Sto) (H' : Hp) : Prop where
  pre : ∃ M, L' = L ++ M ∧ ∀ a ∈ M, H a = none
  keep : ∀ a o, H a = some o → ¬ Live L st a → KeepAt H' a o
  there : ∀ a, H a ≠ none → H' a ≠ none
  zk : ∀ a o, Z a → H a = some o → H' a = some o
  live : ∀ (n : Nat) (o' : O), n < L.length → st'[n]? = some o' → o'.live = true → ∃ o, st[n]? = some o ∧ o.live = true
def EnvOk (G : Wd) (Z : Zone) (H : Hp) (L : List Addr) (ρ : Env) (σ : St) : Prop :=
  ρ.length = σ.length ∧ ∀ (i : Nat) (s : S), ρ[i]? = some (some s) → ∃ v, σ[i]? = some (some v) ∧ SRep G Z H L s v
section
variable {G : Wd} {Z : Zone} {L L' L2 : List Addr} {st st' st2 : Sto} {H H' H2 : Hp}
theorem Fw.refl : Fw Z L st H L st H := ⟨⟨[], by simp, by simp⟩, fun _ _ e _ => .of e, fun _ h => h, fun _ _ _ e => e, fun n o' _ e l => ⟨o', e, l⟩⟩
theorem Fw.live_of (f : Fw Z L st H L' st' H') {a : Addr} (h : Live L' st' a) : Live L st a ∨ H a = none := by
  obtain ⟨n, o', e1, e2, l⟩ := h
  obtain ⟨M, rfl, hM⟩ := f.pre
  by_cases hn : n < L.length
  · obtain ⟨o, e3, l3⟩ := f.live n o' hn e2 l
    rw [List.getElem?_append_left hn] at e1
    exact .inl ⟨n, o, e1, e3, l3⟩
  · rw [List.getElem?_append_right (by omega)] at e1
    exact .inr (hM a (List.mem_of_getElem? e1))
theorem Fw.keeps (f : Fw Z L st H L' st' H') : Keeps (Zof Z L st) (Zof Z L' st') H H' := fun a o e z => by
  have nl : ¬ Live L st a := fun q => z (.inr q)
  refine ⟨f.keep a o e nl, fun q => ?_⟩
  rcases q with q | q
  · exact z (.inl q)
  · rcases f.live_of q with q | q
    · exact nl q
    · rw [e] at q; cases q
theorem Fw.trans (f : Fw Z L st H L' st' H') (g : Fw Z L' st' H' L2 st2 H2) : Fw Z L st H L2 st2 H2 := by
  refine ⟨?_, fun a o e nl => ?_, fun a h => g.there a (f.there a h), fun a o z e => g.zk a o z (f.zk a o z e), fun n o2 hn e l => ?_⟩
  · obtain ⟨M, rfl, hM⟩ := f.pre
    obtain ⟨M2, rfl, hM2⟩ := g.pre
    refine ⟨M ++ M2, by simp, fun a ha => ?_⟩
    rcases List.mem_append.mp ha with ha | ha
    · exact hM a ha
    · cases q : H a with
      | none => rfl
      | some o => exact absurd (hM2 a ha) (f.there a (by rw [q]; simp))
  · obtain ⟨o1, e1, c1⟩ := f.keep a o e nl
    have nl1 : ¬ Live L' st' a := fun q => by
      rcases f.live_of q with q | q
      · exact nl q
      · rw [e] at q; cases q
    obtain ⟨o2, e2, c2⟩ := g.keep a o1 e1 nl1
    exact ⟨o2, e2, c2.trans c1⟩
  · obtain ⟨M, rfl, hM⟩ := f.pre
    obtain ⟨o1, e1, l1⟩ := g.live n o2 (by simp; omega) e l
    exact f.live n o1 hn e1 l1
theorem Fw.get (f : Fw Z L st H L' st' H') {n : Nat} {a : Addr} (e : L[n]? = some a) : L'[n]? = some a := by
  obtain ⟨M, rfl, _⟩ := f.pre
  rw [List.getElem?_append_left (List.getElem?_eq_some_iff.mp e).1]
  exact e
theorem SRep.mono (f : Fw Z L st H L' st' H') {s : S} {v : V} (h : SRep G (Zof Z L st) H L s v) : SRep G (Zof Z L' st') H' L' s v := by
  cases h with
  | p r => exact .p (r.mono f.keeps)
  | r e => exact .r (f.get e)
  | x e1 e2 e3 e4 => exact .x e1 e2 (e3.mono f.keeps) (e4.mono f.keeps)
theorem EnvOk.mono (f : Fw Z L st H L' st' H') {ρ : Env} {σ : St} (h : EnvOk G (Zof Z L st) H L ρ σ) : EnvOk G (Zof Z L' st') H' L' ρ σ :=
  ⟨h.1, fun i s e => let ⟨v, e2, r⟩ := h.2 i s e; ⟨v, e2, r.mono f⟩⟩
/-- only new objects -/
theorem Fw.same (e : Same H H') : Fw Z L st H L st H' := ⟨⟨[], by simp, by simp⟩, fun a o h _ => .of (e a o h), fun a h q => h (by
  cases r : H a with
  | none => rfl
  | some o => rw [e a o r] at q; cases q), fun a o _ h => e a o h, fun n o' _ e l => ⟨o', e, l⟩⟩
theorem SRepF.mono (f : Fw Z L st H L' st' H') : ∀ {ds : List (Str × S)} {vs : List (Str × V)}, SRepF G (Zof Z L st) H L ds vs → SRepF G (Zof Z L' st') H' L' ds vs
  | _, _, .nil => .nil
  | _, _, .cons h t => .cons (h.mono f) (SRepF.mono f t)
theorem OOk.same (e : Same H H') {a : Addr} : ∀ {o : O}, OOk G (Zof Z L st) H L a o → OOk G (Zof Z L st) H' L a o
  | .lst ds, ⟨vs, h, r⟩ => ⟨vs, e _ _ h, r.mono (Fw.same e).keeps⟩
  | .dic ds, ⟨vs, h, r⟩ => ⟨vs, e _ _ h, r.mono (Fw.same e).keeps⟩
  | .diT ds, ⟨vs, h, r⟩ => ⟨vs, e _ _ h, r.mono (Fw.same e).keeps⟩
  | .rows ns, ⟨as, h, r⟩ => ⟨as, e _ _ h, r⟩
  | .ins c fs, ⟨C, dx, vfs, hc, h, r⟩ => ⟨C, dx, vfs, hc, e _ _ h, r.mono (Fw.same e)⟩
  | .frz d, h => Rep.mono (Fw.same e).keeps h
  | .dead, _ => trivial
theorem some_of_same (e : Same H H') {a : Addr} (h : H a ≠ none) : H' a ≠ none := (Fw.same (Z := fun _ => False) (L := []) (st := []) e).there a h
theorem StOk.same (e : Same H H') (h : StOk G Z L st H) : StOk G Z L st H' :=
  ⟨h.len, h.nd, fun n a o e1 e2 => (h.obj n a o e1 e2).same e, fun a z => some_of_same e (h.z0 a z), h.zl, fun a m => some_of_same e (h.lh a m), h.tb.mono fun a o q z => ⟨e a o q, z⟩⟩
theorem same_new {H : Hp} {p : Addr} {o : HO} (h : H p = none) : Same H (upd H p o) := fun b x e => by
  rw [upd_ne (ne_of_none e h)]
  exact e
end

/-! ### the judgements -/
structure Stt (G : Wd) (Z : Zone) (ρ : Env) (st : Sto) (L : List Addr) (σ : St) (H : Hp) : Prop where
  ok : StOk G Z L st H
  env : EnvOk G (Zof Z L st) H L ρ σ
section
variable {G : Wd} {Z : Zone} {ρ : Env} {st st' : Sto} {L L' : List Addr} {σ : St} {H H' : Hp}
theorem Stt.to (S : Stt G Z ρ st L σ H) (f : Fw Z L st H L' st' H') (o : StOk G Z L' st' H') : Stt G Z ρ st' L' σ H' := ⟨o, S.env.mono f⟩
end
/-- an exception that leaves -/
def ExP (G : Wd) (Z : Zone) (L : List Addr) (st : Sto) (H : Hp) (c : Str) (fs : List (Str × D)) (st' : Sto) (P : Value → Option Addr → Hp → Prop) : Prop :=
  ∀ H' L' C dd vfs, Fw Z L st H L' st' H' → StOk G Z L' st' H' → G.cls c = some C → XdAt (Zof Z L' st') H' dd vfs → RepF G (Zof Z L' st') H' fs vfs → P (.ref C) dd H'
def PostR {α β : Type} (G : Wd) (Z : Zone) (W : WX) (R : Zone → Hp → α → β → Prop) (σ : St) (L : List Addr) (st : Sto) (H : Hp) (r : Res α) (Q : β → Hp → Prop) : Prop := match r with
  | .ok d st' => ∀ v H' L', Fw Z L st H L' st' H' → StOk G Z L' st' H' → R (Zof Z L' st') H' d v → Q v H'
  | .exc c fs st' => ExP G Z L st H c fs st' fun cv dd H' => W cv dd σ H'
  | .stuck => False
abbrev RB : Zone → Hp → Bool → Bool → Prop := fun _ _ a b => a = b
def tM (G : Wd) (W : WX) (f : Den) : TE := fun σ H Q => ∃ Z ρ st L, Stt G Z ρ st L σ H ∧ PostR G Z W (fun Z H => Rep G Z H) σ L st H (f ρ st) Q
def tMB (G : Wd) (W : WX) (f : DenB) : TT := fun σ H Q => ∃ Z ρ st L, Stt G Z ρ st L σ H ∧ PostR G Z W RB σ L st H (f ρ st) Q
def tMA (G : Wd) (W : WX) (f : DenL) : TA := fun σ H Q => ∃ Z ρ st L, Stt G Z ρ st L σ H ∧ PostR G Z W (fun Z H => Reps G Z H) σ L st H (f ρ st) Q
/-- an expression that hands back a new list | dict | .. of its own (C: how its content lies) -/
structure FwN (G : Wd) (Z : Zone) (L : List Addr) (st : Sto) (H : Hp) (L' : List Addr) (st' : Sto) (H' : Hp) (p : Addr) : Prop where
  fr : Fw Z L st H L' st' H'
  ok : StOk G (fun a => Z a ∨ a = p) L' st' H'
  new : H p = none
def tMN (G : Wd) (W : WX) (f : Env → Sto → Res O) : TE := fun σ H Q => ∃ Z ρ st L, Stt G Z ρ st L σ H ∧ (match f ρ st with
  | .ok o st' => ∀ p H' L', FwN G Z L st H L' st' H' p → OOk G (Zof (fun a => Z a ∨ a = p) L' st') H' L' p o → Q (.ref p) H'
  | .exc c fs st' => ExP G Z L st H c fs st' fun cv dd H' => W cv dd σ H'
  | .stuck => False)
def PostS (G : Wd) (Z : Zone) (W : WX) (L : List Addr) (st : Sto) (H : Hp) (r : SRes) (E : Ends) : Prop := match r with
  | .next ρ' st' => ∀ σ' H' L', Fw Z L st H L' st' H' → Stt G Z ρ' st' L' σ' H' → E.nx σ' H'
  | .ret d st' => ∀ v H' L', Fw Z L st H L' st' H' → StOk G Z L' st' H' → Rep G (Zof Z L' st') H' d v → E.rt v H'
  | .brk ρ' st' => ∀ σ' H' L', Fw Z L st H L' st' H' → Stt G Z ρ' st' L' σ' H' → E.bk σ' H'
  | .cont ρ' st' => ∀ σ' H' L', Fw Z L st H L' st' H' → Stt G Z ρ' st' L' σ' H' → E.ct σ' H'
  | .exc c fs ρ' st' => ∀ σ' H' L' C dd vfs, Fw Z L st H L' st' H' → Stt G Z ρ' st' L' σ' H' → G.cls c = some C → XdAt (Zof Z L' st') H' dd vfs → RepF G (Zof Z L' st') H' fs vfs → W (.ref C) dd σ' H'
  | .stuck => False
def tMS (G : Wd) (W : WX) (f : SDen) : TS := fun E σ H => ∃ Z ρ st L, Stt G Z ρ st L σ H ∧ PostS G Z W L st H (f ρ st) E
abbrev ME (G : Wd) (W : WX) (X : Cx) (e : Expr) (f : Den) : Prop := PE X e (tM G W f)
abbrev MT (G : Wd) (W : WX) (X : Cx) (e : Expr) (f : DenB) : Prop := PT X e (tMB G W f)
abbrev MW (G : Wd) (W : WX) (X : Cx) (e : Expr) (f : DenB) : Prop := PW X e (tMB G W f)
abbrev MA (G : Wd) (W : WX) (X : Cx) (es : List Expr) (f : DenL) : Prop := PA X es (tMA G W f)
abbrev MN (G : Wd) (W : WX) (X : Cx) (e : Expr) (f : Env → Sto → Res O) : Prop := PE X e (tMN G W f)
abbrev MS (G : Wd) (W : WX) (X : Cx) (s : Stmt) (f : SDen) : Prop := PS X s (tMS G W f)
abbrev MSs (G : Wd) (W : WX) (X : Cx) (s : List Stmt) (f : SDen) : Prop := PSs X s (tMS G W f)
section
variable {X : Cx} {e : Expr} {es : List Expr}
theorem PE.imp {t t' : TE} (h : PE X e t) (i : ∀ σ H Q, t' σ H Q → t σ H Q) : PE X e t' := ⟨fun pins s σ H Q I q => h.run pins s σ H Q I (i σ H Q q)⟩
theorem PT.imp {t t' : TT} (h : PT X e t) (i : ∀ σ H Q, t' σ H Q → t σ H Q) : PT X e t' := ⟨fun pins s σ H Q I q => h.run pins s σ H Q I (i σ H Q q)⟩
theorem PW.imp {t t' : TT} (h : PW X e t) (i : ∀ σ H Q, t' σ H Q → t σ H Q) : PW X e t' := ⟨fun wh pins s σ H Q I q => h.run wh pins s σ H Q I (i σ H Q q)⟩
theorem PA.imp {t t' : TA} (h : PA X es t) (i : ∀ σ H Q, t' σ H Q → t σ H Q) : PA X es t' := ⟨fun pos pins s σ H Q I q => h.run pos pins s σ H Q I (i σ H Q q)⟩
theorem PS.imp {s : Stmt} {t t' : TS} (h : PS X s t) (i : ∀ D σ H, t' D σ H → t D σ H) : PS X s t' := ⟨fun pins sh σ H D I q => h.run pins sh σ H D I (i D σ H q)⟩
theorem PSs.imp {s : List Stmt} {t t' : TS} (h : PSs X s t) (i : ∀ D σ H, t' D σ H → t D σ H) : PSs X s t' := ⟨fun pins sh σ H D I q => h.run pins sh σ H D I (i D σ H q)⟩
end
/-- an exception further on -/
theorem ExP.on {G : Wd} {Z : Zone} {L L' : List Addr} {st st' st2 : Sto} {H H' : Hp} {c : Str} {fs : List (Str × D)} {P : Value → Option Addr → Hp → Prop} (f : Fw Z L st H L' st' H') (h : ExP G Z L st H c fs st2 P) : ExP G Z L' st' H' c fs st2 P :=
  fun H2 L2 C dd vfs g => h H2 L2 C dd vfs (f.trans g)
/-- the step of a sequence: from the first part's end to the whole -/
theorem PostR.bind {α β α' β' : Type} {G : Wd} {Z : Zone} {W : WX} {R : Zone → Hp → α → β → Prop} {R' : Zone → Hp → α' → β' → Prop} {σ : St} {L : List Addr} {st : Sto} {H : Hp} {r : Res α} {k : α → Sto → Res α'} {Q' : β' → Hp → Prop} {Q : β → Hp → Prop}
    (h : PostR G Z W R' σ L st H (r.bind k) Q')
    (hk : ∀ d st1 v H1 L1, r = .ok d st1 → Fw Z L st H L1 st1 H1 → StOk G Z L1 st1 H1 → R (Zof Z L1 st1) H1 d v → PostR G Z W R' σ L1 st1 H1 (k d st1) Q' → Q v H1) : PostR G Z W R σ L st H r Q := by
  cases r with
  | ok d st1 =>
    intro v H1 L1 f o rv
    refine hk d st1 v H1 L1 rfl f o rv ?_
    have h' : PostR G Z W R' σ L st H (k d st1) Q' := h
    revert h'
    cases k d st1 with
    | ok d2 st2 => exact fun h' v2 H2 L2 f2 o2 r2 => h' v2 H2 L2 (f.trans f2) o2 r2
    | exc c fs st2 => exact fun h' => ExP.on (P := fun cv dd H' => W cv dd σ H') f h'
    | stuck => exact fun h' => h'
  | exc c fs st1 => exact h
  | stuck => exact h
end M
namespace M
open PySem PySem.Spec L2

/-! ### views: what may be read, though its container be live -/
inductive View (G : Wd) (Z : Zone) (H : Hp) : D → V → Prop
  | rep {d : D} {v : V} : Rep G Z H d v → View G Z H d v
  | lst {a : Addr} {vs : List V} {ds : List D} : Rd H a (.lst vs) → Reps G Z H ds vs → View G Z H (.lst ds) (.ref a)
  | dK {a : Addr} {kvs : List (Key × V)} {ds : List (D × D)} : Rd H a (.dK kvs) → RepK G Z H ds kvs → View G Z H (.dic ds) (.ref a)
  | dT {a : Addr} {kvs : List (List Key × V)} {ds : List (D × D)} : Rd H a (.dT kvs) → RepT G Z H ds kvs → View G Z H (.diT ds) (.ref a)
def tMV (G : Wd) (W : WX) (f : Den) : TE := fun σ H Q => ∃ Z ρ st L, Stt G Z ρ st L σ H ∧ PostR G Z W (fun Z H => View G Z H) σ L st H (f ρ st) Q
abbrev MV (G : Wd) (W : WX) (X : Cx) (e : Expr) (f : Den) : Prop := PE X e (tMV G W f)
section
variable {G : Wd} {W : WX} {X : Cx} {Z Z' : Zone} {H H' : Hp}
theorem View.tup {ds : List D} {v : V} (h : View G Z H (.tup ds) v) : ∃ a vs, v = .ref a ∧ SqT G.K H a vs ∧ Reps G Z H ds vs := by
  cases h with
  | rep h => cases h with
    | tup r z h => exact ⟨_, _, rfl, .inl r, h⟩
    | tupK r h => exact ⟨_, _, rfl, .inr r, h⟩
theorem View.list {ds : List D} {v : V} (h : View G Z H (.lst ds) v) : ∃ a vs, v = .ref a ∧ Rd H a (.lst vs) ∧ Reps G Z H ds vs := by
  cases h with
  | rep h => cases h with
    | lst r z h => exact ⟨_, _, rfl, r, h⟩
  | lst r h => exact ⟨_, _, rfl, r, h⟩
theorem Rep.tup' {ds : List D} {v : V} (h : Rep G Z H (.tup ds) v) : ∃ a vs, v = .ref a ∧ SqT G.K H a vs ∧ Reps G Z H ds vs := View.tup (.rep h)
theorem Rep.list' {ds : List D} {v : V} (h : Rep G Z H (.lst ds) v) : ∃ a vs, v = .ref a ∧ Rd H a (.lst vs) ∧ Reps G Z H ds vs := View.list (.rep h)
theorem Rep.int' {i : Int} {v : V} (h : Rep G Z H (.int i) v) : v = .int i := by cases h; rfl
theorem Rep.bl' {i : Bool} {v : V} (h : Rep G Z H (.bl i) v) : v = .bl i := by cases h; rfl
theorem Rep.str' {i : Str} {v : V} (h : Rep G Z H (.str i) v) : v = .str i := by cases h; rfl
theorem Rep.non' {v : V} (h : Rep G Z H .non v) : v = .non := by cases h; rfl
theorem View.int' {i : Int} {v : V} (h : View G Z H (.int i) v) : v = .int i := by cases h with | rep h => exact h.int'
theorem View.bl' {i : Bool} {v : V} (h : View G Z H (.bl i) v) : v = .bl i := by cases h with | rep h => exact h.bl'
theorem View.str' {i : Str} {v : V} (h : View G Z H (.str i) v) : v = .str i := by cases h with | rep h => exact h.str'
theorem View.mono (k : Keeps Z Z' H H') (kl : ∀ a u, Rd H a u → Rd H' a u) {d : D} {v : V} (h : View G Z H d v) : View G Z' H' d v := by
  cases h with
  | rep h => exact .rep (h.mono k)
  | lst r h => exact .lst (kl _ _ r) (h.mono k)
  | dK r h => exact .dK (kl _ _ r) (h.mono k)
  | dT r h => exact .dT (kl _ _ r) (h.mono k)
theorem Same.rd (e : Same H H') (a : Addr) (u : HO) (h : Rd H a u) : Rd H' a u := by
  rcases h with h | ⟨o, h⟩
  · exact .inl (e _ _ h)
  · exact .inr ⟨o, e _ _ h⟩
/-- the zone lies within what is tracked -/
def In (Z : Zone) (H : Hp) : Prop := ∀ a, Z a → H a ≠ none
theorem Same.keeps (e : Same H H') : Keeps Z Z H H' := fun a o h z => ⟨.of (e a o h), z⟩
theorem In.same (i : In Z H) (e : Same H H') : In Z H' := fun a z => some_of_same e (i a z)
theorem In.not (i : In Z H) {p : Addr} (h : H p = none) : ¬ Z p := fun z => i p z h
theorem Reps.new {ds : List D} {vs : List V} {p : Addr} {o : HO} (r : Reps G Z H ds vs) (h : H p = none) : Reps G Z (upd H p o) ds vs := r.mono (Same.keeps (same_new h))
theorem new_tup {ds : List D} {vs : List V} {p : Addr} (i : In Z H) (r : Reps G Z H ds vs) (h : H p = none) : Rep G Z (upd H p (.tup vs)) (.tup ds) (.ref p) :=
  .tup (.inl upd_same) (i.not h) (r.new h)
theorem new_lst {ds : List D} {vs : List V} {p : Addr} (i : In Z H) (r : Reps G Z H ds vs) (h : H p = none) : Rep G Z (upd H p (.lst vs)) (.lst ds) (.ref p) :=
  .lst (.inl upd_same) (i.not h) (r.new h)
theorem StOk.inn {L : List Addr} {st : Sto} (S : StOk G Z L st H) : In (Zof Z L st) H := fun a z => by
  rcases z with z | ⟨n, o, e, _, _⟩
  · exact S.z0 a z
  · exact S.lh a (List.mem_of_getElem? e)
end

/-! ### names, constants -/
@[simp] def eC (d : D) : Den := fun _ st => .ok d st
@[simp] def thaw : O → Option D
  | .frz d => some d | .lst ds => some (.lst ds) | .dic kvs => some (.dic kvs) | .diT kvs => some (.diT kvs) | _ => none
@[simp] def eVar (i : Nat) : Den := fun ρ st => match ρ[i]? with
  | some (some (.p d)) => .ok d st
  | some (some (.r n)) => match (st[n]?).bind thaw with
    | some d => .ok d (st.set n (.frz d))
    | none => .stuck
  | _ => .stuck
/-- a name read within an operation that lets nothing of it go -/
@[simp] def eVarB (i : Nat) : Den := fun ρ st => match ρ[i]? with
  | some (some (.p d)) => .ok d st
  | some (some (.r n)) => match (st[n]?).bind thaw with
    | some d => .ok d st
    | none => .stuck
  | _ => .stuck
section
variable {G : Wd} {W : WX} {X : Cx} {Z Z' : Zone} {H H' : Hp} {L : List Addr} {st : Sto}
theorem PostR.pure {α β : Type} {R : Zone → Hp → α → β → Prop} {σ : St} {d : α} {v : β} {Q : β → Hp → Prop} (S : StOk G Z L st H) (h : PostR G Z W R σ L st H (.ok d st) Q) (r : R (Zof Z L st) H d v) : Q v H :=
  h v H L Fw.refl S r
theorem me_c {e : Expr} {d : D} {v : V} (h : PE X e (tC v)) (r : ∀ Z H, Rep G Z H d v) : ME G W X e (eC d) :=
  PE.imp h fun σ H Q q => by
    obtain ⟨Z, ρ, st, L, S, h⟩ := q
    exact PostR.pure (W := W) (R := fun Z H => Rep G Z H) S.ok h (r _ _)
theorem me_int {i : Int} {j pos} : ME G W X (.Constant (.int i) j pos) (eC (.int i)) := me_c pe_int fun _ _ => .int i
theorem me_bl {b : Bool} {j pos} : ME G W X (.Constant (.bool b) j pos) (eC (.bl b)) := me_c pe_bl fun _ _ => .bl b
theorem me_non {j pos} : ME G W X (.Constant .none j pos) (eC .non) := me_c pe_non fun _ _ => .non
theorem me_str {x : Str} {j pos} : ME G W X (.Constant (.str x) j pos) (eC (.str x)) := me_c pe_str fun _ _ => .str x
theorem OOk.thaw {a : Addr} {o : O} {d : D} (zl : ¬ Z a) (h : OOk G (Zof Z L st) H L a o) (e : M.thaw o = some d) : View G (Zof Z L st) H d (.ref a) := by
  cases o with
  | lst ds =>
    obtain ⟨vs, h1, h2⟩ := h
    cases e
    exact .lst (.inl h1) h2
  | dic ds =>
    cases e
    obtain ⟨kvs, h1, h2⟩ := h
    exact .dK (.inl h1) h2
  | diT ds =>
    cases e
    obtain ⟨kvs, h1, h2⟩ := h
    exact .dT (.inl h1) h2
  | frz d =>
    cases e
    exact .rep h
  | rows ns => cases e
  | ins c fs => cases e
  | dead => cases e
theorem getElem?_set_cases {α : Type} {l : List α} {n m : Nat} {x y : α} (h : (l.set n x)[m]? = some y) : (m = n ∧ y = x ∧ n < l.length) ∨ (m ≠ n ∧ l[m]? = some y) := by
  by_cases e : m = n
  · subst e
    by_cases hl : m < l.length
    · rw [List.getElem?_set_self hl] at h
      exact .inl ⟨rfl, (Option.some.inj h).symm, hl⟩
    · rw [List.getElem?_eq_none (by simpa using hl)] at h
      cases h
  · rw [List.getElem?_set_ne (Ne.symm e)] at h
    exact .inr ⟨e, h⟩
theorem nodup_at {l : List Addr} (nd : l.Nodup) {i j : Nat} {a : Addr} (h : l[i]? = some a) (h' : l[j]? = some a) : i = j := by
  obtain ⟨hi, ei⟩ := List.getElem?_eq_some_iff.mp h
  obtain ⟨hj, ej⟩ := List.getElem?_eq_some_iff.mp h'
  exact (List.getElem_inj (h₀ := hi) (h₁ := hj) nd).mp (by rw [ei, ej])
/-- a store object written at n: the state behind -/
theorem Fw.setN (S : StOk G Z L st H) {n : Nat} {o o' : O} (e : st[n]? = some o) (lv : o'.live = true → o.live = true) : Fw Z L st H L (st.set n o') H :=
  ⟨⟨[], by simp, by simp⟩, fun _ _ h _ => .of h, fun _ h => h, fun _ _ _ h => h, fun m o2 hm e2 l2 => by
    rcases getElem?_set_cases e2 with ⟨rfl, rfl, _⟩ | ⟨_, h⟩
    · exact ⟨o, e, lv l2⟩
    · exact ⟨o2, h, l2⟩⟩
theorem OOk.mono {L' : List Addr} {st' : Sto} (f : Fw Z L st H L' st' H') {a : Addr} (k : H' a = H a) : ∀ {o : O}, OOk G (Zof Z L st) H L a o → OOk G (Zof Z L' st') H' L' a o
  | .lst ds, ⟨vs, h, r⟩ => ⟨vs, k.trans h, r.mono f.keeps⟩
  | .dic ds, ⟨vs, h, r⟩ => ⟨vs, k.trans h, r.mono f.keeps⟩
  | .diT ds, ⟨vs, h, r⟩ => ⟨vs, k.trans h, r.mono f.keeps⟩
  | .rows ns, ⟨as, h, r⟩ => ⟨as, k.trans h, r.mono fun _ _ e => f.get e⟩
  | .ins c fs, ⟨C, dx, vfs, hc, h, r⟩ => ⟨C, dx, vfs, hc, k.trans h, r.mono f⟩
  | .frz d, h => Rep.mono f.keeps h
  | .dead, _ => trivial
theorem StOk.freeze (S : StOk G Z L st H) {n : Nat} {o : O} {d : D} (e : st[n]? = some o) (t : M.thaw o = some d) : StOk G Z L (st.set n (.frz d)) H := by
  have f : Fw Z L st H L (st.set n (.frz d)) H := Fw.setN S e fun z => nomatch z
  refine ⟨by simpa using S.len, S.nd, fun m a o' e1 e2 => ?_, S.z0, S.zl, S.lh, S.tb.mono fun a o q z => ⟨q, (f.keeps a o q z).2⟩⟩
  rcases getElem?_set_cases e2 with ⟨rfl, rfl, hl⟩ | ⟨_, h⟩
  · have ok := S.obj m a o e1 e
    have za : ¬ Zof Z L (st.set m (.frz d)) a := fun z => by
      rcases z with z | ⟨j, u, j1, j2, j3⟩
      · exact S.zl a (List.mem_of_getElem? e1) z
      · have := nodup_at S.nd j1 e1
        subst this
        rw [List.getElem?_set_self hl] at j2
        cases j2
        cases j3
    cases o with
    | lst ds =>
      obtain ⟨vs, h1, h2⟩ := ok
      cases t
      exact .lst (.inl h1) za (h2.mono f.keeps)
    | dic ds =>
      cases t
      obtain ⟨kvs, h1, h2⟩ := ok
      exact .dK (.inl h1) za (h2.mono f.keeps)
    | diT ds =>
      cases t
      obtain ⟨kvs, h1, h2⟩ := ok
      exact .dT (.inl h1) za (h2.mono f.keeps)
    | frz d' =>
      cases t
      exact Rep.mono f.keeps ok
    | ins c fs => cases t
    | rows ns => cases t
    | dead => cases t
  · exact (S.obj m a o' e1 h).mono f rfl
theorem me_var (i : Nat) {x : Str} {pos : Pos} (h : PE X (.Name x pos) (tVar i)) : ME G W X (.Name x pos) (eVar i) :=
  PE.imp h fun σ H Q q => by
    obtain ⟨Z, ρ, st, L, S, h⟩ := q
    unfold eVar at h
    split at h
    · rename_i d e
      obtain ⟨v, ev, r⟩ := S.env.2 i _ e
      cases r with
      | p r => exact ⟨v, ev, PostR.pure (W := W) (R := fun Z H => Rep G Z H) S.ok h r⟩
    · rename_i n e
      obtain ⟨v, ev, r⟩ := S.env.2 i _ e
      cases r with
      | r r =>
        rename_i a
        split at h
        · rename_i d ed
          obtain ⟨o, eo, et⟩ := Option.bind_eq_some_iff.mp ed
          have f : Fw Z L st H L (st.set n (.frz d)) H := Fw.setN S.ok eo fun z => nomatch z
          have S2 := S.ok.freeze eo et
          refine ⟨_, ev, h _ H L f S2 ?_⟩
          exact S2.obj n a (.frz d) r (List.getElem?_set_self (List.getElem?_eq_some_iff.mp eo).1)
        · exact h.elim
    · exact h.elim
theorem mv_var (i : Nat) {x : Str} {pos : Pos} (h : PE X (.Name x pos) (tVar i)) : MV G W X (.Name x pos) (eVarB i) :=
  PE.imp h fun σ H Q q => by
    obtain ⟨Z, ρ, st, L, S, h⟩ := q
    unfold eVarB at h
    split at h
    · rename_i d e
      obtain ⟨v, ev, r⟩ := S.env.2 i _ e
      cases r with
      | p r => exact ⟨v, ev, PostR.pure (W := W) (R := fun Z H => View G Z H) S.ok h (.rep r)⟩
    · rename_i n e
      obtain ⟨v, ev, r⟩ := S.env.2 i _ e
      cases r with
      | r r =>
        rename_i a
        split at h
        · rename_i d ed
          obtain ⟨o, eo, et⟩ := Option.bind_eq_some_iff.mp ed
          exact ⟨_, ev, PostR.pure (W := W) (R := fun Z H => View G Z H) S.ok h ((S.ok.obj n a o r eo).thaw (S.ok.zl a (List.mem_of_getElem? r)) et)⟩
        · exact h.elim
    · exact h.elim
theorem mv_of {e : Expr} {f : Den} (h : ME G W X e f) : MV G W X e f :=
  PE.imp h fun σ H Q q => by
    obtain ⟨Z, ρ, st, L, S, h⟩ := q
    refine ⟨Z, ρ, st, L, S, ?_⟩
    cases e : f ρ st with
    | ok d st' =>
      rw [e] at h
      exact fun v H' L' f o r => h v H' L' f o (.rep r)
    | exc c fs st' => rw [e] at h; exact h
    | stuck => rw [e] at h; exact h
end

/-! ### operations by values -/
@[simp] def eOp1 (g : D → Option D) (f : Den) : Den := fun ρ st => (f ρ st).bind fun d st => match g d with | some z => .ok z st | none => .stuck
@[simp] def eOp2 (g : D → D → Option D) (f h : Den) : Den := fun ρ st => (f ρ st).bind fun d st => (h ρ st).bind fun e st => match g d e with | some z => .ok z st | none => .stuck
/-- what an operation's reading r asks is had from g -/
def Sim1 (G : Wd) (g : D → Option D) (r : V → Hp → VK → Prop) : Prop := ∀ Z H d x z Q, In Z H → View G Z H d x → g d = some z → (∀ v H', Same H H' → Rep G Z H' z v → Q v H') → r x H Q
def Sim2 (G : Wd) (g : D → D → Option D) (r : R2) : Prop := ∀ Z H d e x y z Q, In Z H → View G Z H d x → View G Z H e y → g d e = some z → (∀ v H', Same H H' → Rep G Z H' z v → Q v H') → r x y H Q
section
variable {G : Wd} {W : WX} {X : Cx}
theorem me_un {op : UnaryOp} {r : V → Hp → VK → Prop} {a : Expr} {f : Den} {pos : Pos} {g : D → Option D} (ho : UnR X (unaryOp op) r) (s : Sim1 G g r) (ha : MV G W X a f) : ME G W X (.UnaryOp op a pos) (eOp1 g f) :=
  PE.imp (pe_un ho ha) fun σ H Q q => by
    obtain ⟨Z, ρ, st, L, S, h⟩ := q
    refine ⟨Z, ρ, st, L, S, PostR.bind h fun d st1 v H1 L1 e f1 o1 r1 h1 => ?_⟩
    split at h1
    · rename_i z ez
      exact s _ _ _ _ z _ o1.inn r1 ez fun v' H' e' r' => h1 v' H' L1 (Fw.same e') (o1.same e') r'
    · exact h1.elim
/-- two parts, then what they give -/
theorem two {f h : Den} {g : D → D → Option D} {r : R2} (s : Sim2 G g r) {σ : St} {H : Hp} {Q : VK} (q : tM G W (eOp2 g f h) σ H Q) : tM G W f σ H fun x H1 => tMV G W h σ H1 fun y H2 => r x y H2 Q := by
  obtain ⟨Z, ρ, st, L, S, q⟩ := q
  refine ⟨Z, ρ, st, L, S, PostR.bind q fun d st1 x H1 L1 e f1 o1 r1 q1 => ?_⟩
  refine ⟨Z, ρ, st1, L1, S.to f1 o1, PostR.bind q1 fun d2 st2 y H2 L2 e2 f2 o2 r2 q2 => ?_⟩
  split at q2
  · rename_i z ez
    exact s _ _ _ _ _ _ z _ o2.inn (.rep (r1.mono f2.keeps)) r2 ez fun v' H' e' r' => q2 v' H' L2 (Fw.same e') (o2.same e') r'
  · exact q2.elim
/-- .. the first a name whose content is looked at last -/
@[simp] def eOp2P (g : D → D → Option D) (i : Nat) (h : Den) : Den := fun ρ st => (eVarB i ρ st).bind fun _ st => (h ρ st).bind fun e st => (eVarB i ρ st).bind fun d st => match g d e with | some z => .ok z st | none => .stuck
theorem varB {Z : Zone} {ρ : Env} {st : Sto} {L : List Addr} {σ : St} {H : Hp} (S : Stt G Z ρ st L σ H) {i : Nat} {d : D} {st' : Sto} (e : eVarB i ρ st = .ok d st') : st' = st ∧ ∃ v, σ[i]? = some (some v) ∧ View G (Zof Z L st) H d v := by
  unfold eVarB at e
  split at e
  · rename_i d' ed
    obtain ⟨v, ev, r⟩ := S.env.2 i _ ed
    cases e
    cases r with
    | p r => exact ⟨rfl, v, ev, .rep r⟩
  · rename_i n ed
    obtain ⟨v, ev, r⟩ := S.env.2 i _ ed
    cases r with
    | r r =>
      rename_i a
      split at e
      · rename_i d' et
        cases e
        obtain ⟨o, eo, et⟩ := Option.bind_eq_some_iff.mp et
        exact ⟨rfl, _, ev, (S.ok.obj n a o r eo).thaw (S.ok.zl a (List.mem_of_getElem? r)) et⟩
      · cases e
  · cases e
theorem varB_exc {ρ : Env} {st : Sto} {i : Nat} {c : Str} {fs : List (Str × D)} {st' : Sto} (e : eVarB i ρ st = .exc c fs st') : False := by
  unfold eVarB at e
  split at e
  · cases e
  · split at e <;> cases e
  · cases e
theorem two_p {h : Den} {i : Nat} {g : D → D → Option D} {r : R2} (s : Sim2 G g r) {σ : St} {H : Hp} {Q : VK} (q : tM G W (eOp2P g i h) σ H Q) : tVar i σ H fun x H1 => tMV G W h σ H1 fun y H2 => r x y H2 Q := by
  obtain ⟨Z, ρ, st, L, S, q⟩ := q
  unfold eOp2P at q
  cases e0 : eVarB i ρ st with
  | stuck => rw [e0] at q; exact q.elim
  | exc c fs st3 => exact (varB_exc e0).elim
  | ok d0 st0 =>
    rw [e0] at q
    obtain ⟨rfl, v, ev, w⟩ := varB S e0
    refine ⟨v, ev, Z, ρ, _, L, S, PostR.bind q fun d2 st2 y H2 L2 e2 f2 o2 r2 q2 => ?_⟩
    cases e1 : eVarB i ρ st2 with
    | stuck => rw [e1] at q2; exact q2.elim
    | exc c fs st3 => exact (varB_exc e1).elim
    | ok d st3 =>
      rw [e1] at q2
      obtain ⟨rfl, v', ev', w⟩ := varB (S.to f2 o2) e1
      rw [ev] at ev'
      cases ev'
      have q2 : PostR G Z W (fun Z H => Rep G Z H) σ L2 _ H2 (match g d d2 with | some z => Res.ok z _ | none => .stuck) Q := q2
      split at q2
      · rename_i z ez
        exact s _ _ _ _ _ _ z _ o2.inn w r2 ez fun v' H' e' r' => q2 v' H' L2 (Fw.same e') (o2.same e') r'
      · exact q2.elim
theorem me_bin {op : Operator} {r : R2} {a b : Expr} {f h : Den} {pos : Pos} {g : D → D → Option D} (ho : OpR X (binaryOp op) r) (s : Sim2 G g r) (ha : ME G W X a f) (hb : MV G W X b h) : ME G W X (.BinOp a op b pos) (eOp2 g f h) :=
  PE.imp (pe_op ho ha hb) fun σ H Q q => two s q
theorem me_cmp {op : CmpOp} {r : R2} {a b : Expr} {f h : Den} {pos : Pos} {g : D → D → Option D} (ho : OpR X (compareOp op) r) (s : Sim2 G g r) (ha : ME G W X a f) (hb : MV G W X b h) (hm : behindInMarks op b = false) : ME G W X (.Compare a [op] [b] pos) (eOp2 g f h) :=
  PE.imp (pe_cmpR ho ha hb hm) fun σ H Q q => two s q
theorem me_cmpP {op : CmpOp} {r : R2} {x : Str} {i : Nat} {b : Expr} {h : Den} {pos p : Pos} {g : D → D → Option D} (ho : OpR X (compareOp op) r) (s : Sim2 G g r) (ha : PE X (.Name x p) (tVar i)) (hb : MV G W X b h) (hm : behindInMarks op b = false) : ME G W X (.Compare (.Name x p) [op] [b] pos) (eOp2P g i h) :=
  PE.imp (pe_cmpR ho ha hb hm) fun σ H Q q => two_p s q
theorem me_ix {r : R2} {a b : Expr} {f h : Den} {pos : Pos} {g : D → D → Option D} (ho : IxR X r) (s : Sim2 G g r) (ha : ME G W X a f) (hb : MV G W X b h) (hs : PlainIx b) : ME G W X (.Subscript a b pos) (eOp2 g f h) :=
  PE.imp (pe_ix ho ha hb hs) fun σ H Q q => two s q
theorem me_ixP {r : R2} {x : Str} {i : Nat} {b : Expr} {h : Den} {pos p : Pos} {g : D → D → Option D} (ho : IxR X r) (s : Sim2 G g r) (ha : PE X (.Name x p) (tVar i)) (hb : MV G W X b h) (hs : PlainIx b) : ME G W X (.Subscript (.Name x p) b pos) (eOp2P g i h) :=
  PE.imp (pe_ix ho ha hb hs) fun σ H Q q => two_p s q
end

/-! ### tests -/
@[simp] def eB (f : Den) : DenB := fun ρ st => (f ρ st).bind fun d st => match d with | .bl b => .ok b st | _ => .stuck
@[simp] def eAnd (f h : DenB) : DenB := fun ρ st => (f ρ st).bind fun b st => if b = true then h ρ st else .ok false st
@[simp] def eOr (f h : DenB) : DenB := fun ρ st => (f ρ st).bind fun b st => if b = true then .ok true st else h ρ st
@[simp] def eNot (f : DenB) : DenB := fun ρ st => (f ρ st).bind fun b st => .ok (!b) st
@[simp] def eBV (f : DenB) : Den := fun ρ st => (f ρ st).bind fun b st => .ok (.bl b) st
@[simp] def eIf {α : Type} (c : DenB) (f h : Env → Sto → Res α) : Env → Sto → Res α := fun ρ st => (c ρ st).bind fun b st => if b = true then f ρ st else h ρ st
section
variable {G : Wd} {W : WX} {X : Cx}
theorem toB {f : Den} {σ : St} {H : Hp} {Q : Bool → Hp → Prop} (q : tMB G W (eB f) σ H Q) : tM G W f σ H fun x H' => ∃ k, x = .bl k ∧ Q k H' := by
  obtain ⟨Z, ρ, st, L, S, q⟩ := q
  refine ⟨Z, ρ, st, L, S, PostR.bind q fun d st1 x H1 L1 e f1 o1 r1 q1 => ?_⟩
  split at q1
  · rename_i b
    exact ⟨b, r1.bl', PostR.pure (W := W) (R := RB) o1 q1 rfl⟩
  · exact q1.elim
theorem mt_val {e : Expr} {f : Den} (h : ME G W X e f) (he : ∀ whole, isTrue e X.env whole = (do let v ← whole; standAt e.pos; holding [v] (truthy v)) := by intro _; rfl) : MT G W X e (eB f) :=
  PT.imp (pt_val h he) fun σ H Q q => by
    obtain ⟨Z, ρ, st, L, S, r⟩ := toB q
    exact ⟨Z, ρ, st, L, S, r⟩
theorem mt_cmp {op : CmpOp} {r : R2} {a b : Expr} {f h : Den} {pos : Pos} {g : D → D → Option D} (ho : OpR X (compareOp op) r) (s : Sim2 G g r) (ha : ME G W X a f) (hb : MV G W X b h) (hm : behindInMarks op b = false) : MT G W X (.Compare a [op] [b] pos) (eB (eOp2 g f h)) :=
  PT.imp (pt_cmpR ho ha hb hm) fun σ H Q q => two s (toB q)
theorem mt_cmpP {op : CmpOp} {r : R2} {x : Str} {i : Nat} {b : Expr} {h : Den} {pos p : Pos} {g : D → D → Option D} (ho : OpR X (compareOp op) r) (s : Sim2 G g r) (ha : PE X (.Name x p) (tVar i)) (hb : MV G W X b h) (hm : behindInMarks op b = false) : MT G W X (.Compare (.Name x p) [op] [b] pos) (eB (eOp2P g i h)) :=
  PT.imp (pt_cmpR ho ha hb hm) fun σ H Q q => two_p s (toB q)
theorem mt_not {a : Expr} {pos : Pos} {f : DenB} (h : MT G W X a f) : MT G W X (.UnaryOp .Not a pos) (eNot f) :=
  PT.imp (pt_not h) fun σ H Q q => by
    obtain ⟨Z, ρ, st, L, S, q⟩ := q
    refine ⟨Z, ρ, st, L, S, PostR.bind q fun d st1 x H1 L1 e f1 o1 r1 q1 => ?_⟩
    subst r1
    exact PostR.pure (W := W) (R := RB) o1 q1 rfl
theorem mw_and1 {a : Expr} {pos : Pos} {f : DenB} (h : MT G W X a f) : MW G W X (.BoolOp .And [a] pos) f := pw_and1 h
theorem mw_or1 {a : Expr} {pos : Pos} {f : DenB} (h : MT G W X a f) : MW G W X (.BoolOp .Or [a] pos) f := pw_or1 h
theorem mw_and {a b : Expr} {rest : List Expr} {pos : Pos} {f h : DenB} (ha : MT G W X a f) (hb : MW G W X (.BoolOp .And (b :: rest) pos) h) : MW G W X (.BoolOp .And (a :: b :: rest) pos) (eAnd f h) :=
  PW.imp (pw_and ha hb) fun σ H Q q => by
    obtain ⟨Z, ρ, st, L, S, q⟩ := q
    refine ⟨Z, ρ, st, L, S, PostR.bind q fun d st1 x H1 L1 e f1 o1 r1 q1 => ?_⟩
    subst r1
    cases d with
    | true => exact ⟨Z, ρ, st1, L1, S.to f1 o1, q1⟩
    | false => exact PostR.pure (W := W) (R := RB) o1 q1 rfl
theorem mw_or {a b : Expr} {rest : List Expr} {pos : Pos} {f h : DenB} (ha : MT G W X a f) (hb : MW G W X (.BoolOp .Or (b :: rest) pos) h) : MW G W X (.BoolOp .Or (a :: b :: rest) pos) (eOr f h) :=
  PW.imp (pw_or ha hb) fun σ H Q q => by
    obtain ⟨Z, ρ, st, L, S, q⟩ := q
    refine ⟨Z, ρ, st, L, S, PostR.bind q fun d st1 x H1 L1 e f1 o1 r1 q1 => ?_⟩
    subst r1
    cases d with
    | true => exact PostR.pure (W := W) (R := RB) o1 q1 rfl
    | false => exact ⟨Z, ρ, st1, L1, S.to f1 o1, q1⟩
theorem mt_w {e : Expr} {f : DenB} (h : MW G W X e f) : MT G W X e f := h.pt
/-- .. as values -/
theorem fromB {f : DenB} {σ : St} {H : Hp} {Q : VK} (q : tM G W (eBV f) σ H Q) : tMB G W f σ H fun b H' => Q (.bl b) H' := by
  obtain ⟨Z, ρ, st, L, S, q⟩ := q
  refine ⟨Z, ρ, st, L, S, PostR.bind q fun d st1 x H1 L1 e f1 o1 r1 q1 => ?_⟩
  subst r1
  exact PostR.pure (W := W) (R := fun Z H => Rep G Z H) o1 q1 (.bl _)
/-- a and b, a or b, not a as values: the parts bools -/
@[simp] def eAndV (f h : Den) : Den := fun ρ st => (f ρ st).bind fun d st => match d with | .bl b => (if b = true then h ρ st else .ok (.bl false) st) | _ => .stuck
@[simp] def eOrV (f h : Den) : Den := fun ρ st => (f ρ st).bind fun d st => match d with | .bl b => (if b = true then .ok (.bl true) st else h ρ st) | _ => .stuck
@[simp] def eNotV (f : Den) : Den := fun ρ st => (f ρ st).bind fun d st => match d with | .bl b => .ok (.bl (!b)) st | _ => .stuck
abbrev RD (G : Wd) : Zone → Hp → D → V → Prop := fun Z H => Rep G Z H
theorem me_one {a : Expr} {op} {pos : Pos} {f : Den} (h : ME G W X a f) : ME G W X (.BoolOp op [a] pos) f := pe_one h
theorem me_and {a b : Expr} {rest : List Expr} {pos : Pos} {f h : Den} (ha : ME G W X a f) (hb : ME G W X (.BoolOp .And (b :: rest) pos) h) : ME G W X (.BoolOp .And (a :: b :: rest) pos) (eAndV f h) :=
  PE.imp (pe_and ha hb) fun σ H Q q => by
    obtain ⟨Z, ρ, st, L, S, q⟩ := q
    refine ⟨Z, ρ, st, L, S, PostR.bind q fun d st1 x H1 L1 e f1 o1 r1 q1 => ?_⟩
    cases d with
    | bl b =>
      refine ⟨b, r1.bl', ?_⟩
      cases b with
      | true => exact ⟨Z, ρ, st1, L1, S.to f1 o1, q1⟩
      | false => exact PostR.pure (W := W) (R := RD G) o1 q1 (.bl _)
    | _ => exact q1.elim
theorem me_or {a b : Expr} {rest : List Expr} {pos : Pos} {f h : Den} (ha : ME G W X a f) (hb : ME G W X (.BoolOp .Or (b :: rest) pos) h) : ME G W X (.BoolOp .Or (a :: b :: rest) pos) (eOrV f h) :=
  PE.imp (pe_or ha hb) fun σ H Q q => by
    obtain ⟨Z, ρ, st, L, S, q⟩ := q
    refine ⟨Z, ρ, st, L, S, PostR.bind q fun d st1 x H1 L1 e f1 o1 r1 q1 => ?_⟩
    cases d with
    | bl b =>
      refine ⟨b, r1.bl', ?_⟩
      cases b with
      | true => exact PostR.pure (W := W) (R := RD G) o1 q1 (.bl _)
      | false => exact ⟨Z, ρ, st1, L1, S.to f1 o1, q1⟩
    | _ => exact q1.elim
theorem me_not {a : Expr} {pos : Pos} {f : Den} (ha : ME G W X a f) : ME G W X (.UnaryOp .Not a pos) (eNotV f) :=
  PE.imp (pe_not ha) fun σ H Q q => by
    obtain ⟨Z, ρ, st, L, S, q⟩ := q
    refine ⟨Z, ρ, st, L, S, PostR.bind q fun d st1 x H1 L1 e f1 o1 r1 q1 => ?_⟩
    cases d with
    | bl b => exact ⟨b, r1.bl', PostR.pure (W := W) (R := RD G) o1 q1 (.bl _)⟩
    | _ => exact q1.elim
theorem me_if {c a b : Expr} {pos : Pos} {fc : DenB} {f h : Den} (hc : MT G W X c fc) (ha : ME G W X a f) (hb : ME G W X b h) : ME G W X (.IfExp c a b pos) (eIf fc f h) :=
  PE.imp (pe_ifExp hc ha hb) fun σ H Q q => by
    obtain ⟨Z, ρ, st, L, S, q⟩ := q
    refine ⟨Z, ρ, st, L, S, PostR.bind q fun d st1 x H1 L1 e f1 o1 r1 q1 => ?_⟩
    subst r1
    cases d with
    | true => exact ⟨Z, ρ, st1, L1, S.to f1 o1, q1⟩
    | false => exact ⟨Z, ρ, st1, L1, S.to f1 o1, q1⟩
/-- a < b < c -/
@[simp] def eChain (g1 g2 : D → D → Option D) (f h k : Den) : Den := fun ρ st => (f ρ st).bind fun d st => (h ρ st).bind fun e st => match g1 d e with
  | some (.bl b) => if b = true then (k ρ st).bind fun c st => (match g2 e c with | some z => .ok z st | none => .stuck) else .ok (.bl false) st
  | _ => .stuck
theorem chain {g1 g2 : D → D → Option D} {f h k : Den} {r r' : R2} (s1 : Sim2 G g1 r) (s2 : Sim2 G g2 r') {σ : St} {H : Hp} {Q : VK} (q : tM G W (eChain g1 g2 f h k) σ H Q) : tChain r r' (tM G W f) (tM G W h) (tM G W k) σ H Q := by
  obtain ⟨Z, ρ, st, L, S, q⟩ := q
  refine ⟨Z, ρ, st, L, S, PostR.bind q fun d st1 x H1 L1 e f1 o1 r1 q1 => ?_⟩
  refine ⟨Z, ρ, st1, L1, S.to f1 o1, PostR.bind q1 fun d2 st2 y H2 L2 e2 f2 o2 r2 q2 => ?_⟩
  split at q2
  · rename_i b eb
    refine s1 _ _ _ _ _ _ _ _ o2.inn (.rep (r1.mono f2.keeps)) (.rep r2) eb fun v H3 e3 r3 => ⟨b, r3.bl', ?_⟩
    have f3 : Fw Z L2 st2 H2 L2 st2 H3 := Fw.same e3
    have o3 := o2.same e3
    cases b with
    | false => exact q2 _ _ L2 f3 o3 (.bl _)
    | true =>
      refine ⟨Z, ρ, st2, L2, (S.to (f1.trans (f2.trans f3)) o3), PostR.bind (Q' := Q) (Z := Z) (W := W) (R' := RD G) (k := fun c st => (match g2 d2 c with | some z => .ok z st | none => .stuck)) ?_ fun d4 st4 w' H4 L4 e4 f4 o4 r4 q4 => ?_⟩
      · have q2' : PostR G Z W (RD G) σ L2 st2 H2 ((k ρ st2).bind fun c st => (match g2 d2 c with | some z => .ok z st | none => .stuck)) Q := q2
        revert q2'
        cases ((k ρ st2).bind fun c st => (match g2 d2 c with | some z => .ok z st | none => .stuck) : Res D) with
        | ok d st5 => exact fun q v' H' L' f' => q v' H' L' (f3.trans f')
        | exc c fs st5 => exact fun q => ExP.on (P := fun cv dd H' => W cv dd σ H') f3 q
        | stuck => exact fun q => q
      · split at q4
        · rename_i z ez
          exact s2 _ _ _ _ _ _ z _ o4.inn (.rep (r2.mono (f3.trans f4).keeps)) (.rep r4) ez fun v' H' e' r' => q4 v' H' L4 (Fw.same e') (o4.same e') r'
        · exact q4.elim
  · exact q2.elim
theorem me_chain {op op' : CmpOp} {r r' : R2} {a b c : Expr} {f h k : Den} {pos : Pos} {g1 g2 : D → D → Option D} (ho : OpR X (compareOp op) r) (ho' : OpR X (compareOp op') r') (s1 : Sim2 G g1 r) (s2 : Sim2 G g2 r') (ha : ME G W X a f) (hb : ME G W X b h) (hc : ME G W X c k)
    (hm : lastMarks [op, op'] [b, c] = false := by with_unfolding_all rfl) : ME G W X (.Compare a [op, op'] [b, c] pos) (eChain g1 g2 f h k) :=
  PE.imp (pe_chain ho ho' ha hb hc hm) fun σ H Q q => chain s1 s2 q
theorem mt_chain {op op' : CmpOp} {r r' : R2} {a b c : Expr} {f h k : Den} {pos : Pos} {g1 g2 : D → D → Option D} (ho : OpR X (compareOp op) r) (ho' : OpR X (compareOp op') r') (s1 : Sim2 G g1 r) (s2 : Sim2 G g2 r') (ha : ME G W X a f) (hb : ME G W X b h) (hc : ME G W X c k)
    (hm : lastMarks [op, op'] [b, c] = false := by with_unfolding_all rfl) : MT G W X (.Compare a [op, op'] [b, c] pos) (eB (eChain g1 g2 f h k)) :=
  PT.imp (pt_chain ho ho' ha hb hc hm) fun σ H Q q => chain s1 s2 (toB q)
end

/-! ### argument lists, displays, calls of built-ins -/
@[simp] def eNil : DenL := fun _ st => .ok [] st
@[simp] def eCons (f : Den) (h : DenL) : DenL := fun ρ st => (f ρ st).bind fun d st => (h ρ st).bind fun ds st => .ok (d :: ds) st
@[simp] noncomputable def eTup (f : DenL) : Den := fun ρ st => (f ρ st).bind fun ds st => if ds.length ≤ sizeLine then .ok (.tup ds) st else .stuck
@[simp] noncomputable def eLst (f : DenL) : Den := fun ρ st => (f ρ st).bind fun ds st => if ds.length ≤ sizeLine then .ok (.lst ds) st else .stuck
@[simp] def eOpN (g : List D → Option D) (f : DenL) : Den := fun ρ st => (f ρ st).bind fun ds st => match g ds with | some z => .ok z st | none => .stuck
def SimN (G : Wd) (g : List D → Option D) (r : List V → Hp → VK → Prop) : Prop := ∀ Z H ds xs z Q, In Z H → Reps G Z H ds xs → g ds = some z → (∀ v H', Same H H' → Rep G Z H' z v → Q v H') → r xs H Q
/-- one argument, its container perhaps live -/
def SimC (G : Wd) (g : D → Option D) (r : List V → Hp → VK → Prop) : Prop := ∀ Z H d x z Q, In Z H → View G Z H d x → g d = some z → (∀ v H', Same H H' → Rep G Z H' z v → Q v H') → r [x] H Q
section
variable {G : Wd} {W : WX} {X : Cx} {e : Expr} {es : List Expr} {pos p : Pos}
abbrev RDs (G : Wd) : Zone → Hp → List D → List V → Prop := fun Z H => Reps G Z H
theorem ma_nil : MA G W X [] eNil := PA.imp pa_nil fun σ H Q q => by
  obtain ⟨Z, ρ, st, L, S, q⟩ := q
  exact PostR.pure (W := W) (R := RDs G) S.ok q .nil
theorem ma_cons {f : Den} {h : DenL} (ha : ME G W X e f) (hr : MA G W X es h) (hs : starEach (e :: es) X.env = (false, eval e X.env) :: starEach es X.env := by rfl) : MA G W X (e :: es) (eCons f h) := PA.imp (pa_cons ha hr hs) fun σ H Q q => by
  obtain ⟨Z, ρ, st, L, S, q⟩ := q
  refine ⟨Z, ρ, st, L, S, PostR.bind q fun d st1 x H1 L1 e f1 o1 r1 q1 => ?_⟩
  refine ⟨Z, ρ, st1, L1, S.to f1 o1, PostR.bind q1 fun d2 st2 y H2 L2 e2 f2 o2 r2 q2 => ?_⟩
  exact PostR.pure (W := W) (R := RDs G) o2 q2 (.cons (r1.mono f2.keeps) r2)
theorem me_tup {f : DenL} {k : Nat} (h : MA G W X es f) : ME G W X (.Tuple es k pos) (eTup f) := PE.imp (pe_tup h) fun σ H Q q => by
  obtain ⟨Z, ρ, st, L, S, q⟩ := q
  refine ⟨Z, ρ, st, L, S, PostR.bind q fun d st1 x H1 L1 e f1 o1 r1 q1 => ?_⟩
  split at q1
  · rename_i hz
    exact ⟨by rw [← r1.length]; exact hz, fun p hp => q1 _ _ L1 (Fw.same (same_new hp)) (o1.same (same_new hp)) (new_tup o1.inn r1 hp)⟩
  · exact q1.elim
theorem me_lst {f : DenL} (h : MA G W X es f) : ME G W X (.List es pos) (eLst f) := PE.imp (pe_lst h) fun σ H Q q => by
  obtain ⟨Z, ρ, st, L, S, q⟩ := q
  refine ⟨Z, ρ, st, L, S, PostR.bind q fun d st1 x H1 L1 e f1 o1 r1 q1 => ?_⟩
  split at q1
  · rename_i hz
    exact ⟨by rw [← r1.length]; exact hz, fun p hp => q1 _ _ L1 (Fw.same (same_new hp)) (o1.same (same_new hp)) (new_lst o1.inn r1 hp)⟩
  · exact q1.elim
theorem argsN {g : List D → Option D} {r : List V → Hp → VK → Prop} {f : DenL} (s : SimN G g r) {σ : St} {H : Hp} {Q : VK} (q : tM G W (eOpN g f) σ H Q) : tMA G W f σ H fun xs H1 => r xs H1 Q := by
  obtain ⟨Z, ρ, st, L, S, q⟩ := q
  refine ⟨Z, ρ, st, L, S, PostR.bind q fun d st1 x H1 L1 e f1 o1 r1 q1 => ?_⟩
  split at q1
  · rename_i z ez
    exact s _ _ _ _ z _ o1.inn r1 ez fun v' H' e' r' => q1 v' H' L1 (Fw.same e') (o1.same e') r'
  · exact q1.elim
theorem argC {g : D → Option D} {r : List V → Hp → VK → Prop} {f : Den} (s : SimC G g r) {σ : St} {H : Hp} {Q : VK} (q : tM G W (eOp1 g f) σ H Q) : tCons (tMV G W f) tNil σ H fun xs H1 => r xs H1 Q := by
  obtain ⟨Z, ρ, st, L, S, q⟩ := q
  refine ⟨Z, ρ, st, L, S, PostR.bind q fun d st1 x H1 L1 e f1 o1 r1 q1 => ?_⟩
  split at q1
  · rename_i z ez
    exact s _ _ _ _ z _ o1.inn r1 ez fun v' H' e' r' => q1 v' H' L1 (Fw.same e') (o1.same e') r'
  · exact q1.elim
end
end M
namespace M
open PySem PySem.Spec L2

/-! ### data as PyData, for == -/
mutual
def D.py : D → PyData
  | .non => .none | .bl b => .bool b | .int i => .int i | .str x => .str x
  | .tup xs => .tuple (D.pys xs) | .lst xs => .list (D.pys xs) | _ => .none
def D.pys : List D → List PyData
  | [] => [] | x :: xs => D.py x :: D.pys xs
end
mutual
/-- nothing but None, dBools, dInts, texts, tuples, lists, nested at most so deep -/
def D.flat : Nat → D → Bool
  | _, .non => true | _, .bl _ => true | _, .int _ => true | _, .str x => PyData.strOk x
  | n + 1, .tup xs => D.flats n xs | n + 1, .lst xs => D.flats n xs
  | _, _ => false
def D.flats : Nat → List D → Bool
  | _, [] => true | n, x :: xs => D.flat n x && D.flats n xs
end
def D.eqv (d e : D) : Bool := PyData.eqv d.py e.py
section
variable {G : Wd} {Z : Zone} {H : Hp}
mutual
theorem Rep.dp {H : Hp} : ∀ {n : Nat} {d : D} {v : V}, Rep G Z H d v → D.flat n d = true → Dp G.K H v d.py
  | _, _, _, .non, _ => by unfold D.py; exact .non
  | _, _, _, .bl b, _ => by unfold D.py; exact .bl b
  | _, _, _, .int i, _ => by unfold D.py; exact .int i
  | _, _, _, .str x, _ => by unfold D.py; exact .str x
  | n + 1, _, _, .tup r z h, f => by unfold D.py; exact .tup (.inl r) (Reps.dp h (by unfold D.flat at f; exact f))
  | n + 1, _, _, .tupK r h, f => by unfold D.py; exact .tup (.inr r) (Reps.dp h (by unfold D.flat at f; exact f))
  | n + 1, _, _, .lst r z h, f => by unfold D.py; exact .lst (.inl r) (Reps.dp h (by unfold D.flat at f; exact f))
  | 0, _, _, .tup r z h, f => by simp [D.flat] at f
  | 0, _, _, .tupK r h, f => by simp [D.flat] at f
  | 0, _, _, .lst r z h, f => by simp [D.flat] at f
  | 0, _, _, .dK r z h, f => by simp [D.flat] at f
  | n + 1, _, _, .dK r z h, f => by simp [D.flat] at f
  | 0, _, _, .dT r z h, f => by simp [D.flat] at f
  | n + 1, _, _, .dT r z h, f => by simp [D.flat] at f
  | 0, _, _, .ins e z c h, f => by simp [D.flat] at f
  | n + 1, _, _, .ins e z c h, f => by simp [D.flat] at f
  | 0, _, _, .fn e, f => by simp [D.flat] at f
  | n + 1, _, _, .fn e, f => by simp [D.flat] at f
  | 0, _, _, .scr _ _, f => by simp [D.flat] at f
  | n + 1, _, _, .scr _ _, f => by simp [D.flat] at f
  | 0, _, _, .scrK _, f => by simp [D.flat] at f
  | n + 1, _, _, .scrK _, f => by simp [D.flat] at f
theorem Reps.dp {H : Hp} : ∀ {n : Nat} {d : List D} {v : List V}, Reps G Z H d v → D.flats n d = true → DpAll G.K H v (D.pys d)
  | _, _, _, .nil, _ => by unfold D.pys; exact .nil
  | n, _, _, .cons h t, f => by
    unfold D.flats at f
    rw [Bool.and_eq_true] at f
    unfold D.pys
    exact .cons (Rep.dp h f.1) (Reps.dp t f.2)
end
mutual
theorem py_lay : ∀ (n : Nat) (d : D), D.flat n d = true → PyData.canLay0 d.py = true
  | _, .non, _ => by unfold D.py; rfl
  | _, .bl b, _ => by unfold D.py; rfl
  | _, .int i, _ => by unfold D.py; rfl
  | _, .str x, f => by unfold D.flat at f; unfold D.py; simp only [PyData.canLay0]; exact f
  | 0, .tup xs, f => by simp [D.flat] at f
  | n + 1, .tup xs, f => by unfold D.py; simp only [PyData.canLay0]; unfold D.flat at f; exact pys_lay n xs f
  | 0, .lst xs, f => by simp [D.flat] at f
  | n + 1, .lst xs, f => by unfold D.py; simp only [PyData.canLay0]; unfold D.flat at f; exact pys_lay n xs f
  | _, .dic _, _ => by simp only [D.py]; rfl
  | _, .diT _, _ => by simp only [D.py]; rfl
  | _, .ins _ _, _ => by simp only [D.py]; rfl
  | _, .fn _, _ => by simp only [D.py]; rfl
  | _, .scr _, _ => by simp only [D.py]; rfl
theorem pys_lay : ∀ (n : Nat) (d : List D), D.flats n d = true → PyData.canLayAll0 (D.pys d) = true
  | _, [], _ => by unfold D.pys; simp [PyData.canLayAll0]
  | n, x :: xs, f => by
    unfold D.flats at f
    rw [Bool.and_eq_true] at f
    unfold D.pys
    simp only [PyData.canLayAll0]
    rw [py_lay n x f.1, pys_lay n xs f.2]
    rfl
end
mutual
theorem py_depth : ∀ (n : Nat) (d : D), D.flat n d = true → d.py.depth ≤ n
  | _, .non, _ => by unfold D.py; simp [PyData.depth]
  | _, .bl b, _ => by unfold D.py; simp [PyData.depth]
  | _, .int i, _ => by unfold D.py; simp [PyData.depth]
  | _, .str x, _ => by unfold D.py; simp [PyData.depth]
  | 0, .tup xs, f => by simp [D.flat] at f
  | n + 1, .tup xs, f => by
    unfold D.flat at f
    have := pys_depth n xs f
    unfold D.py
    simp only [PyData.depth]
    omega
  | 0, .lst xs, f => by simp [D.flat] at f
  | n + 1, .lst xs, f => by
    unfold D.flat at f
    have := pys_depth n xs f
    unfold D.py
    simp only [PyData.depth]
    omega
  | 0, .dic _, f => by simp [D.flat] at f
  | 0, .diT _, f => by simp [D.flat] at f
  | 0, .ins _ _, f => by simp [D.flat] at f
  | 0, .fn _, f => by simp [D.flat] at f
  | 0, .scr _, f => by simp [D.flat] at f
  | n + 1, .scr _, f => by simp [D.flat] at f
  | n + 1, .dic _, f => by simp [D.flat] at f
  | n + 1, .diT _, f => by simp [D.flat] at f
  | n + 1, .ins _ _, f => by simp [D.flat] at f
  | n + 1, .fn _, f => by simp [D.flat] at f
theorem pys_depth : ∀ (n : Nat) (d : List D), D.flats n d = true → PyData.depthAll (D.pys d) ≤ n
  | _, [], _ => by unfold D.pys; simp [PyData.depthAll]
  | n, x :: xs, f => by
    unfold D.flats at f
    rw [Bool.and_eq_true] at f
    have h1 := py_depth n x f.1
    have h2 := pys_depth n xs f.2
    unfold D.pys
    simp only [PyData.depthAll]
    omega
end
theorem py_shaped {d : D} (f : D.flat 60 d = true) : SeqAt.shaped d.py = true := by
  unfold SeqAt.shaped
  rw [py_lay 60 d f, decide_eq_true (Nat.le_trans (py_depth 60 d f) (by decide))]
  rfl
theorem View.dp {d : D} {v : V} {n : Nat} (h : View G Z H d v) (f : D.flat n d = true) : Dp G.K H v d.py := by
  cases h with
  | rep h => exact h.dp f
  | lst r h =>
    cases n with
    | zero => simp [D.flat] at f
    | succ n =>
      unfold D.py
      exact .lst (.inl r) (Reps.dp h (by unfold D.flat at f; exact f))
  | dK r h => cases n <;> simp [D.flat] at f
  | dT r h => cases n <;> simp [D.flat] at f
end

/-! ### operations on data -/
def dEq (d e : D) : Option D := if (D.flat 60 d && D.flat 60 e) = true then some (.bl (D.eqv d e)) else none
def dNe (d e : D) : Option D := if (D.flat 60 d && D.flat 60 e) = true then some (.bl (!D.eqv d e)) else none
noncomputable def dAdd : D → D → Option D
  | .int i, .int j => some (.int (i + j))
  | .str x, .str y => if x.length + y.length ≤ sizeLine then some (.str (x ++ y)) else none
  | .tup xs, .tup ys => if xs.length + ys.length ≤ sizeLine then some (.tup (xs ++ ys)) else none
  | .lst xs, .lst ys => if xs.length + ys.length ≤ sizeLine then some (.lst (xs ++ ys)) else none
  | _, _ => none
def dSub : D → D → Option D
  | .int i, .int j => some (.int (i - j)) | _, _ => none
/-- undecided for the kernel, so that it never counts up to the bound -/
noncomputable def small (i : Int) : Bool := @decide (-18446744073709551616 < i ∧ i < 18446744073709551616) (Classical.propDecidable _)
theorem small_iff {i : Int} : small i = true ↔ -18446744073709551616 < i ∧ i < 18446744073709551616 := by unfold small; exact @decide_eq_true_iff _ (Classical.propDecidable _)
noncomputable def dMul : D → D → Option D
  | .int i, .int j => if (small i || small j) = true then some (.int (i * j)) else none
  | .lst xs, .int k => if k < 4611686018427387904 ∧ -4611686018427387904 < k ∧ xs.length * k.toNat ≤ sizeLine then some (.lst (List.replicate k.toNat xs).flatten) else none
  | .tup xs, .int k => if xs.isEmpty = false ∧ 0 ≤ k ∧ k ≤ 1000 ∧ xs.length ≤ 1000 then some (.tup (List.replicate k.toNat xs).flatten) else none
  | _, _ => none
def dMod : D → D → Option D
  | .int i, .int j => if 0 < j then some (.int (i % j)) else none | _, _ => none
noncomputable def dFdiv : D → D → Option D
  | .int i, .int j => if 0 < j ∧ j < 1073741824 then some (.int (i / j)) else none | _, _ => none
noncomputable def dPow : D → D → Option D
  | .int i, .int j => if 0 ≤ j ∧ j ≤ 1000000 ∧ i.natAbs < 18446744073709551616 then some (.int (i ^ j.toNat)) else none | _, _ => none
def dNeg : D → Option D
  | .int i => some (.int (-i)) | _ => none
def dLt : D → D → Option D
  | .int i, .int j => some (.bl (decide (i < j))) | .str x, .str y => some (.bl (decide (x.cps.toList < y.cps.toList))) | _, _ => none
def dLe : D → D → Option D
  | .int i, .int j => some (.bl (decide (i ≤ j))) | _, _ => none
def dGt : D → D → Option D
  | .int i, .int j => some (.bl (decide (j < i))) | _, _ => none
def dGe : D → D → Option D
  | .int i, .int j => some (.bl (decide (j ≤ i))) | _, _ => none
def D.isNon : D → Bool
  | .non => true | _ => false
def dIs (d e : D) : Option D := match e with
  | .non => some (.bl d.isNon)
  | .bl c => (match d with | .bl b => some (.bl (decide (b = c))) | _ => none)
  | _ => none
def dIsNot (d e : D) : Option D := match e with
  | .non => some (.bl (!d.isNon))
  | .bl c => (match d with | .bl b => some (.bl (!decide (b = c))) | _ => none)
  | _ => none
def pysIn (x : D) (ds : List D) : Bool := ds.any fun z => D.eqv z x
def dIn (x c : D) : Option D := match c with
  | .lst ds => if (D.flat 60 x && D.flats 59 ds) = true then some (.bl (pysIn x ds)) else none
  | .tup ds => if (D.flat 60 x && D.flats 59 ds) = true then some (.bl (pysIn x ds)) else none
  | .str z => (match x with | .str y => some (.bl (!(Builtin.Str.occurrences z y 0 z.length 1).isEmpty)) | _ => none)
  | _ => none
def dNotIn (x c : D) : Option D := match dIn x c with
  | some (.bl b) => some (.bl (!b)) | _ => none
noncomputable def dIx (c i : D) : Option D := match c, i with
  | .lst ds, .int i => atI ds i
  | .tup ds, .int i => atI ds i
  | .scr ns, .int i => (atI ns i).map .int
  | .str z, .int i => if z.length ≤ sizeLine then (atI z.cps.toList i).map fun c => .str ⟨#[c]⟩ else none
  | _, _ => none
noncomputable def dLen : D → Option D
  | .lst ds => some (.int ds.length) | .tup ds => some (.int ds.length) | .str z => if z.length ≤ sizeLine then some (.int z.length) else none | .scr ns => some (.int ns.length) | _ => none
def dTuple : D → Option D
  | .lst ds => some (.tup ds) | .tup ds => some (.tup ds) | _ => none
def dList : D → Option D
  | .lst ds => some (.lst ds) | .tup ds => some (.lst ds) | _ => none
def dInts : List D → Option (List Int)
  | [] => some []
  | .int i :: r => (dInts r).map (i :: ·)
  | _ => none
def dBools : List D → Option (List Bool)
  | [] => some []
  | .bl i :: r => (dBools r).map (i :: ·)
  | _ => none
def dStrs : List D → Option (List Str)
  | [] => some []
  | .str i :: r => (dStrs r).map (i :: ·)
  | _ => none
def dSum : D → Option D
  | .lst ds => (dInts ds).map fun ns => .int ns.sum | .tup ds => (dInts ds).map fun ns => .int ns.sum | _ => none
def dAll : D → Option D
  | .lst ds => (dBools ds).map fun bs => .bl (bs.all id) | _ => none
def dAny : D → Option D
  | .lst ds => (dBools ds).map fun bs => .bl (bs.any id) | _ => none
def maxI (a : Int) (l : List Int) : Int := l.foldl max a
def minI (a : Int) (l : List Int) : Int := l.foldl min a
def dMax : D → Option D
  | .lst ds => (match dInts ds with | some (a :: l) => some (.int (maxI a l)) | _ => none) | _ => none
def dMin : D → Option D
  | .lst ds => (match dInts ds with | some (a :: l) => some (.int (minI a l)) | _ => none) | _ => none
def dMax2 : List D → Option D
  | [.int i, .int j] => some (.int (if j > i then j else i)) | _ => none
def dMin2 : List D → Option D
  | [.int i, .int j] => some (.int (if j < i then j else i)) | _ => none
def insI (x : Int) : List Int → List Int
  | [] => [x] | y :: r => if x ≤ y then x :: y :: r else y :: insI x r
def sortI : List Int → List Int
  | [] => [] | x :: r => insI x (sortI r)
def dSorted : D → Option D
  | .lst ds => (dInts ds).map fun ns => .lst ((sortI ns).map .int) | _ => none
def dAbs : D → Option D
  | .int i => some (.int (if i < 0 then -i else i)) | _ => none
def dInt : D → Option D
  | .int i => some (.int i) | .bl b => some (.int (if b then 1 else 0)) | _ => none
def tyName : D → Option String
  | .non => some "NoneType" | .bl _ => some "bool" | .int _ => some "int" | .str _ => some "str" | .tup _ => some "tuple" | .lst _ => some "list" | .dic _ => some "dict" | _ => none
/-- isinstance(x, T), T one of int, bool, str, tuple, list, dict -/
def dIsi (T : String) (d : D) : Option D := (tyName d).bind fun n => (kitB n T).map .bl

section
variable {G : Wd} {W : WX} {X : Cx}
theorem sim_eq (hK : G.K = X.K) : Sim2 G dEq (rEqD X.K) := fun Z H d e x y z Q i rx ry h q => by
  unfold dEq at h
  split at h
  · rename_i hf
    rw [Bool.and_eq_true] at hf
    cases h
    exact ⟨_, _, hK ▸ rx.dp hf.1, hK ▸ ry.dp hf.2, py_shaped hf.1, py_shaped hf.2, q _ H (Same.refl H) (.bl _)⟩
  · cases h
theorem sim_ne (hK : G.K = X.K) : Sim2 G dNe (rNeD X.K) := fun Z H d e x y z Q i rx ry h q => by
  unfold dNe at h
  split at h
  · rename_i hf
    rw [Bool.and_eq_true] at hf
    cases h
    exact ⟨_, _, hK ▸ rx.dp hf.1, hK ▸ ry.dp hf.2, py_shaped hf.1, py_shaped hf.2, q _ H (Same.refl H) (.bl _)⟩
  · cases h
/-- list + list, any two that are read -/
def rCatR : R2 := fun x y H Q => ∃ l b xs zs, x = .ref l ∧ y = .ref b ∧ Rd H l (.lst xs) ∧ Rd H b (.lst zs) ∧ xs.length + zs.length ≤ sizeLine ∧ ∀ p, H p = none → Q (.ref p) (upd H p (.lst (xs ++ zs)))
theorem op_catR : OpR X (binaryOp .Add) rCatR := by
  intro pins s σ H x y v u Q I rx ry h
  obtain ⟨l, b, xs, zs, rfl, rfl, hH, hB, hz, q⟩ := h
  cases rx
  cases ry
  obtain ⟨z, its, n, r, e⟩ := hH.ok I.hok
  obtain ⟨z2, its2, n2, r2, e2⟩ := hB.ok I.hok
  have hl := r.length
  have hl2 := r2.length
  refine PySem.P.add_list e e2 ?_ (by rw [List.size_toArray, List.size_toArray]; omega)
  have ea : its.toArray ++ its2.toArray = (its ++ its2).toArray := by simp
  rw [ea]
  exact ⟨.ref _, _, I.lnew (t' := s.toks) (r.append r2) (by rw [List.length_append]; omega), rfl, q _ I.fresh⟩
def rRepR : R2 := fun x y H Q => ∃ l k xs, x = .ref l ∧ y = .int k ∧ Rd H l (.lst xs) ∧ -(2 ^ 63) ≤ k ∧ k < 2 ^ 63 ∧ xs.length * k.toNat ≤ sizeLine ∧
  ∀ p, H p = none → Q (.ref p) (upd H p (.lst (List.replicate k.toNat xs).flatten))
theorem op_repR : OpR X (binaryOp .Mult) rRepR := by
  intro pins s σ H x y v u Q I rx ry h
  obtain ⟨l, k, xs, rfl, rfl, hH, h1, h2, hz, q⟩ := h
  cases rx
  obtain ⟨t, rfl⟩ := ry
  obtain ⟨z, its, n, r, e⟩ := hH.ok I.hok
  have hl := r.length
  have hlen : its.toArray.size * k.toNat ≤ sizeLine := by rw [List.size_toArray, ← hl]; exact hz
  have hcap : ¬ its.toArray.size * k.toNat > (2 ^ 63 - 1) / 8 := by
    have : (sizeLine : Nat) ≤ (2 ^ 63 - 1) / 8 := by decide
    omega
  have hfit : ¬ (!Builtin.List.listFitsIndex k) = true := by
    rw [fitsIndex_both h1 h2]
    exact Bool.false_ne_true
  have hlong : ¬ Builtin.List.listTooLong (its.toArray.size * k.toNat) = true := by
    rw [notLongL hlen]
    exact Bool.false_ne_true
  have hnew : List.foldl (fun x1 x2 => x1 ++ x2) #[] (List.replicate (if its.toArray.isEmpty = true then 0 else k.toNat) its.toArray) = (List.replicate k.toNat its).flatten.toArray := by
    have f0 : ∀ m : Nat, List.foldl (fun x1 x2 => x1 ++ x2) #[] (List.replicate m its.toArray) = (List.replicate m its).flatten.toArray := fun m => by
      have := foldl_rep its m []
      rw [List.nil_append] at this
      exact this
    rw [f0]
    cases its with
    | nil => simp
    | cons a r' => rw [if_neg (by simp)]
  refine wpAny_binaryOp_repeat_ref (T := "list") (U := "int") (by decide) ⟨_, e, rfl⟩ (fun s' => typeIs_int s' k t) noFill_list_mul F.fills_int_mul F.slot_int_rmul repeat_list F.slot_int_index.lookup
    (call_meets F.slot_int_rmul (typeIs_int s k t) F.entry_int_rmul (F.args_int_rmul_2 _ _) (int___rmul___int_list k t l its.toArray n)
      ⟨e, rfl, ⟨_, e, rfl⟩, call_meets F.slot_list_mul ⟨_, e, rfl⟩ F.entry_list_mul (F.args_list_mul_2 _ _) (AutoListH.list___mul___list_int_3 l its.toArray n k t hfit hcap hlong) ⟨e, ?_⟩⟩)
  rw [hnew]
  exact ⟨.ref _, _, I.lnew (t' := s.toks) (r.rep k.toNat) (by rw [PyProof.Rows.lm_len_rep_flat, Nat.mul_comm]; exact hz), rfl, q _ I.fresh⟩

theorem Sim2.imp {g : D → D → Option D} {r r' : R2} (s : Sim2 G g r) (h : ∀ x y H Q, r x y H Q → r' x y H Q) : Sim2 G g r' := fun Z H d e x y z Q i rx ry hg q => h _ _ _ _ (s Z H d e x y z Q i rx ry hg q)
theorem op_addM : OpR X (binaryOp .Add) (fun x y H Q => rI0 (fun i j => .int (i + j)) x y H Q ∨ (fun x y H Q => ∃ i j, x = .str i ∧ y = .str j ∧ i.length + j.length ≤ sizeLine ∧ Q (.str (i ++ j)) H) x y H Q ∨ rCatA X.K x y H Q ∨ rCatR x y H Q) := by
  intro pins s σ H x y v u Q I rx ry h
  rcases h with h | h | h | h
  · exact op_add pins s σ H x y v u Q I rx ry h
  · exact op_add_str pins s σ H x y v u Q I rx ry h
  · exact op_catA pins s σ H x y v u Q I rx ry h
  · exact op_catR pins s σ H x y v u Q I rx ry h
theorem View.tupR {Z : Zone} {H : Hp} {ds : List D} {v : V} (h : View G Z H (.tup ds) v) : Rep G Z H (.tup ds) v := by
  cases h with
  | rep h => exact h
theorem sim_add (hK : G.K = X.K) : Sim2 G dAdd (fun x y H Q => rI0 (fun i j => .int (i + j)) x y H Q ∨ (fun x y H Q => ∃ i j, x = .str i ∧ y = .str j ∧ i.length + j.length ≤ sizeLine ∧ Q (.str (i ++ j)) H) x y H Q ∨ rCatA X.K x y H Q ∨ rCatR x y H Q) := fun Z H d e x y z Q i rx ry h q => by
  unfold dAdd at h
  split at h
  · cases h
    exact .inl ⟨_, _, rx.int', ry.int', q _ H (Same.refl H) (.int _)⟩
  · split at h
    · cases h
      exact .inr (.inl ⟨_, _, rx.str', ry.str', by assumption, q _ H (Same.refl H) (.str _)⟩)
    · cases h
  · split at h
    · cases h
      rename_i xs ys hz
      have tx := rx.tupR
      have ty := ry.tupR
      obtain ⟨a, vs, rfl, ha, ra⟩ := rx.tup
      obtain ⟨b, ws, rfl, hb, rb⟩ := ry.tup
      have l1 := ra.length
      have l2 := rb.length
      refine .inr (.inr (.inl ⟨a, b, vs, ws, rfl, rfl, hK ▸ ha, hK ▸ hb, by omega, fun e1 => ?_, fun e1 e2 => ?_, fun e1 e2 p hp => ?_⟩))
      · subst e1
        cases ra
        exact q _ H (Same.refl H) ty
      · subst e2
        cases rb
        rw [List.append_nil] at q
        exact q _ H (Same.refl H) tx
      · exact q _ _ (same_new hp) (new_tup i (ra.append rb) hp)
    · cases h
  · split at h
    · cases h
      obtain ⟨a, vs, rfl, ha, ra⟩ := rx.list
      obtain ⟨b, ws, rfl, hb, rb⟩ := ry.list
      have l1 := ra.length
      have l2 := rb.length
      exact .inr (.inr (.inr ⟨a, b, vs, ws, rfl, rfl, ha, hb, by omega, fun p hp => q _ _ (same_new hp) (new_lst i (ra.append rb) hp)⟩))
    · cases h
  · cases h
theorem sim_sub : Sim2 G dSub (rI0 fun i j => .int (i - j)) := fun Z H d e x y z Q i rx ry h q => by
  unfold dSub at h
  split at h
  · cases h
    exact ⟨_, _, rx.int', ry.int', q _ H (Same.refl H) (.int _)⟩
  · cases h
theorem tuple_mul1 (l : Addr) (items : Array Value) (n : Nat) (dd : Option Addr) (sl : Array (Option Value)) (u : Tok) :
    Meets (Builtin.«tuple.__mul__» ⟨[.ref l, .int 1 u], []⟩) (fun _ R s => s.heap.get? l = some { cls := .type "tuple", dict := dd, data := .seq items n, slots := sl } ∧ R (.ok (.ret (Value.ref l))) s) :=
  .of_wp fun prog w A R s h => by
    obtain ⟨hp, g, d, tk, os⟩ := s
    obtain ⟨hl, h⟩ := h
    have f1 := AutoSeq1.idx_int
    wp_walk using wpAny_loadPart' hl
    exact ⟨_, rfl, h⟩
theorem tuple_mul0 (l : Addr) (items : Array Value) (n : Nat) (dd : Option Addr) (sl : Array (Option Value)) (u : Tok) (hi : items.isEmpty = false) :
    Meets (Builtin.«tuple.__mul__» ⟨[.ref l, .int 0 u], []⟩) (fun _ R s => s.heap.get? l = some { cls := .type "tuple", dict := dd, data := .seq items n, slots := sl } ∧ R (.ok (.ret (Value.ref s.heap.objs.size))) { s with heap := s.heap.push { cls := Value.type "tuple", data := Data.seq #[] }, toks := s.toks }) :=
  .of_wp fun prog w A R s h => by
    obtain ⟨hp, g, d, tk, os⟩ := s
    obtain ⟨hl, h⟩ := h
    have f1 := AutoSeq1.idx_int
    wp_walk using wpAny_loadPart' hl
    exact ⟨_, rfl, h⟩
/-- tuple * 0, tuple * 1 -/
def rRepS (K : PySem.W.Frag) : R2 := fun x y H Q => ∃ l xs, x = .ref l ∧ SqT K H l xs ∧ ((y = .int 1 ∧ Q (.ref l) H) ∨ (y = .int 0 ∧ xs ≠ [] ∧ ∀ p, H p = none → Q (.ref p) (upd H p (.tup []))))
theorem op_repS : OpR X (binaryOp .Mult) (rRepS X.K) := by
  intro pins s σ H x y v u Q I rx ry h
  obtain ⟨l, xs, rfl, hT, h⟩ := h
  cases rx
  obtain ⟨its, r, ⟨⟨cls, dd, data, sl⟩, ho, hc, n, hd⟩, hs⟩ := I.tuple hT
  simp only at hc hd
  subst hc hd
  rcases h with ⟨rfl, q⟩ | ⟨rfl, hne, q⟩
  · obtain ⟨t, rfl⟩ := ry
    exact wpAny_binaryOp_repeat_ref (T := "tuple") (U := "int") (by decide) ⟨_, ho, rfl⟩ (fun s' => typeIs_int s' 1 t) noFill_tuple_mul PySem.F.fills_int_mul PySem.F.slot_int_rmul repeat_tuple PySem.F.slot_int_index.lookup
      (call_meets PySem.F.slot_int_rmul (typeIs_int s 1 t) PySem.F.entry_int_rmul (PySem.F.args_int_rmul_2 _ _) (int_rmul_tuple 1 t l its.toArray n dd sl)
        ⟨ho, rfl, ⟨_, ho, rfl⟩, call_meets PySem.F.slot_tuple_mul ⟨_, ho, rfl⟩ PySem.F.entry_tuple_mul (PySem.F.args_tuple_mul_2 _ _) (tuple_mul1 l its.toArray n dd sl t) ⟨ho, ⟨.ref l, H, I, rfl, q⟩⟩⟩)
  · obtain ⟨t, rfl⟩ := ry
    have hi : its.toArray.isEmpty = false := by
      cases its with
      | nil => exact absurd (List.eq_nil_of_length_eq_zero r.length) hne
      | cons a b => rfl
    exact wpAny_binaryOp_repeat_ref (T := "tuple") (U := "int") (by decide) ⟨_, ho, rfl⟩ (fun s' => typeIs_int s' 0 t) noFill_tuple_mul PySem.F.fills_int_mul PySem.F.slot_int_rmul repeat_tuple PySem.F.slot_int_index.lookup
      (call_meets PySem.F.slot_int_rmul (typeIs_int s 0 t) PySem.F.entry_int_rmul (PySem.F.args_int_rmul_2 _ _) (int_rmul_tuple 0 t l its.toArray n dd sl)
        ⟨ho, rfl, ⟨_, ho, rfl⟩, call_meets PySem.F.slot_tuple_mul ⟨_, ho, rfl⟩ PySem.F.entry_tuple_mul (PySem.F.args_tuple_mul_2 _ _) (tuple_mul0 l its.toArray n dd sl t hi) ⟨ho,
          ⟨.ref s.heap.objs.size, _, I.laid (t' := s.toks) (o := .tup []) (fun b ob q => Heap.get?_push_of_some _ q) (Nat.le_refl _) ⟨Nat.zero_le _, _, .nil, PyProof.Rows.IsTup.new _ _⟩, rfl, q _ (I.hok.fresh (Nat.le_refl _))⟩⟩⟩)
abbrev rMulM (K : PySem.W.Frag) : R2 := fun x y H Q => (rI CMul (fun i j => .int (i * j)) x y H Q ∨ rRepR x y H Q) ∨ (rRepS K x y H Q ∨ rRepT K x y H Q)
theorem op_mulM : OpR X (binaryOp .Mult) (rMulM X.K) := by
  intro pins s σ H x y v u Q I rx ry h
  rcases h with (h | h) | (h | h)
  · exact op_mul pins s σ H x y v u Q I rx ry h
  · exact op_repR pins s σ H x y v u Q I rx ry h
  · exact op_repS pins s σ H x y v u Q I rx ry h
  · exact op_repT pins s σ H x y v u Q I rx ry h
theorem Reps.rep {Z : Zone} {H : Hp} {ds : List D} {vs : List V} (h : Reps G Z H ds vs) : ∀ k : Nat, Reps G Z H (List.replicate k ds).flatten (List.replicate k vs).flatten
  | 0 => by simp; exact .nil
  | k + 1 => by simp only [List.replicate_succ, List.flatten_cons]; exact h.append (Reps.rep h k)
theorem sim_mul (hK : G.K = X.K) : Sim2 G dMul (rMulM X.K) := fun Z H d e x y z Q i rx ry h q => by
  unfold dMul at h
  split at h
  · split at h
    · rename_i hs
      cases h
      refine .inl (.inl ⟨_, _, rx.int', ry.int', ?_, q _ H (Same.refl H) (.int _)⟩)
      simp only [Bool.or_eq_true, small_iff] at hs
      unfold CMul
      omega
    · cases h
  · split at h
    · rename_i hs
      cases h
      obtain ⟨a, vs, rfl, ha, ra⟩ := rx.list
      have l1 := ra.length
      obtain ⟨h1, h2, h3⟩ := hs
      exact .inl (.inr ⟨a, _, vs, rfl, ry.int', ha, by omega, by omega, by rw [← l1]; exact h3, fun p hp => q _ _ (same_new hp) (new_lst i (ra.rep _) hp)⟩)
    · cases h
  · split at h
    · rename_i xs k hs
      cases h
      obtain ⟨h1, h2, h3, h4⟩ := hs
      obtain ⟨a, vs, rfl, ha, ra⟩ := rx.tup
      have l1 := ra.length
      have hy := ry.int'
      have ne : vs ≠ [] := fun z => by
        rw [z] at l1
        cases xs with
        | nil => cases h1
        | cons _ _ => cases l1
      by_cases k1 : k = 1
      · subst k1
        refine .inr (.inl ⟨a, vs, rfl, hK ▸ ha, .inl ⟨hy, ?_⟩⟩)
        cases rx with
        | rep rx => exact q _ H (Same.refl H) (by simpa using rx)
      · by_cases k0 : k = 0
        · subst k0
          exact .inr (.inl ⟨a, vs, rfl, hK ▸ ha, .inr ⟨hy, ne, fun p hp => q _ _ (same_new hp) (by simpa using new_tup i (.nil) hp)⟩⟩)
        · exact .inr (.inr ⟨a, k, vs, rfl, hy, hK ▸ ha, ne, by omega, h3, by rw [← l1]; exact h4, fun p hp => q _ _ (same_new hp) (new_tup i (ra.rep _) hp)⟩)
    · cases h
  · cases h
theorem sim_mod : Sim2 G dMod (rI (fun _ j => 0 < j) fun i j => .int (i % j)) := fun Z H d e x y z Q i rx ry h q => by
  unfold dMod at h
  split at h
  · split at h
    · cases h
      exact ⟨_, _, rx.int', ry.int', by assumption, q _ H (Same.refl H) (.int _)⟩
    · cases h
  · cases h
theorem sim_fdiv : Sim2 G dFdiv (rI CDiv fun i j => .int (i / j)) := fun Z H d e x y z Q i rx ry h q => by
  unfold dFdiv at h
  split at h
  · split at h
    · cases h
      exact ⟨_, _, rx.int', ry.int', by assumption, q _ H (Same.refl H) (.int _)⟩
    · cases h
  · cases h
theorem sim_pow : Sim2 G dPow (rI CPow fun i j => .int (i ^ j.toNat)) := fun Z H d e x y z Q i rx ry h q => by
  unfold dPow at h
  split at h
  · split at h
    · cases h
      exact ⟨_, _, rx.int', ry.int', by assumption, q _ H (Same.refl H) (.int _)⟩
    · cases h
  · cases h
theorem sim_neg : Sim1 G dNeg (rU fun i => .int (-i)) := fun Z H d x z Q i rx h q => by
  unfold dNeg at h
  split at h
  · cases h
    exact ⟨_, rx.int', q _ H (Same.refl H) (.int _)⟩
  · cases h
theorem op_ltM : OpR X (compareOp .Lt) (fun x y H Q => rI0 (fun i j => .bl (decide (i < j))) x y H Q ∨ (∃ i j, x = .str i ∧ y = .str j ∧ Q (.bl (decide (i.cps.toList < j.cps.toList))) H)) := op_lt.or op_lt_str
theorem sim_lt : Sim2 G dLt (fun x y H Q => rI0 (fun i j => .bl (decide (i < j))) x y H Q ∨ (∃ i j, x = .str i ∧ y = .str j ∧ Q (.bl (decide (i.cps.toList < j.cps.toList))) H)) := fun Z H d e x y z Q i rx ry h q => by
  unfold dLt at h
  split at h
  · cases h
    exact .inl ⟨_, _, rx.int', ry.int', q _ H (Same.refl H) (.bl _)⟩
  · cases h
    exact .inr ⟨_, _, rx.str', ry.str', q _ H (Same.refl H) (.bl _)⟩
  · cases h
theorem sim_le : Sim2 G dLe (rI0 fun i j => .bl (decide (i ≤ j))) := fun Z H d e x y z Q i rx ry h q => by
  unfold dLe at h
  split at h
  · cases h
    exact ⟨_, _, rx.int', ry.int', q _ H (Same.refl H) (.bl _)⟩
  · cases h
theorem sim_gt : Sim2 G dGt (rI0 fun i j => .bl (decide (j < i))) := fun Z H d e x y z Q i rx ry h q => by
  unfold dGt at h
  split at h
  · cases h
    exact ⟨_, _, rx.int', ry.int', q _ H (Same.refl H) (.bl _)⟩
  · cases h
theorem sim_ge : Sim2 G dGe (rI0 fun i j => .bl (decide (j ≤ i))) := fun Z H d e x y z Q i rx ry h q => by
  unfold dGe at h
  split at h
  · cases h
    exact ⟨_, _, rx.int', ry.int', q _ H (Same.refl H) (.bl _)⟩
  · cases h
/-! ### is, in -/
theorem Rep.isNon {Z : Zone} {H : Hp} {d : D} {v : V} (h : Rep G Z H d v) : decide (v = .non) = d.isNon := by
  cases h <;> rfl
theorem View.isNon {Z : Zone} {H : Hp} {d : D} {v : V} (h : View G Z H d v) : decide (v = .non) = d.isNon := by
  cases h with
  | rep h => exact h.isNon
  | _ => rfl
theorem op_isM : OpR X (compareOp .Is) (fun x y H Q => (y = .non ∧ Q (.bl (decide (x = .non))) H) ∨ rIsB x y H Q) := op_isN.or op_isBl
theorem op_isNotM : OpR X (compareOp .IsNot) (fun x y H Q => (y = .non ∧ Q (.bl (!decide (x = .non))) H) ∨ rNotB x y H Q) := op_notN.or op_notBl
theorem sim_is : Sim2 G dIs (fun x y H Q => (y = .non ∧ Q (.bl (decide (x = .non))) H) ∨ rIsB x y H Q) := fun Z H d e x y z Q i rx ry h q => by
  unfold dIs at h
  split at h
  · cases h
    refine .inl ⟨?_, ?_⟩
    · cases ry with | rep h => exact h.non'
    · rw [rx.isNon]
      exact q _ H (Same.refl H) (.bl _)
  · split at h
    · cases h
      exact .inr ⟨_, _, rx.bl', ry.bl', q _ H (Same.refl H) (.bl _)⟩
    · cases h
  · cases h
theorem sim_isNot : Sim2 G dIsNot (fun x y H Q => (y = .non ∧ Q (.bl (!decide (x = .non))) H) ∨ rNotB x y H Q) := fun Z H d e x y z Q i rx ry h q => by
  unfold dIsNot at h
  split at h
  · cases h
    refine .inl ⟨?_, ?_⟩
    · cases ry with | rep h => exact h.non'
    · rw [rx.isNon]
      exact q _ H (Same.refl H) (.bl _)
  · split at h
    · cases h
      exact .inr ⟨_, _, rx.bl', ry.bl', q _ H (Same.refl H) (.bl _)⟩
    · cases h
  · cases h
/-- in, not in: a list, a tuple, a text -/
def rInM (K : PySem.W.Frag) (neg : Bool) : R2 := fun x y H Q => (∃ d ds, Dp K H x d ∧ (Dp K H y (.list ds) ∨ Dp K H y (.tuple ds)) ∧ SeqAt.shaped d = true ∧ SeqAt.shaped (.list ds) = true ∧ Q (.bl (if neg = true then !(ds.any fun z => PyData.eqv z d) else ds.any fun z => PyData.eqv z d)) H) ∨
  (∃ i j, x = .str i ∧ y = .str j ∧ Q (.bl (if neg = true then !(!(Builtin.Str.occurrences j i 0 j.length 1).isEmpty) else !(Builtin.Str.occurrences j i 0 j.length 1).isEmpty)) H)
theorem room_in {A : Around} {d : PyData} {ds : List PyData} (sd : SeqAt.shaped d = true) (hu : A.units + 65 < cLine) : A.units + 1 + min (PyData.depthAll ds) d.depth < cLine := PyProof.Rows.room_in_shaped sd hu
theorem op_inM (hu : X.A.units + 65 < cLine) : OpR X (compareOp .In) (rInM X.K false) := by
  intro pins s σ H x y v u Q I rx ry h
  rcases h with ⟨d, ds, hd, he, sd, se, q⟩ | h
  · obtain ⟨as, r1⟩ := Dp.reads I d x v hd rx
    rcases he with he | he
    · obtain ⟨bs, r2⟩ := Dp.reads I (.list ds) y u he ry
      exact SeqAt.in_list_reads r2 r1 (SeqAt.canLay_of_shaped se) (SeqAt.canLay_of_shaped sd) (PyProof.Rows.room_in_shaped sd hu) ⟨.bl _, H, I, rfl, q⟩
    · obtain ⟨bs, r2⟩ := Dp.reads I (.tuple ds) y u he ry
      exact SeqAt.in_tuple_reads r2 r1 (SeqAt.canLay_of_shaped se) (SeqAt.canLay_of_shaped sd) (PyProof.Rows.room_in_shaped sd hu) ⟨.bl _, H, I, rfl, q⟩
  · exact op_in_str pins s σ H x y v u Q I rx ry h
theorem op_notInM (hu : X.A.units + 65 < cLine) : OpR X (compareOp .NotIn) (rInM X.K true) := by
  intro pins s σ H x y v u Q I rx ry h
  rcases h with ⟨d, ds, hd, he, sd, se, q⟩ | h
  · obtain ⟨as, r1⟩ := Dp.reads I d x v hd rx
    rcases he with he | he
    · obtain ⟨bs, r2⟩ := Dp.reads I (.list ds) y u he ry
      exact SeqAt.notIn_list_reads r2 r1 (SeqAt.canLay_of_shaped se) (SeqAt.canLay_of_shaped sd) (PyProof.Rows.room_in_shaped sd hu) ⟨.bl _, H, I, rfl, q⟩
    · obtain ⟨bs, r2⟩ := Dp.reads I (.tuple ds) y u he ry
      exact SeqAt.notIn_tuple_reads r2 r1 (SeqAt.canLay_of_shaped se) (SeqAt.canLay_of_shaped sd) (PyProof.Rows.room_in_shaped sd hu) ⟨.bl _, H, I, rfl, q⟩
  · exact op_notin_str pins s σ H x y v u Q I rx ry h
theorem pys_any (x : D) : ∀ ds : List D, (D.pys ds).any (fun z => PyData.eqv z x.py) = pysIn x ds
  | [] => by unfold D.pys; rfl
  | y :: ds => by
    unfold D.pys pysIn D.eqv
    rw [List.any_cons, List.any_cons, pys_any x ds]
    rfl
theorem list_shaped {ds : List D} (f : D.flats 59 ds = true) : SeqAt.shaped (.list (D.pys ds)) = true := by
  have := py_shaped (d := .lst ds) (by unfold D.flat; exact f)
  unfold D.py at this
  exact this
theorem sim_in (hK : G.K = X.K) : Sim2 G dIn (rInM X.K false) := fun Z H d e x y z Q i rx ry h q => by
  unfold dIn at h
  split at h
  · split at h
    · rename_i hf
      rw [Bool.and_eq_true] at hf
      cases h
      refine .inl ⟨_, _, hK ▸ rx.dp hf.1, .inl ?_, py_shaped hf.1, list_shaped hf.2, ?_⟩
      · have := ry.dp (n := 60) (by unfold D.flat; exact hf.2)
        unfold D.py at this
        exact hK ▸ this
      · rw [pys_any]
        exact q _ H (Same.refl H) (.bl _)
    · cases h
  · split at h
    · rename_i hf
      rw [Bool.and_eq_true] at hf
      cases h
      refine .inl ⟨_, _, hK ▸ rx.dp hf.1, .inr ?_, py_shaped hf.1, list_shaped hf.2, ?_⟩
      · have := ry.dp (n := 60) (by unfold D.flat; exact hf.2)
        unfold D.py at this
        exact hK ▸ this
      · rw [pys_any]
        exact q _ H (Same.refl H) (.bl _)
    · cases h
  · split at h
    · cases h
      exact .inr ⟨_, _, rx.str', ry.str', q _ H (Same.refl H) (.bl _)⟩
    · cases h
  · cases h
theorem sim_notIn (hK : G.K = X.K) : Sim2 G dNotIn (rInM X.K true) := fun Z H d e x y z Q i rx ry h q => by
  unfold dNotIn at h
  split at h
  · rename_i b hb
    cases h
    have := sim_in (X := X) hK Z H d e x y (.bl b) (fun v H' => ∃ c, v = .bl c ∧ Q (.bl (!c)) H') i rx ry hb fun v H' e' r' => by
      rw [r'.bl']
      exact ⟨b, rfl, q _ H' e' (.bl _)⟩
    rcases this with ⟨d', ds, h1, h2, h3, h4, c, h5, h6⟩ | ⟨i', j, h1, h2, c, h5, h6⟩
    · refine .inl ⟨d', ds, h1, h2, h3, h4, ?_⟩
      have h5 : (ds.any fun z => PyData.eqv z d') = c := V.bl.inj h5
      rw [if_pos rfl, h5]
      exact h6
    · refine .inr ⟨i', j, h1, h2, ?_⟩
      have h5 : (!(Builtin.Str.occurrences j i' 0 j.length 1).isEmpty) = c := V.bl.inj h5
      rw [if_pos rfl, h5]
      exact h6
  · cases h
/-! ### subscripts -/
theorem Reps.atI {Z : Zone} {H : Hp} {ds : List D} {vs : List V} {i : Int} {d : D} (r : Reps G Z H ds vs) (h : atI ds i = some d) : ∃ v, L2.atI vs i = some v ∧ Rep G Z H d v := by
  unfold L2.atI at h ⊢
  obtain ⟨j, h1, h2⟩ := Option.bind_eq_some_iff.mp h
  obtain ⟨v, h3, h4⟩ := r.get h2
  exact ⟨v, by rw [← r.length, h1]; exact h3, h4⟩
theorem View.scr' {Z : Zone} {H : Hp} {ns : List Int} {v : V} (h : View G Z H (.scr ns) v) : ∃ a, v = .ref a ∧ SqL G.K H a (ns.map V.int) := by
  cases h with
  | rep h =>
    cases h with
    | scr r z => exact ⟨_, rfl, .inl r⟩
    | scrK h => exact ⟨_, rfl, .inr h⟩
theorem sim_ix (hK : G.K = X.K) : Sim2 G dIx (rIx X.K) := fun Z H d e x y z Q i rx ry h q => by
  unfold dIx at h
  split at h
  · obtain ⟨a, vs, rfl, ha, ra⟩ := rx.list
    obtain ⟨v, hv, rv⟩ := ra.atI h
    exact .inl ⟨a, vs, _, v, rfl, ry.int', .inl ha, hv, q _ H (Same.refl H) rv⟩
  · obtain ⟨a, vs, rfl, ha, ra⟩ := rx.tup
    obtain ⟨v, hv, rv⟩ := ra.atI h
    exact .inr (.inl ⟨a, vs, _, v, rfl, ry.int', hK ▸ ha, hv, q _ H (Same.refl H) rv⟩)
  · obtain ⟨m, h1, h2⟩ := Option.map_eq_some_iff.mp h
    cases h2
    obtain ⟨a, rfl, ha⟩ := rx.scr'
    refine .inl ⟨a, _, _, _, rfl, ry.int', hK ▸ ha, ?_, q _ H (Same.refl H) (.int m)⟩
    unfold L2.atI at h1 ⊢
    obtain ⟨j, h1, h2⟩ := Option.bind_eq_some_iff.mp h1
    rw [List.length_map, h1]
    show (_ : List V)[j]? = _
    rw [List.getElem?_map, h2]
    rfl
  · rename_i z' i'
    split at h
    · obtain ⟨c, h1, h2⟩ := Option.map_eq_some_iff.mp h
      cases h2
      exact .inr (.inr ⟨z', i', c, rx.str', ry.int', by assumption, h1, q _ H (Same.refl H) (.str _)⟩)
    · cases h
  · cases h
/-! ### built-ins -/
theorem sim_len (hK : G.K = X.K) : SimC G dLen (fun xs H Q => (∃ x n, xs = [x] ∧ LenV X.K x H n ∧ Q (.int n) H) ∨ ∃ a kvs, xs = [V.ref a] ∧ H a = some (.dK kvs) ∧ Q (.int kvs.length) H) := fun Z H d x z Q i rx h q => by
  unfold dLen at h
  split at h
  · cases h
    obtain ⟨a, vs, rfl, ha, ra⟩ := rx.list
    refine .inl ⟨_, _, rfl, .inl ⟨vs, .inl ha, rfl⟩, ?_⟩
    rw [← ra.length]
    exact q _ H (Same.refl H) (.int _)
  · cases h
    obtain ⟨a, vs, rfl, ha, ra⟩ := rx.tup
    refine .inl ⟨_, _, rfl, .inr ⟨vs, hK ▸ ha, rfl⟩, ?_⟩
    rw [← ra.length]
    exact q _ H (Same.refl H) (.int _)
  · split at h
    · cases h
      rw [rx.str']
      exact .inl ⟨_, _, rfl, ⟨by assumption, rfl⟩, q _ H (Same.refl H) (.int _)⟩
    · cases h
  · cases h
    obtain ⟨a, rfl, ha⟩ := rx.scr'
    exact .inl ⟨_, _, rfl, .inl ⟨_, hK ▸ ha, by rw [List.length_map]⟩, q _ H (Same.refl H) (.int _)⟩
  · cases h
theorem cr_lenM : CallR X (.builtin "len") (fun xs H Q => (∃ x n, xs = [x] ∧ LenV X.K x H n ∧ Q (.int n) H) ∨ ∃ a kvs, xs = [V.ref a] ∧ H a = some (.dK kvs) ∧ Q (.int kvs.length) H) := call_len.or call_lenD
theorem sim_tuple (hK : G.K = X.K) : SimC G dTuple (fun xs H Q => ∃ p ys, xs = [.ref p] ∧ ((SqL X.K H p ys ∧ ∀ l, H l = none → Q (.ref l) (upd H l (.tup ys))) ∨ (SqT X.K H p ys ∧ Q (.ref p) H))) := fun Z H d x z Q i rx h q => by
  unfold dTuple at h
  split at h
  · cases h
    obtain ⟨a, vs, rfl, ha, ra⟩ := rx.list
    exact ⟨a, vs, rfl, .inl ⟨.inl ha, fun l hl => q _ _ (same_new hl) (new_tup i ra hl)⟩⟩
  · cases h
    have rt := rx.tupR
    obtain ⟨a, vs, rfl, ha, ra⟩ := rx.tup
    exact ⟨a, vs, rfl, .inr ⟨hK ▸ ha, q _ H (Same.refl H) rt⟩⟩
  · cases h
theorem sim_list (hK : G.K = X.K) : SimC G dList (fun xs H Q => ∃ p ys, xs = [.ref p] ∧ (SqL X.K H p ys ∨ SqT X.K H p ys) ∧ ∀ l, H l = none → Q (.ref l) (upd H l (.lst ys))) := fun Z H d x z Q i rx h q => by
  unfold dList at h
  split at h
  · cases h
    obtain ⟨a, vs, rfl, ha, ra⟩ := rx.list
    exact ⟨a, vs, rfl, .inl (.inl ha), fun l hl => q _ _ (same_new hl) (new_lst i ra hl)⟩
  · cases h
    obtain ⟨a, vs, rfl, ha, ra⟩ := rx.tup
    exact ⟨a, vs, rfl, .inr (hK ▸ ha), fun l hl => q _ _ (same_new hl) (new_lst i ra hl)⟩
  · cases h
theorem Reps.ofInts {Z : Zone} {H : Hp} : ∀ {ds : List D} {vs : List V} {ns : List Int}, Reps G Z H ds vs → dInts ds = some ns → vs = ns.map V.int
  | _, _, _, .nil, e => by cases e; rfl
  | _, _, ns, .cons (d := d) (ds := ds) r t, e => by
    unfold dInts at e
    split at e
    · rename_i h; cases h
    · rename_i i r' h
      cases h
      obtain ⟨m, h1, h2⟩ := Option.map_eq_some_iff.mp e
      subst h2
      rw [r.int', Reps.ofInts t h1]
      rfl
    · cases e
theorem Reps.ofBools {Z : Zone} {H : Hp} : ∀ {ds : List D} {vs : List V} {ns : List Bool}, Reps G Z H ds vs → dBools ds = some ns → vs = ns.map V.bl
  | _, _, _, .nil, e => by cases e; rfl
  | _, _, ns, .cons (d := d) (ds := ds) r t, e => by
    unfold dBools at e
    split at e
    · rename_i h; cases h
    · rename_i i r' h
      cases h
      obtain ⟨m, h1, h2⟩ := Option.map_eq_some_iff.mp e
      subst h2
      rw [r.bl', Reps.ofBools t h1]
      rfl
    · cases e
theorem cr_sumT (hc : X.calm = true) : CallR X (.builtin "sum") (fun vs H Q => ∃ (a : Addr) (ns : List Int), vs = [V.ref a] ∧ SqT X.K H a (ns.map V.int) ∧ Q (.int ns.sum) H) := by
  intro pins s σ H vs us Q I r h
  obtain ⟨a, ns, rfl, hs, q⟩ := h
  obtain ⟨its, rv, hl, _⟩ := I.tuple hs
  rw [Vals.ref1 r]
  have hi := rv.ints
  obtain ⟨xs, hx⟩ := hi.allInts.items
  have hn : PySem.numsOf (PySem.intItems xs).toList = ns := by rw [← hx]; exact hi.numsOf
  rw [PySem.nums_intItems] at hn
  rw [hx] at hl
  refine PySem.W.ktm_sumG (I.ok.hd hc) hl fun h' tk t' hk => ⟨.int _, H, I.kept hk, ⟨_, rfl⟩, ?_⟩
  rw [PySem.preSum_eq, List.take_of_length_le (by simp), hn]
  exact q
theorem cr_sumM (hc : X.calm = true) : CallR X (.builtin "sum") (fun vs H Q => rSum X.K vs H Q ∨ ∃ (a : Addr) (ns : List Int), vs = [V.ref a] ∧ SqT X.K H a (ns.map V.int) ∧ Q (.int ns.sum) H) := (cr_sum hc).or (cr_sumT hc)
theorem sim_sum (hK : G.K = X.K) : SimC G dSum (fun vs H Q => rSum X.K vs H Q ∨ ∃ (a : Addr) (ns : List Int), vs = [V.ref a] ∧ SqT X.K H a (ns.map V.int) ∧ Q (.int ns.sum) H) := fun Z H d x z Q i rx h q => by
  unfold dSum at h
  split at h
  · obtain ⟨ns, h1, h2⟩ := Option.map_eq_some_iff.mp h
    cases h2
    obtain ⟨a, vs, rfl, ha, ra⟩ := rx.list
    have e := ra.ofInts h1
    subst e
    exact .inl ⟨a, ns, rfl, .inl ha, q _ H (Same.refl H) (.int _)⟩
  · obtain ⟨ns, h1, h2⟩ := Option.map_eq_some_iff.mp h
    cases h2
    obtain ⟨a, vs, rfl, ha, ra⟩ := rx.tup
    have e := ra.ofInts h1
    subst e
    exact .inr ⟨a, ns, rfl, hK ▸ ha, q _ H (Same.refl H) (.int _)⟩
  · cases h
theorem sim_all : SimC G dAll (rAll X.K) := fun Z H d x z Q i rx h q => by
  unfold dAll at h
  split at h
  · obtain ⟨ns, h1, h2⟩ := Option.map_eq_some_iff.mp h
    cases h2
    obtain ⟨a, vs, rfl, ha, ra⟩ := rx.list
    have e := ra.ofBools h1
    subst e
    exact ⟨a, ns, rfl, .inl ha, q _ H (Same.refl H) (.bl _)⟩
  · cases h
theorem sim_any : SimC G dAny (rAny X.K) := fun Z H d x z Q i rx h q => by
  unfold dAny at h
  split at h
  · obtain ⟨ns, h1, h2⟩ := Option.map_eq_some_iff.mp h
    cases h2
    obtain ⟨a, vs, rfl, ha, ra⟩ := rx.list
    have e := ra.ofBools h1
    subst e
    exact ⟨a, ns, rfl, .inl ha, q _ H (Same.refl H) (.bl _)⟩
  · cases h
theorem maxI_ge : ∀ (l : List Int) (a : Int), a ≤ maxI a l ∧ (∀ x ∈ l, x ≤ maxI a l) ∧ (maxI a l = a ∨ maxI a l ∈ l)
  | [], a => ⟨Int.le_refl _, by simp, .inl rfl⟩
  | x :: l, a => by
    obtain ⟨h1, h2, h3⟩ := maxI_ge l (max a x)
    have e : maxI a (x :: l) = maxI (max a x) l := rfl
    rw [e]
    refine ⟨by omega, fun y hy => ?_, ?_⟩
    · rcases List.mem_cons.mp hy with rfl | hy
      · omega
      · exact h2 y hy
    · rcases h3 with h3 | h3
      · rw [h3]
        by_cases c : a ≤ x
        · exact .inr (by rw [show max a x = x by omega]; exact List.mem_cons_self)
        · exact .inl (by omega)
      · exact .inr (List.mem_cons_of_mem _ h3)
theorem minI_le : ∀ (l : List Int) (a : Int), minI a l ≤ a ∧ (∀ x ∈ l, minI a l ≤ x) ∧ (minI a l = a ∨ minI a l ∈ l)
  | [], a => ⟨Int.le_refl _, by simp, .inl rfl⟩
  | x :: l, a => by
    obtain ⟨h1, h2, h3⟩ := minI_le l (min a x)
    have e : minI a (x :: l) = minI (min a x) l := rfl
    rw [e]
    refine ⟨by omega, fun y hy => ?_, ?_⟩
    · rcases List.mem_cons.mp hy with rfl | hy
      · omega
      · exact h2 y hy
    · rcases h3 with h3 | h3
      · rw [h3]
        by_cases c : x ≤ a
        · exact .inr (by rw [show min a x = x by omega]; exact List.mem_cons_self)
        · exact .inl (by omega)
      · exact .inr (List.mem_cons_of_mem _ h3)
theorem sim_max : SimC G dMax (rMax X.K) := fun Z H d x z Q i rx h q => by
  unfold dMax at h
  split at h
  · split at h
    · rename_i a0 l h1
      cases h
      obtain ⟨a, vs, rfl, ha, ra⟩ := rx.list
      have e := ra.ofInts h1
      subst e
      obtain ⟨g1, g2, g3⟩ := maxI_ge l a0
      refine ⟨a, a0 :: l, rfl, .inl ha, by simp, fun m hm hall => ?_⟩
      have hle : m ≤ maxI a0 l := by
        rcases List.mem_cons.mp hm with rfl | hm
        · exact g1
        · exact g2 m hm
      have hge : maxI a0 l ≤ m := by
        rcases g3 with g3 | g3
        · rw [g3]; exact hall a0 List.mem_cons_self
        · exact hall _ (List.mem_cons_of_mem _ g3)
      rw [show m = maxI a0 l by omega]
      exact q _ H (Same.refl H) (.int _)
    · cases h
  · cases h
theorem sim_min : SimC G dMin (rMin X.K) := fun Z H d x z Q i rx h q => by
  unfold dMin at h
  split at h
  · split at h
    · rename_i a0 l h1
      cases h
      obtain ⟨a, vs, rfl, ha, ra⟩ := rx.list
      have e := ra.ofInts h1
      subst e
      obtain ⟨g1, g2, g3⟩ := minI_le l a0
      refine ⟨a, a0 :: l, rfl, .inl ha, by simp, fun m hm hall => ?_⟩
      have hle : minI a0 l ≤ m := by
        rcases List.mem_cons.mp hm with rfl | hm
        · exact g1
        · exact g2 m hm
      have hge : m ≤ minI a0 l := by
        rcases g3 with g3 | g3
        · rw [g3]; exact hall a0 List.mem_cons_self
        · exact hall _ (List.mem_cons_of_mem _ g3)
      rw [show m = minI a0 l by omega]
      exact q _ H (Same.refl H) (.int _)
    · cases h
  · cases h
theorem sim_max2 : SimN G dMax2 (fun xs H Q => ∃ i j, xs = [.int i, .int j] ∧ Q (.int (if j > i then j else i)) H) := fun Z H ds xs z Q i rx h q => by
  unfold dMax2 at h
  split at h
  · cases h
    cases rx with
    | cons r1 t =>
      cases t with
      | cons r2 t =>
        cases t
        rw [r1.int', r2.int']
        exact ⟨_, _, rfl, q _ H (Same.refl H) (.int _)⟩
  · cases h
theorem sim_min2 : SimN G dMin2 (fun xs H Q => ∃ i j, xs = [.int i, .int j] ∧ Q (.int (if j < i then j else i)) H) := fun Z H ds xs z Q i rx h q => by
  unfold dMin2 at h
  split at h
  · cases h
    cases rx with
    | cons r1 t =>
      cases t with
      | cons r2 t =>
        cases t
        rw [r1.int', r2.int']
        exact ⟨_, _, rfl, q _ H (Same.refl H) (.int _)⟩
  · cases h
theorem insI_perm (x : Int) : ∀ l : List Int, (insI x l).Perm (x :: l)
  | [] => .refl _
  | y :: r => by
    unfold insI
    split
    · exact .refl _
    · exact ((insI_perm x r).cons y).trans (.swap x y r)
theorem sortI_perm : ∀ l : List Int, (sortI l).Perm l
  | [] => .refl _
  | x :: r => (insI_perm x (sortI r)).trans ((sortI_perm r).cons x)
theorem insI_sorted (x : Int) : ∀ l : List Int, l.Pairwise (· ≤ ·) → (insI x l).Pairwise (· ≤ ·)
  | [], _ => by simp [insI]
  | y :: r, h => by
    unfold insI
    rw [List.pairwise_cons] at h
    split
    · rename_i hle
      rw [List.pairwise_cons]
      refine ⟨fun z hz => ?_, List.pairwise_cons.mpr h⟩
      rcases List.mem_cons.mp hz with rfl | hz
      · exact hle
      · exact Int.le_trans hle (h.1 z hz)
    · rename_i hle
      rw [List.pairwise_cons]
      refine ⟨fun z hz => ?_, insI_sorted x r h.2⟩
      rcases List.mem_cons.mp ((insI_perm x r).mem_iff.mp hz) with rfl | hz
      · omega
      · exact h.1 z hz
theorem sortI_sorted : ∀ l : List Int, (sortI l).Pairwise (· ≤ ·)
  | [] => .nil
  | x :: r => insI_sorted x _ (sortI_sorted r)
theorem sorted_uniq {a b : List Int} (p : a.Perm b) (ha : a.Pairwise (· ≤ ·)) (hb : b.Pairwise (· ≤ ·)) : a = b :=
  p.eq_of_pairwise (fun x y _ _ h1 h2 => Int.le_antisymm h1 h2) ha hb
theorem reps_ints {Z : Zone} {H : Hp} : ∀ ns : List Int, Reps G Z H (ns.map .int) (ns.map V.int)
  | [] => .nil
  | n :: ns => .cons (.int n) (reps_ints ns)
theorem sim_sorted : SimC G dSorted (rSortedI X.K) := fun Z H d x z Q i rx h q => by
  unfold dSorted at h
  split at h
  · obtain ⟨ns, h1, h2⟩ := Option.map_eq_some_iff.mp h
    cases h2
    obtain ⟨a, vs, rfl, ha, ra⟩ := rx.list
    have e := ra.ofInts h1
    subst e
    refine ⟨a, ns, rfl, .inl ha, fun ns' p hp hs hn => ?_⟩
    rw [sorted_uniq (hp.trans (sortI_perm ns).symm) hs (sortI_sorted ns)]
    exact q _ _ (same_new hn) (new_lst i (reps_ints _) hn)
  · cases h
theorem sim_abs : SimC G dAbs (fun xs H Q => ∃ i, xs = [.int i] ∧ Q (.int (if i < 0 then -i else i)) H) := fun Z H d x z Q i rx h q => by
  unfold dAbs at h
  split at h
  · cases h
    rw [rx.int']
    exact ⟨_, rfl, q _ H (Same.refl H) (.int _)⟩
  · cases h
theorem sim_int : SimC G dInt (fun xs H Q => (∃ i, xs = [.int i] ∧ Q (.int i) H) ∨ ∃ k, xs = [.bl k] ∧ Q (.int (if k then 1 else 0)) H) := fun Z H d x z Q i rx h q => by
  unfold dInt at h
  split at h
  · cases h
    rw [rx.int']
    exact .inl ⟨_, rfl, q _ H (Same.refl H) (.int _)⟩
  · cases h
    rw [rx.bl']
    exact .inr ⟨_, rfl, q _ H (Same.refl H) (.int _)⟩
  · cases h
theorem SqT.tyx {K : PySem.W.Frag} {H : Hp} {a : Addr} {vs : List V} (h : SqT K H a vs) : TyX K H (.ref a) (.type "tuple") := by
  rcases h with (h | ⟨o, h⟩) | ⟨o, its, n, h1, h2, _⟩
  · exact .base (.tup h)
  · exact .fTuple h
  · exact .kTuple h1 h2
theorem Rd.tyl {K : PySem.W.Frag} {H : Hp} {a : Addr} {vs : List V} (h : Rd H a (.lst vs)) : TyX K H (.ref a) (.type "list") := by
  rcases h with h | ⟨o, h⟩
  · exact .base (.lst h)
  · exact .base (.frz h)
theorem View.tyx {Z : Zone} {H : Hp} {d : D} {v : V} {n : String} (hK : G.K = X.K) (h : View G Z H d v) (e : tyName d = some n) : TyX X.K H v (.type n) := by
  cases d with
  | non => cases e; cases h with | rep h => rw [h.non']; exact .base .non
  | bl b => cases e; rw [h.bl']; exact .base (.bl _)
  | int b => cases e; rw [h.int']; exact .base (.int _)
  | str b => cases e; rw [h.str']; exact .base (.str _)
  | tup ds =>
    cases e
    obtain ⟨a, vs, rfl, ha, _⟩ := h.tup
    exact hK ▸ SqT.tyx ha
  | lst ds =>
    cases e
    obtain ⟨a, vs, rfl, ha, _⟩ := h.list
    exact Rd.tyl ha
  | dic ds =>
    cases e
    have key : ∀ {a : Addr} {kvs : List (Key × V)}, Rd H a (.dK kvs) → TyX X.K H (.ref a) (.type "dict") := fun r => r.elim (fun r => .base (.dK r)) fun ⟨o, r⟩ => .fDict r
    cases h with
    | rep h => cases h with | dK r z h => exact key r
    | dK r h => exact key r
  | diT ds => cases e
  | ins c fs => cases e
  | fn x => cases e
  | scr ns => cases e
theorem sim_isi (hK : G.K = X.K) {T : String} : Sim1 G (dIsi T) (fun x H Q => rIsi X.K [x, .ty T] H Q) := fun Z H d x z Q i rx h q => by
  unfold dIsi at h
  obtain ⟨n, h1, h2⟩ := Option.bind_eq_some_iff.mp h
  obtain ⟨b, h3, h4⟩ := Option.map_eq_some_iff.mp h2
  subst h4
  exact ⟨_, _, _, _, b, rfl, .ty T, rx.tyx hK h1, kit_ty h3, q _ H (Same.refl H) (.bl _)⟩
end
end M
namespace M
open PySem PySem.Spec L2

/-! ### calls of built-ins -/
section
variable {G : Wd} {W : WX} {X : Cx} {e : Expr} {es : List Expr} {pos p : Pos} {x : Str} {f : Den} {g : D → Option D} {r : List V → Hp → VK → Prop}
/-- f(e), a built-in of one argument -/
theorem me_bi1 {id : String} (hc : CallR X (.builtin id) r) (s : SimC G g r) (hv : bootBuiltins x = some (.builtin id)) (hm : X.mg x = none) (ha : MV G W X e f) (hg : Gl X x := by rfl) (hn : x ≠ "__name__" := by decide) (hdb : (x == ("__debug__" : Str)) = false := by decide)
    (hs : starEach [e] X.env = (false, eval e X.env) :: starEach [] X.env := by rfl) (he : starEach [e] X.env = (false, eval e X.env) :: starEach [] X.env := by rfl) (hpl : (backTo pos (starEach [] X.env)).any (·.1) = false := by rfl) : ME G W X (.Call (.Name x p) [e] [] pos) (eOp1 g f) :=
  PE.imp (pe_callB hc hg hm hv (pa_cons ha pa_nil hs) hn hdb he hpl) fun σ H Q q => argC s q
/-- T(e), a built-in type -/
theorem me_ty1 {T : String} (hc : CallR X (.type T) r) (s : SimC G g r) (hv : bootBuiltins x = some (.type T)) (hm : X.mg x = none) (ha : MV G W X e f) (hg : Gl X x := by rfl) (hn : x ≠ "__name__" := by decide) (hdb : (x == ("__debug__" : Str)) = false := by decide)
    (hs : starEach [e] X.env = (false, eval e X.env) :: starEach [] X.env := by rfl) (he : starEach [e] X.env = (false, eval e X.env) :: starEach [] X.env := by rfl) (hpl : (backTo pos (starEach [] X.env)).any (·.1) = false := by rfl) : ME G W X (.Call (.Name x p) [e] [] pos) (eOp1 g f) :=
  PE.imp (pe_callTy hc hg hm hv (pa_cons ha pa_nil hs) hn hdb he hpl) fun σ H Q q => argC s q
theorem me_biN {id : String} {fs : DenL} {gN : List D → Option D} (hc : CallR X (.builtin id) r) (s : SimN G gN r) (hv : bootBuiltins x = some (.builtin id)) (hm : X.mg x = none) (ha : MA G W X (e :: es) fs) (hg : Gl X x := by rfl) (hn : x ≠ "__name__" := by decide) (hdb : (x == ("__debug__" : Str)) = false := by decide)
    (he : starEach (e :: es) X.env = (false, eval e X.env) :: starEach es X.env := by rfl) (hpl : (backTo pos (starEach es X.env)).any (·.1) = false := by rfl) : ME G W X (.Call (.Name x p) (e :: es) [] pos) (eOpN gN fs) :=
  PE.imp (pe_callB hc hg hm hv ha hn hdb he hpl) fun σ H Q q => argsN s q
/-- isinstance(e, T) -/
theorem me_isi {T : String} {y : Str} {p2 : Pos} (hK : G.K = X.K) (hm : X.mg "isinstance" = none) (hv : bootBuiltins y = some (.type T)) (hmy : X.mg y = none) (ha : MV G W X e f) (hgy : Gl X y := by rfl) (hny : y ≠ "__name__" := by decide) (hdby : (y == ("__debug__" : Str)) = false := by decide) (hg : Gl X "isinstance" := by rfl)
    (hs : starEach [e, .Name y p2] X.env = (false, eval e X.env) :: starEach [.Name y p2] X.env := by rfl) (hs2 : starEach [.Name y p2] X.env = (false, eval (.Name y p2) X.env) :: starEach [] X.env := by rfl) (hpl : (backTo pos (starEach [.Name y p2] X.env)).any (·.1) = false := by rfl) :
    ME G W X (.Call (.Name "isinstance" p) [e, .Name y p2] [] pos) (eOp1 (dIsi T) f) :=
  PE.imp (pe_callB call_isi hg hm (by decide +kernel) (pa_cons ha (pa_cons (pe_bltn (v := .ty T) hgy hmy hv rfl hny hdby) pa_nil hs2) hs) (by decide) (by decide) hs hpl) fun σ H Q q => by
    obtain ⟨Z, ρ, st, L, S, q⟩ := q
    refine ⟨Z, ρ, st, L, S, PostR.bind q fun d st1 x H1 L1 e f1 o1 r1 q1 => ?_⟩
    split at q1
    · rename_i z ez
      exact sim_isi (X := X) hK _ _ _ _ z _ o1.inn r1 ez fun v' H' e' r' => q1 v' H' L1 (Fw.same e') (o1.same e') r'
    · exact q1.elim
end

/-! ### slices -/
def cutD (xs : List D) (lo hi : Option Int) : List D := (xs.drop (HT.sIx xs.length 0 lo)).take (HT.sIx xs.length xs.length hi - HT.sIx xs.length 0 lo)
abbrev DenO := Env → Sto → Res (Option Int)
@[simp] def eNo : DenO := fun _ st => .ok none st
@[simp] def eSo (f : Den) : DenO := fun ρ st => (f ρ st).bind fun d st => match d with | .int i => .ok (some i) st | _ => .stuck
noncomputable def dCut (d : D) (lo hi : Option Int) : Option D := match d with
  | .lst ds => some (.lst (cutD ds lo hi))
  | .tup ds => some (.tup (cutD ds lo hi))
  | .str z => if z.length ≤ sizeLine then some (.str (cutS z lo hi)) else none
  | _ => none
@[simp] noncomputable def eCut (f : Den) (lo hi : DenO) : Den := fun ρ st => (f ρ st).bind fun d st => (lo ρ st).bind fun l st => (hi ρ st).bind fun h st => match dCut d l h with | some z => .ok z st | none => .stuck
def tMO (G : Wd) (W : WX) (f : DenO) : TO := fun σ H Q => ∃ Z ρ st L, Stt G Z ρ st L σ H ∧ PostR G Z W (fun _ _ a b => a = b) σ L st H (f ρ st) Q
abbrev MO (G : Wd) (W : WX) (X : Cx) (e : Option Expr) (f : DenO) : Prop := PO X e (tMO G W f)
section
variable {G : Wd} {W : WX} {X : Cx} {e : Expr} {pos p2 : Pos}
theorem PO.imp {X : Cx} {e : Option Expr} {t t' : TO} (h : PO X e t) (i : ∀ σ H Q, t' σ H Q → t σ H Q) : PO X e t' := ⟨fun pins s σ H Q I q => h.run pins s σ H Q I (i σ H Q q)⟩
theorem mo_none : MO G W X none eNo := PO.imp po_none fun σ H Q q => by
  obtain ⟨Z, ρ, st, L, S, q⟩ := q
  exact PostR.pure (W := W) (R := fun _ _ a b => a = b) S.ok q rfl
theorem mo_some {f : Den} (h : ME G W X e f) : MO G W X (some e) (eSo f) := PO.imp (po_some h) fun σ H Q q => by
  obtain ⟨Z, ρ, st, L, S, q⟩ := q
  refine ⟨Z, ρ, st, L, S, PostR.bind q fun d st1 x H1 L1 e f1 o1 r1 q1 => ?_⟩
  split at q1
  · rename_i i
    exact ⟨i, r1.int', PostR.pure (W := W) (R := fun _ _ a b => a = b) o1 q1 rfl⟩
  · exact q1.elim
theorem Reps.cut {Z : Zone} {H : Hp} {ds : List D} {vs : List V} {lo hi : Option Int} (r : Reps G Z H ds vs) : Reps G Z H (cutD ds lo hi) (cutV vs lo hi) := by
  unfold cutD cutV
  rw [r.length]
  exact (r.drop _).take _
def rSlM (K : PySem.W.Frag) : V → Option Int → Option Int → Hp → VK → Prop := fun x lo hi H Q => (∃ a xs, x = .ref a ∧ SqL K H a xs ∧ ∀ p, H p = none → Q (.ref p) (upd H p (.lst (cutV xs lo hi)))) ∨ rSlA K x lo hi H Q ∨ rSlS x lo hi H Q
theorem sl_m : SlR X (rSlM X.K) := sl_list.or (sl_tupA.or sl_str)
theorem me_cut {f : Den} {lo hi : Option Expr} {fl fh : DenO} (hK : G.K = X.K) (he : ME G W X e f) (hl : MO G W X lo fl) (hh : MO G W X hi fh) : ME G W X (.Subscript e (.Slice lo hi none p2) pos) (eCut f fl fh) := PE.imp (pe_slice sl_m he hl hh) fun σ H Q q => by
  obtain ⟨Z, ρ, st, L, S, q⟩ := q
  refine ⟨Z, ρ, st, L, S, PostR.bind q fun d st1 x H1 L1 e f1 o1 r1 q1 => ?_⟩
  refine ⟨Z, ρ, st1, L1, S.to f1 o1, PostR.bind q1 fun l st2 y H2 L2 e2 f2 o2 r2 q2 => ?_⟩
  subst r2
  refine ⟨Z, ρ, st2, L2, (S.to f1 o1).to f2 o2, PostR.bind q2 fun h st3 y3 H3 L3 e3 f3 o3 r3 q3 => ?_⟩
  subst r3
  have r1 := (r1.mono f2.keeps).mono f3.keeps
  split at q3
  · rename_i z ez
    unfold dCut at ez
    split at ez
    · cases ez
      obtain ⟨a, vs, rfl, ha, ra⟩ := r1.list'
      exact .inl ⟨a, vs, rfl, .inl ha, fun p hp => q3 _ _ L3 (Fw.same (same_new hp)) (o3.same (same_new hp)) (new_lst o3.inn ra.cut hp)⟩
    · cases ez
      have rt := r1
      obtain ⟨a, vs, rfl, ha, ra⟩ := r1.tup'
      refine .inr (.inl ⟨a, vs, rfl, hK ▸ ha, fun hw => ?_, fun hw p hp => q3 _ _ L3 (Fw.same (same_new hp)) (o3.same (same_new hp)) (new_tup o3.inn ra.cut hp)⟩)
      refine q3 _ H3 L3 Fw.refl o3 ?_
      unfold cutD
      rw [ra.length, hw.1, hw.2, List.drop_zero, Nat.sub_zero, ← ra.length, List.take_length]
      exact rt
    · split at ez
      · cases ez
        exact .inr (.inr ⟨_, r1.str', by assumption, q3 _ H3 L3 Fw.refl o3 (.str _)⟩)
      · cases ez
    · cases ez
  · exact q3.elim
end

/-! ### defs -/
inductive SReps (G : Wd) (Z : Zone) (H : Hp) (L : List Addr) : List S → List V → Prop
  | nil : SReps G Z H L [] []
  | cons {d : S} {v : V} {ds : List S} {vs : List V} : SRep G Z H L d v → SReps G Z H L ds vs → SReps G Z H L (d :: ds) (v :: vs)
abbrev FD := List S → Sto → Res D
theorem SReps.length {G : Wd} {Z : Zone} {H : Hp} {L : List Addr} : ∀ {ds : List S} {vs : List V}, SReps G Z H L ds vs → ds.length = vs.length
  | _, _, .nil => rfl
  | _, _, .cons _ t => congrArg (· + 1) t.length
theorem SReps.get {G : Wd} {Z : Zone} {H : Hp} {L : List Addr} : ∀ {ds : List S} {vs : List V} {i : Nat} {d : S}, SReps G Z H L ds vs → ds[i]? = some d → ∃ v, vs[i]? = some v ∧ SRep G Z H L d v
  | _, _, _, _, .nil, e => by simp at e
  | _, _, 0, _, .cons r _, e => by simp at e; subst e; exact ⟨_, rfl, r⟩
  | _, _, i + 1, d, .cons _ t, e => by
    obtain ⟨v, h1, h2⟩ := SReps.get (i := i) (d := d) t (by simpa using e)
    exact ⟨v, by simpa using h1, h2⟩
theorem SReps.mono {G : Wd} {Z : Zone} {L L' : List Addr} {st st' : Sto} {H H' : Hp} (f : Fw Z L st H L' st' H') : ∀ {ds : List S} {vs : List V}, SReps G (Zof Z L st) H L ds vs → SReps G (Zof Z L' st') H' L' ds vs
  | _, _, .nil => .nil
  | _, _, .cons h t => .cons (h.mono f) (SReps.mono f t)
def spM (G : Wd) (n : Nat) (dn : FD) : Sp := fun vs H Q E => vs.length = n ∧ ∃ Z ss st L, StOk G Z L st H ∧ SReps G (Zof Z L st) H L ss vs ∧ match dn ss st with
  | .ok d st' => ∀ v H' L', Fw Z L st H L' st' H' → StOk G Z L' st' H' → Rep G (Zof Z L' st') H' d v → Q v H'
  | .exc c fs st' => ExP G Z L st H c fs st' E
  | .stuck => False
/-- a def that may be called by its name -/
structure MCal (P : Program) (w : World) (K : PySem.W.Frag) (mg : Str → Option Value) (base : Heap) (G : Wd) (k : Nat) (x : Str) (n : Nat) (dn : FD) : Prop where
  ex : ∃ (f : Addr) (fd : FuncData) (ps : List Str), FnOk P w K mg base (L2N.CX P w) k f fd ps (spM G n dn) ∧ mg x = some (.ref f) ∧ PySem.W.keepIn K (.ref f) = true ∧ Binds K fd ps []
/-- f(..), all arguments data: the def runs over a store of its own -/
@[simp] def eCall (n : Nat) (dn : FD) (f : DenL) : Den := fun ρ st => (f ρ st).bind fun ds st => if ds.length = n then (match dn (ds.map .p) [] with | .ok d [] => .ok d st | .exc c fs [] => .exc c fs st | _ => .stuck) else .stuck
section
variable {G : Wd} {W : WX} {X : Cx} {Z : Zone} {H H' : Hp} {L : List Addr} {st : Sto}
theorem sreps_p : ∀ {ds : List D} {vs : List V}, Reps G Z H ds vs → SReps G Z H L (ds.map .p) vs
  | _, _, .nil => .nil
  | _, _, .cons h t => .cons (.p h) (sreps_p t)
theorem Reps.zone {Z Z' : Zone} {H : Hp} (h : ∀ a, Z' a → Z a) {ds : List D} {vs : List V} (r : Reps G Z H ds vs) : Reps G Z' H ds vs := r.mono fun a o e z => ⟨.of e, fun q => z (h a q)⟩
theorem Rep.zone {Z Z' : Zone} {H : Hp} (h : ∀ a, Z' a → Z a) {ds : D} {vs : V} (r : Rep G Z H ds vs) : Rep G Z' H ds vs := r.mono fun a o e z => ⟨.of e, fun q => z (h a q)⟩
theorem zof_nil {Z : Zone} {a : Addr} : Zof Z [] [] a ↔ Z a := ⟨fun h => h.elim id fun ⟨n, o, e, _⟩ => by simp at e, .inl⟩
/-- over an empty store, in a zone that holds our live things -/
theorem StOk.empty (S : StOk G Z L st H) : StOk G (Zof Z L st) [] [] H :=
  ⟨rfl, .nil, fun n a o e => by simp at e, S.inn, fun a h => by simp at h, fun a h => by simp at h, S.tb.zone fun a h => zof_nil.mp h⟩
theorem Fw.fromEmpty (S : StOk G Z L st H) (f : Fw (Zof Z L st) [] [] H [] [] H') : Fw Z L st H L st H' :=
  ⟨⟨[], by simp, by simp⟩, fun a o e _ => f.keep a o e (fun ⟨n, o, e, _⟩ => by simp at e), f.there, fun a o z e => f.zk a o (.inl z) e, fun n o' _ e l => ⟨o', e, l⟩⟩
theorem OOk.zk {a : Addr} {o : O} (k : ∀ b, Live L st b → H' b = H b) (f : Fw Z L st H L st H') (ha : o.live = true → Live L st a) (h : OOk G (Zof Z L st) H L a o) : OOk G (Zof Z L st) H' L a o := by
  cases o with
  | lst ds => exact h.mono f (k a (ha rfl))
  | dic ds => exact h.mono f (k a (ha rfl))
  | diT ds => exact h.mono f (k a (ha rfl))
  | rows ns => exact h.mono f (k a (ha rfl))
  | ins c fs => exact h.mono f (k a (ha rfl))
  | frz d => exact Rep.mono f.keeps h
  | dead => trivial
theorem StOk.fromEmpty (S : StOk G Z L st H) (f : Fw (Zof Z L st) [] [] H [] [] H') (t : TabZ G.T (Zof (Zof Z L st) [] []) H') : StOk G Z L st H' := by
  have g := Fw.fromEmpty S f
  refine ⟨S.len, S.nd, fun n a o e1 e2 => OOk.zk (fun b hb => ?_) g (fun hl => ⟨n, o, e1, e2, hl⟩) (S.obj n a o e1 e2), fun a z => f.there a (S.z0 a z), S.zl, fun a h => f.there a (S.lh a h), t.zone fun a h => zof_nil.mpr h⟩
  obtain ⟨o, e⟩ : ∃ o, H b = some o := by
    obtain ⟨n, o', e1, _⟩ := hb
    exact Option.ne_none_iff_exists'.mp (S.lh b (List.mem_of_getElem? e1))
  rw [e]
  exact f.zk b o (.inr hb) e
theorem nil_of_len {L' : List Addr} (S : StOk G Z L' [] H) : L' = [] := List.length_eq_zero_iff.mp S.len
theorem me_call1 {n : Nat} {dn : FD} {σ : St} {ds : List D} {vs : List V} {Q : VK} (o1 : StOk G Z L st H) (r1 : Reps G (Zof Z L st) H ds vs) (hn : ds.length = n)
    (q1 : PostR G Z W (RD G) σ L st H (match dn (ds.map .p) [] with | .ok d [] => .ok d st | .exc c fs [] => .exc c fs st | _ => .stuck) Q) : spM G n dn vs H Q (WE W σ) := by
  refine ⟨by rw [← r1.length]; exact hn, Zof Z L st, ds.map .p, [], [], o1.empty, sreps_p (r1.zone fun a h => zof_nil.mp h), ?_⟩
  revert q1
  cases hd : dn (ds.map .p) [] with
  | stuck => exact fun q1 => q1
  | ok d st2 =>
    cases st2 with
    | cons a b => exact fun q1 => q1.elim
    | nil =>
      intro q1 v H2 L2 f2 o2 r2
      have := nil_of_len o2
      subst this
      exact q1 v H2 L (Fw.fromEmpty o1 f2) (o1.fromEmpty f2 o2.tb) (r2.zone fun a h => zof_nil.mpr h)
  | exc c fs st2 =>
    cases st2 with
    | cons a b => exact fun q1 => q1.elim
    | nil =>
      intro q1 H2 L2 C dd vfs f2 o2 hC hdd rf
      have := nil_of_len o2
      subst this
      exact q1 H2 L C dd vfs (Fw.fromEmpty o1 f2) (o1.fromEmpty f2 o2.tb) hC (hdd.zone fun a q => zof_nil.mpr q) (rf.mono fun a o e z => ⟨.of e, fun q => z (zof_nil.mpr q)⟩)
theorem me_call {k : Nat} {x : Str} {n : Nat} {dn : FD} {p pos : Pos} {e : Expr} {es : List Expr} {f : DenL} (c : MCal X.prog X.w X.K X.mg X.base G k x n dn) (hr : Room k X.A) (tk : L2N.Takes X W) (ha : MA G W X (e :: es) f) (hg : Gl X x := by rfl)
    (hdb : (x == ("__debug__" : Str)) = false := by decide) (he : starEach (e :: es) X.env = (false, eval e X.env) :: starEach es X.env := by rfl) (hpl : (backTo pos (starEach es X.env)).any (·.1) = false := by rfl) :
    ME G W X (.Call (.Name x p) (e :: es) [] pos) (eCall n dn f) := by
  obtain ⟨fa, fd, ps, F, hm, kp, b⟩ := c.ex
  refine PE.imp (pe_callS (E := WE W) F hr hg hm kp b (fun σ => L2N.passAt tk σ) ha hdb he hpl) fun σ H Q q => ?_
  obtain ⟨Z, ρ, st, L, S, q⟩ := q
  refine ⟨Z, ρ, st, L, S, PostR.bind q fun ds st1 vs H1 L1 ed f1 o1 r1 q1 => ?_⟩
  by_cases hn : ds.length = n
  · rw [if_pos hn] at q1
    exact me_call1 o1 r1 hn q1
  · rw [if_neg hn] at q1
    exact q1.elim
end
end M
namespace M
open PySem PySem.Spec L2

/-! ### zones: a place of our own -/
def Zp (Z : Zone) (p : Addr) : Zone := fun a => Z a ∨ a = p
section
variable {G : Wd} {W : WX} {X : Cx} {Z Z' : Zone} {H H' : Hp} {L L' : List Addr} {st st' : Sto} {p : Addr} {o : HO}
theorem Fw.zone (h : ∀ a, Z a → Z' a) (f : Fw Z' L st H L' st' H') : Fw Z L st H L' st' H' := ⟨f.pre, f.keep, f.there, fun a o z => f.zk a o (h a z), f.live⟩
theorem SRep.zone {Z Z' : Zone} {H : Hp} (h : ∀ a, Z' a → Z a) {s : S} {v : V} (r : SRep G Z H L s v) : SRep G Z' H L s v := by
  cases r with
  | p r => exact .p (r.zone h)
  | r e => exact .r e
  | x e1 e2 e3 e4 => exact .x e1 e2 (e3.zone h) (e4.mono fun a o e z => ⟨.of e, fun q => z (h a q)⟩)
theorem SRepF.zone {Z Z' : Zone} {H : Hp} (h : ∀ a, Z' a → Z a) : ∀ {fs : List (Str × S)} {vs : List (Str × V)}, SRepF G Z H L fs vs → SRepF G Z' H L fs vs
  | _, _, .nil => .nil
  | _, _, .cons r t => .cons (r.zone h) (SRepF.zone h t)
theorem RepK.zone {Z Z' : Zone} {H : Hp} (h : ∀ a, Z' a → Z a) {ds : List (D × D)} {vs : List (Key × V)} (r : RepK G Z H ds vs) : RepK G Z' H ds vs := r.mono fun a o e z => ⟨.of e, fun q => z (h a q)⟩
theorem RepT.zone {Z Z' : Zone} {H : Hp} (h : ∀ a, Z' a → Z a) {ds : List (D × D)} {vs : List (List Key × V)} (r : RepT G Z H ds vs) : RepT G Z' H ds vs := r.mono fun a o e z => ⟨.of e, fun q => z (h a q)⟩
theorem RepF.zone {Z Z' : Zone} {H : Hp} (h : ∀ a, Z' a → Z a) {ds : List (Str × D)} {vs : List (Str × V)} (r : RepF G Z H ds vs) : RepF G Z' H ds vs := r.mono fun a o e z => ⟨.of e, fun q => z (h a q)⟩
theorem OOk.zone {Z Z' : Zone} {H : Hp} (h : ∀ a, Z' a → Z a) {a : Addr} : ∀ {o : O}, OOk G Z H L a o → OOk G Z' H L a o
  | .lst ds, ⟨vs, e, r⟩ => ⟨vs, e, r.zone h⟩
  | .dic ds, ⟨vs, e, r⟩ => ⟨vs, e, r.zone h⟩
  | .diT ds, ⟨vs, e, r⟩ => ⟨vs, e, r.zone h⟩
  | .rows ns, ⟨as, e, r⟩ => ⟨as, e, r⟩
  | .ins c fs, ⟨C, dx, vfs, hc, e, r⟩ => ⟨C, dx, vfs, hc, e, r.zone h⟩
  | .frz d, r => Rep.zone h r
  | .dead, _ => trivial
theorem zof_mono (h : ∀ a, Z a → Z' a) : ∀ a, Zof Z L st a → Zof Z' L st a := fun a z => z.elim (fun z => .inl (h a z)) .inr
theorem StOk.shrink (h : ∀ a, Z a → Z' a) (S : StOk G Z' L st H) : StOk G Z L st H :=
  ⟨S.len, S.nd, fun n a o e1 e2 => (S.obj n a o e1 e2).zone (zof_mono h), fun a z => S.z0 a (h a z), fun a m z => S.zl a m (h a z), S.lh, S.tb.zone (zof_mono h)⟩
/-- what leans on H alone leans on it beside a new place -/
theorem keeps_new (h : H p = none) : Keeps (Zof Z L st) (Zof (Zp Z p) L st) H (upd H p o) := fun a u e z => by
  have ne : a ≠ p := ne_of_none e h
  refine ⟨.of (by rw [upd_ne ne]; exact e), fun q => ?_⟩
  rcases q with (q | q) | q
  · exact z (.inl q)
  · exact ne q
  · exact z (.inr q)
theorem SRep.keeps (k : Keeps Z Z' H H') {s : S} {v : V} (h : SRep G Z H L s v) : SRep G Z' H' L s v := by
  cases h with
  | p r => exact .p (r.mono k)
  | r e => exact .r e
  | x e1 e2 e3 e4 => exact .x e1 e2 (e3.mono k) (e4.mono k)
theorem SRepF.keeps (k : Keeps Z Z' H H') : ∀ {fs : List (Str × S)} {vs : List (Str × V)}, SRepF G Z H L fs vs → SRepF G Z' H' L fs vs
  | _, _, .nil => .nil
  | _, _, .cons r t => .cons (r.keeps k) (SRepF.keeps k t)
theorem OOk.keeps (k : Keeps Z Z' H H') {a : Addr} (e : ∀ o, H a = some o → H' a = some o) : ∀ {o : O}, OOk G Z H L a o → OOk G Z' H' L a o
  | .lst ds, ⟨vs, h, r⟩ => ⟨vs, e _ h, r.mono k⟩
  | .dic ds, ⟨vs, h, r⟩ => ⟨vs, e _ h, r.mono k⟩
  | .diT ds, ⟨vs, h, r⟩ => ⟨vs, e _ h, r.mono k⟩
  | .rows ns, ⟨as, h, r⟩ => ⟨as, e _ h, r⟩
  | .ins c fs, ⟨C, dx, vfs, hc, h, r⟩ => ⟨C, dx, vfs, hc, e _ h, r.keeps k⟩
  | .frz d, r => Rep.mono k r
  | .dead, _ => trivial
theorem StOk.enter (S : StOk G Z L st H) (h : H p = none) : StOk G (Zp Z p) L st (upd H p o) := by
  refine ⟨S.len, S.nd, fun n a u e1 e2 => (S.obj n a u e1 e2).keeps (keeps_new h) fun o e => by rw [upd_ne (ne_of_none e h)]; exact e, fun a z => ?_, fun a m z => ?_, fun a m => some_of_same (same_new h) (S.lh a m), S.tb.mono fun a u q z => ⟨same_new h a u q, (keeps_new (o := o) h a u q z).2⟩⟩
  · rcases z with z | rfl
    · exact some_of_same (same_new h) (S.z0 a z)
    · rw [upd_same]; simp
  · rcases z with z | rfl
    · exact S.zl a m z
    · exact S.lh a m h
theorem EnvOk.enter {ρ : Env} {σ : St} (h : H p = none) (E : EnvOk G (Zof Z L st) H L ρ σ) : EnvOk G (Zof (Zp Z p) L st) (upd H p o) L ρ σ :=
  ⟨E.1, fun i s e => let ⟨v, e2, r⟩ := E.2 i s e; ⟨v, e2, r.keeps (keeps_new h)⟩⟩
/-- our own place is written -/
theorem keeps_own : Keeps (Zof (Zp Z p) L st) (Zof (Zp Z p) L st) H (upd H p o) := fun a u e z => by
  have ne : a ≠ p := fun q => z (.inl (.inr q))
  exact ⟨.of (by rw [upd_ne ne]; exact e), z⟩
theorem StOk.own (S : StOk G (Zp Z p) L st H) : StOk G (Zp Z p) L st (upd H p o) := by
  refine ⟨S.len, S.nd, fun n a u e1 e2 => (S.obj n a u e1 e2).keeps keeps_own fun o e => ?_, fun a z => ?_, S.zl, fun a m => ?_, S.tb.mono fun a u q z => ⟨by rw [upd_ne fun y => z (.inl (.inr y))]; exact q, z⟩⟩
  · have ne : a ≠ p := fun q => S.zl a (List.mem_of_getElem? e1) (.inr q)
    rw [upd_ne ne]; exact e
  · by_cases q : a = p
    · rw [q, upd_same]; simp
    · rw [upd_ne q]; exact S.z0 a z
  · by_cases q : a = p
    · rw [q, upd_same]; simp
    · rw [upd_ne q]; exact S.lh a m
theorem Fw.own {L0 : List Addr} {st0 : Sto} {H0 : Hp} (h : H0 p = none) (f : Fw Z L0 st0 H0 L st H) : Fw Z L0 st0 H0 L st (upd H p o) := by
  refine ⟨f.pre, fun a u e nl => ?_, fun a n => ?_, fun a u z e => ?_, f.live⟩
  · obtain ⟨o', h1, h2⟩ := f.keep a u e nl
    exact ⟨o', by rw [upd_ne (ne_of_none e h)]; exact h1, h2⟩
  · by_cases q : a = p
    · rw [q, upd_same]; simp
    · rw [upd_ne q]; exact f.there a n
  · rw [upd_ne (ne_of_none e h)]
    exact f.zk a u z e
/-- a thing of one's own, told as data -/
@[simp] def ePure (f : Env → Sto → Res O) : Den := fun ρ st => (f ρ st).bind fun o st => match thaw o with | some d => .ok d st | none => .stuck
theorem me_own {e : Expr} {f : Env → Sto → Res O} (h : MN G W X e f) : ME G W X e (ePure f) := PE.imp h fun σ H Q q => by
  obtain ⟨Z, ρ, st, L, S, q⟩ := q
  refine ⟨Z, ρ, st, L, S, ?_⟩
  cases ef : f ρ st with
  | stuck => simp only [ePure, ef, Res.bind] at q; exact q
  | exc c fs st1 => simp only [ePure, ef, Res.bind] at q; exact q
  | ok o st1 =>
    simp only [ePure, ef, Res.bind] at q
    intro p H1 L1 fn ok
    have o1 : StOk G Z L1 st1 H1 := fn.ok.shrink fun a z => .inl z
    have zp : ¬ Zof Z L1 st1 p := fun z => by
      rcases z with z | ⟨n, u, e1, _⟩
      · exact S.ok.z0 p z fn.new
      · exact fn.ok.zl p (List.mem_of_getElem? e1) (.inr rfl)
    have zz : ∀ a, Zof Z L1 st1 a → Zof (fun a => Z a ∨ a = p) L1 st1 a := zof_mono fun a z => .inl z
    cases o with
    | lst ds =>
      obtain ⟨vs, h1, h2⟩ := ok
      exact q _ H1 L1 fn.fr o1 (.lst (.inl h1) zp (h2.zone zz))
    | dic ds =>
      obtain ⟨kvs, h1, h2⟩ := ok
      exact q _ H1 L1 fn.fr o1 (.dK (.inl h1) zp (h2.zone zz))
    | diT ds =>
      obtain ⟨kvs, h1, h2⟩ := ok
      exact q _ H1 L1 fn.fr o1 (.dT (.inl h1) zp (h2.zone zz))
    | frz d => exact q _ H1 L1 fn.fr o1 (Rep.zone zz ok)
    | ins c fs => exact q.elim
    | rows ns => exact q.elim
    | dead => exact q.elim
end

/-! ### targets -/
abbrev GD := D → Env → Option Env
def wipeE (ρ : Env) : List Nat → Env
  | [] => ρ
  | v :: vs => (wipeE ρ vs).set v none
def GSim (G : Wd) (g : TG) (gm : GD) (vs : List Nat) : Prop := ∀ Z H L d v ρ σ ρ' Q, EnvOk G Z H L ρ σ → Rep G Z H d v → gm d ρ = some ρ' → (∀ σ', EnvOk G Z H L ρ' σ' → wipe σ' vs = wipe σ vs → Q σ' H) → g v σ H Q
def GsSim (G : Wd) (g : TGs) (gm : List D → Env → Option Env) (vs : List Nat) : Prop := ∀ Z H L d v ρ σ ρ' Q, EnvOk G Z H L ρ σ → Reps G Z H d v → gm d ρ = some ρ' → (∀ σ', EnvOk G Z H L ρ' σ' → wipe σ' vs = wipe σ vs → Q σ' H) → g v σ H Q
structure MG (G : Wd) (X : Cx) (tg : Expr) (gm : GD) (vs : List Nat) : Prop where
  ex : ∃ g, PG X tg g ∧ GSim G g gm vs
structure MGs (G : Wd) (X : Cx) (tgs : List Expr) (gm : List D → Env → Option Env) (vs : List Nat) : Prop where
  ex : ∃ g, PGs X tgs g ∧ GsSim G g gm vs
@[simp] def gN (i : Nat) : GD := fun d ρ => some (ρ.set i (some (.p d)))
@[simp] def gsNil : List D → Env → Option Env := fun ds ρ => match ds with | [] => some ρ | _ => none
@[simp] def gsCons (g : GD) (h : List D → Env → Option Env) : List D → Env → Option Env := fun ds ρ => match ds with | d :: r => (g d ρ).bind fun ρ => h r ρ | [] => none
@[simp] def gT (g : List D → Env → Option Env) (n : Nat) : GD := fun d ρ => match d with | .tup ds => if ds.length = n then g ds ρ else none | _ => none
section
variable {G : Wd} {W : WX} {X : Cx} {Z Z' : Zone} {H H' : Hp} {L L' : List Addr} {st st' : Sto} {pos : Pos}
theorem EnvOk.set {ρ : Env} {σ : St} {s : S} {v : V} (E : EnvOk G Z H L ρ σ) (i : Nat) (r : SRep G Z H L s v) : EnvOk G Z H L (ρ.set i (some s)) (σ.set i (some v)) := by
  refine ⟨by simpa using E.1, fun j t e => ?_⟩
  rcases getElem?_set_cases e with ⟨rfl, h1, hl⟩ | ⟨ne, h1⟩
  · cases h1
    exact ⟨v, List.getElem?_set_self (by rw [← E.1]; exact hl), r⟩
  · obtain ⟨v', e2, r2⟩ := E.2 j t h1
    exact ⟨v', by rw [List.getElem?_set_ne (Ne.symm ne)]; exact e2, r2⟩
theorem EnvOk.forget {ρ : Env} {σ : St} (E : EnvOk G Z H L ρ σ) (i : Nat) {x : Option V} : EnvOk G Z H L (ρ.set i none) (σ.set i x) := by
  refine ⟨by simpa using E.1, fun j t e => ?_⟩
  rcases getElem?_set_cases e with ⟨rfl, h1, hl⟩ | ⟨ne, h1⟩
  · cases h1
  · obtain ⟨v', e2, r2⟩ := E.2 j t h1
    exact ⟨v', by rw [List.getElem?_set_ne (Ne.symm ne)]; exact e2, r2⟩
theorem EnvOk.wipe {ρ : Env} {σ : St} (E : EnvOk G Z H L ρ σ) : ∀ vs : List Nat, EnvOk G Z H L (wipeE ρ vs) (L2.wipe σ vs)
  | [] => E
  | v :: vs => (EnvOk.wipe E vs).forget v
theorem wipe_set {σ : St} {i : Nat} {x : Option V} : ∀ {vs : List Nat}, i ∈ vs → L2.wipe (σ.set i x) vs = L2.wipe σ vs
  | v :: vs, h => by
    unfold L2.wipe
    by_cases q : i ∈ vs
    · rw [wipe_set q]
    · have e : i = v := by
        rcases List.mem_cons.mp h with e | e
        · exact e
        · exact absurd e q
      subst e
      have go : ∀ ws : List Nat, i ∉ ws → (L2.wipe (σ.set i x) ws).set i none = (L2.wipe σ ws).set i none := fun ws => by
        induction ws with
        | nil => intro _; unfold L2.wipe; rw [List.set_set]
        | cons w ws ih =>
          intro hn
          have h1 : i ≠ w := fun e => hn (by rw [e]; exact List.mem_cons_self)
          unfold L2.wipe
          rw [List.set_comm _ _ (Ne.symm h1), ih (fun q => hn (List.mem_cons_of_mem _ q)), List.set_comm _ _ h1]
      exact go vs q
theorem mg_name {x : Str} {vs : List Nat} (i : Nat) (hN : X.N.Nodup) (hi : X.N[i]? = some x := by rfl) (hv : i ∈ vs := by decide) (hx : Loc X.env.scope x := by first | exact .inl rfl | exact .inr rfl) (hf : X.fn x = true ∨ X.env.scope.names.lookup x = some .local := by first | exact .inl rfl | exact .inr rfl | assumption) :
    MG G X (.Name x pos) (gN i) vs := ⟨gName i, pg_name hN hi hx hf, fun Z H L d v ρ σ ρ' Q E r e q => by
  cases e
  exact q _ (E.set i (.p r)) (wipe_set hv)⟩
theorem mgs_nil {vs : List Nat} : MGs G X [] gsNil vs := ⟨gNil, pgs_nil, fun Z H L d v ρ σ ρ' Q E r e q => by
  cases r with
  | nil => cases e; exact ⟨rfl, q σ E rfl⟩
  | cons _ _ => cases e⟩
theorem mgs_cons {e : Expr} {es : List Expr} {g : GD} {h : List D → Env → Option Env} {vs : List Nat} (a : MG G X e g vs) (b : MGs G X es h vs) (hs : (assignEach (e :: es) X.env).map (·.2) = assign e X.env :: (assignEach es X.env).map (·.2) := by rfl) : MGs G X (e :: es) (gsCons g h) vs := by
  obtain ⟨ga, a1, a2⟩ := a.ex
  obtain ⟨gb, b1, b2⟩ := b.ex
  refine ⟨_, pgs_cons a1 b1 hs, fun Z H L d v ρ σ ρ' Q E r e q => ?_⟩
  cases r with
  | nil => cases e
  | cons r t =>
    obtain ⟨ρ1, e1, e2⟩ := Option.bind_eq_some_iff.mp e
    refine ⟨_, _, rfl, a2 _ _ _ _ _ _ _ ρ1 _ E r e1 fun σ1 E1 w1 => ?_⟩
    exact b2 _ _ _ _ _ _ _ ρ' _ E1 t e2 fun σ2 E2 w2 => q σ2 E2 (w2.trans w1)
theorem mg_tup {es : List Expr} {k : Nat} {g : List D → Env → Option Env} {vs : List Nat} {n : Nat} (hK : G.K = X.K) (hc : X.calm = true) (h : MGs G X es g vs) (hn : (assignEach es X.env).length = n := by rfl) (hst : (assignEach es X.env).findIdx? (·.1) = none := by rfl) : MG G X (.Tuple es k pos) (gT g n) vs := by
  obtain ⟨ga, a1, a2⟩ := h.ex
  refine ⟨_, pg_tup hc a1 hn hst, fun Z H L d v ρ σ ρ' Q E r e q => ?_⟩
  unfold gT at e
  split at e
  · split at e
    · rename_i ds hl
      obtain ⟨a, ws, rfl, ha, ra⟩ := r.tup'
      exact ⟨a, ws, rfl, hK ▸ ha, by rw [← ra.length]; exact hl, a2 _ _ _ _ _ _ _ ρ' _ E ra e q⟩
    · cases e
  · cases e
end

/-! ### what is walked -/
def Yields (G : Wd) (Z : Zone) (J : It) (items : List D) (L1 : List Addr) (st1 : Sto) (H1 : Hp) : Prop := ∀ i Z' L st H, (∀ a, Z' a → Z a ∨ H1 a = none) → Fw Z L1 st1 H1 L st H → StOk G Z' L st H →
  (items.length ≤ i → J.stop i H) ∧ ∀ d, items[i]? = some d → J.go i H ∧ ∀ x H', J.yld i H x H' → Same H H' ∧ Rep G (Zof Z' L st) H' d x
theorem Fw.keepsZ {Z Z' : Zone} {L1 L : List Addr} {st1 st : Sto} {H1 H : Hp} (f : Fw Z L1 st1 H1 L st H) (hz : ∀ a, Z' a → Z a ∨ H1 a = none) : Keeps (Zof Z L1 st1) (Zof Z' L st) H1 H := fun a u e z => by
  obtain ⟨h1, h2⟩ := f.keeps a u e z
  refine ⟨h1, fun q => ?_⟩
  rcases q with q | q
  · rcases hz a q with q | q
    · exact h2 (.inl q)
    · rw [e] at q; cases q
  · exact h2 (.inr q)
def PostI (G : Wd) (Z : Zone) (W : WX) (σ : St) (L : List Addr) (st : Sto) (H : Hp) (r : Res (List D)) (R : It → Hp → Prop) : Prop := match r with
  | .ok ds st' => ∀ J H' L', Fw Z L st H L' st' H' → StOk G Z L' st' H' → Yields G Z J ds L' st' H' → R J H'
  | .exc c fs st' => ExP G Z L st H c fs st' fun cv dd H' => W cv dd σ H'
  | .stuck => False
def tMI (G : Wd) (W : WX) (f : DenL) : TI := fun σ H R => ∃ Z ρ st L, Stt G Z ρ st L σ H ∧ PostI G Z W σ L st H (f ρ st) R
abbrev MI (G : Wd) (W : WX) (X : Cx) (tg e : Expr) (f : DenL) : Prop := PI X tg e (tMI G W f)
theorem PostI.bind {α β : Type} {G : Wd} {Z : Zone} {W : WX} {R : Zone → Hp → α → β → Prop} {σ : St} {L : List Addr} {st : Sto} {H : Hp} {r : Res α} {k : α → Sto → Res (List D)} {RI : It → Hp → Prop} {Q : β → Hp → Prop}
    (h : PostI G Z W σ L st H (r.bind k) RI)
    (hk : ∀ d st1 v H1 L1, r = .ok d st1 → Fw Z L st H L1 st1 H1 → StOk G Z L1 st1 H1 → R (Zof Z L1 st1) H1 d v → PostI G Z W σ L1 st1 H1 (k d st1) RI → Q v H1) : PostR G Z W R σ L st H r Q := by
  cases r with
  | ok d st1 =>
    intro v H1 L1 f o rv
    refine hk d st1 v H1 L1 rfl f o rv ?_
    have h' : PostI G Z W σ L st H (k d st1) RI := h
    revert h'
    cases k d st1 with
    | ok d2 st2 => exact fun h' J H2 L2 f2 o2 r2 => h' J H2 L2 (f.trans f2) o2 r2
    | exc c fs st2 => exact fun h' => ExP.on (P := fun cv dd H' => W cv dd σ H') f h'
    | stuck => exact fun h' => h'
  | exc c fs st1 => exact h
  | stuck => exact h
def signs : List Nat → List D
  | [] => [] | c :: r => .str ⟨#[c]⟩ :: signs r
theorem signs_len : ∀ l, (signs l).length = l.length
  | [] => rfl | _ :: r => congrArg (· + 1) (signs_len r)
theorem signs_get : ∀ (l : List Nat) (i : Nat), (signs l)[i]? = (l[i]?).map fun c => D.str ⟨#[c]⟩
  | [], i => by simp [signs]
  | c :: r, 0 => by simp [signs]
  | c :: r, i + 1 => by simp only [signs, List.getElem?_cons_succ]; exact signs_get r i
/-- the things of a list, a tuple, a text -/
def itemsOf : D → Option (List D)
  | .lst ds => some ds | .tup ds => some ds | .str z => some (signs z.cps.toList) | _ => none
@[simp] def iSeq (f : Den) : DenL := fun ρ st => (f ρ st).bind fun d st => match itemsOf d with | some ds => .ok ds st | none => .stuck
def rngL (lo : Int) : Nat → List D
  | 0 => [] | n + 1 => .int lo :: rngL (lo + 1) n
theorem rngL_len : ∀ (n : Nat) (lo : Int), (rngL lo n).length = n
  | 0, _ => rfl | n + 1, lo => congrArg (· + 1) (rngL_len n (lo + 1))
theorem rngL_get : ∀ (n : Nat) (lo : Int) (i : Nat), i < n → (rngL lo n)[i]? = some (.int (lo + i))
  | n + 1, lo, 0, _ => by simp [rngL]
  | n + 1, lo, i + 1, h => by
    simp only [rngL, List.getElem?_cons_succ]
    rw [rngL_get n (lo + 1) i (by omega)]
    congr 2
    omega
noncomputable def bigR (i : Int) : Bool := decide (-4611686018427387904 ≤ i) && decide (i < 4611686018427387904)
@[simp] noncomputable def iRange1 (f : Den) : DenL := fun ρ st => (f ρ st).bind fun d st => match d with | .int j => if bigR j = true then .ok (rngL 0 j.toNat) st else .stuck | _ => .stuck
@[simp] noncomputable def iRange2 (f h : Den) : DenL := fun ρ st => (f ρ st).bind fun d st => (h ρ st).bind fun e st => match d, e with | .int i, .int j => if (bigR i && bigR j) = true then .ok (rngL i (j - i).toNat) st else .stuck | _, _ => .stuck
def enumL (n : Nat) : List D → List D
  | [] => [] | d :: r => .tup [.int n, d] :: enumL (n + 1) r
theorem enumL_len : ∀ (l : List D) (n : Nat), (enumL n l).length = l.length
  | [], _ => rfl | _ :: r, n => congrArg (· + 1) (enumL_len r (n + 1))
theorem enumL_get : ∀ (l : List D) (n i : Nat) (d : D), l[i]? = some d → (enumL n l)[i]? = some (.tup [.int (n + i : Nat), d])
  | [], _, _, _, h => by simp at h
  | x :: r, n, 0, d, h => by simp at h; subst h; simp [enumL]
  | x :: r, n, i + 1, d, h => by
    simp only [enumL, List.getElem?_cons_succ]
    rw [enumL_get r (n + 1) i d (by simpa using h)]
    rw [show n + 1 + i = n + (i + 1) by omega]
def zipL : List D → List D → List D
  | a :: r, b :: s => .tup [a, b] :: zipL r s | _, _ => []
theorem zipL_get : ∀ (l m : List D) (i : Nat) (a b : D), l[i]? = some a → m[i]? = some b → (zipL l m)[i]? = some (.tup [a, b])
  | [], _, _, _, _, h, _ => by simp at h
  | _ :: _, [], _, _, _, _, h => by simp at h
  | x :: r, y :: s, 0, a, b, h, h' => by simp at h h'; subst h h'; simp [zipL]
  | x :: r, y :: s, i + 1, a, b, h, h' => by simp only [zipL, List.getElem?_cons_succ]; exact zipL_get r s i a b (by simpa using h) (by simpa using h')
theorem zipL_len : ∀ (l m : List D), (zipL l m).length = min l.length m.length
  | [], m => by simp [zipL]
  | _ :: _, [] => by simp [zipL]
  | x :: r, y :: s => by simp only [zipL, List.length_cons]; rw [zipL_len r s]; omega
theorem zipL_none {l m : List D} {i : Nat} {d : D} (h : (zipL l m)[i]? = some d) : ∃ a b, l[i]? = some a ∧ m[i]? = some b ∧ d = .tup [a, b] := by
  have hl := (List.getElem?_eq_some_iff.mp h).1
  rw [zipL_len] at hl
  have h1 : i < l.length := by omega
  have h2 : i < m.length := by omega
  have e1 := List.getElem?_eq_getElem h1
  have e2 := List.getElem?_eq_getElem h2
  rw [zipL_get l m i _ _ e1 e2] at h
  exact ⟨_, _, e1, e2, (Option.some.inj h).symm⟩
section
variable {G : Wd} {W : WX} {X : Cx} {Z Z' : Zone} {H H' : Hp} {L L' : List Addr} {st st' : Sto} {tg e : Expr} {pos : Pos}
theorem Rep.rdTup {ds : List D} {v : V} (h : Rep G Z H (.tup ds) v) : ∃ a vs, v = .ref a ∧ ((Rd H a (.tup vs) ∧ ¬ Z a) ∨ KTup G.K a vs) ∧ Reps G Z H ds vs := by
  cases h with
  | tup r z h => exact ⟨_, _, rfl, .inl ⟨r, z⟩, h⟩
  | tupK r h => exact ⟨_, _, rfl, .inr r, h⟩
theorem Rep.rdLst {ds : List D} {v : V} (h : Rep G Z H (.lst ds) v) : ∃ a vs, v = .ref a ∧ Rd H a (.lst vs) ∧ ¬ Z a ∧ Reps G Z H ds vs := by
  cases h with
  | lst r z h => exact ⟨_, _, rfl, r, z, h⟩
theorem tupOn {K : PySem.W.Frag} {a : Addr} {vs : List V} (k : Keeps Z Z' H H') (h : (Rd H a (.tup vs) ∧ ¬ Z a) ∨ KTup K a vs) : SqT K H' a vs := by
  rcases h with ⟨h, z⟩ | h
  · exact .inl (k.rd h z (.inr (.inl ⟨_, rfl⟩))).1
  · exact .inr h
/-- a value walked: list, tuple, text -/
def iAny (K : PySem.W.Frag) (te : TE) : TI := fun σ H R => te σ H fun x H1 => (∃ a, x = .ref a ∧ (∃ xs, SqL K H1 a xs) ∧ R (Itl K a) H1) ∨ (∃ a, x = .ref a ∧ (∃ xs, SqT K H1 a xs) ∧ R (Itt K a) H1) ∨ (∃ z, x = .str z ∧ R (Its z) H1)
theorem pi_any {te : TE} (he : PE X e te) : PI X tg e (iAny X.K te) := by
  refine ⟨fun pins s σ H R I h => ?_⟩
  refine thn (he.run pins s σ H _ I h) fun v s1 ⟨y, H1, I1, r1, q⟩ => ?_
  rcases q with ⟨a, ex, ⟨xs, hq⟩, q⟩ | ⟨a, ex, ⟨xs, hq⟩, q⟩ | ⟨x, ex, q⟩
  · subst ex
    cases r1
    obtain ⟨its, rv, p, hz⟩ := I1.list hq
    refine wpAny_pyIter_list p.isList ?_
    refine ⟨s1.heap.objs.size, [s1.heap.objs.size], _, _, H1, rfl, I1.kept (t' := s1.toks) fun b o e => Heap.get?_push_of_some _ e, turn_list a _, ⟨_, Heap.get?_push_size _ rfl, rfl, rfl⟩, fun b hb => ?_, q⟩
    have e : b = s1.heap.objs.size := by simpa using hb
    subst e
    exact I1.fpOk (Nat.le_refl _) (I1.hok.fresh (Nat.le_refl _))
  · subst ex
    cases r1
    obtain ⟨its, rv, p, hz⟩ := I1.tuple hq
    refine wpAny_pyIter_tuple (show s1.heap.IsTuple a its.toArray from p) ?_
    refine ⟨s1.heap.objs.size, [s1.heap.objs.size], _, _, H1, rfl, I1.kept (t' := s1.toks) fun b o e => Heap.get?_push_of_some _ e, turn_tuple a _, ⟨_, Heap.get?_push_size _ rfl, rfl, rfl⟩, fun b hb => ?_, q⟩
    have e : b = s1.heap.objs.size := by simpa using hb
    subst e
    exact I1.fpOk (Nat.le_refl _) (I1.hok.fresh (Nat.le_refl _))
  · subst ex
    obtain ⟨t, rfl⟩ := r1
    cases ha : x.cps.all (· < 128)
    · exact wpAny_pyIter_wide ha (pi_one (tk := s1.toks) I1 _ (turn_str _ x t "str_iterator" (.inr rfl)) ⟨_, Heap.get?_push_size _ rfl, rfl, rfl⟩ q)
    · exact wpAny_pyIter_ascii ha (pi_one (tk := s1.toks) I1 _ (turn_str _ x t "str_ascii_iterator" (.inl rfl)) ⟨_, Heap.get?_push_size _ rfl, rfl, rfl⟩ q)
theorem PI.imp {t t' : TI} (h : PI X tg e t) (i : ∀ σ H R, t' σ H R → t σ H R) : PI X tg e t' := ⟨fun pins s σ H R I q => h.run pins s σ H R I (i σ H R q)⟩
theorem mi_seq {f : Den} (hK : G.K = X.K) (he : ME G W X e f) : MI G W X tg e (iSeq f) := PI.imp (pi_any he) fun σ H R q => by
  obtain ⟨Z, ρ, st, L, S, q⟩ := q
  refine ⟨Z, ρ, st, L, S, PostI.bind q fun d st1 x H1 L1 e f1 o1 r1 q1 => ?_⟩
  unfold itemsOf at q1
  split at q1
  · rename_i ds hd
    split at hd
    · cases hd
      obtain ⟨a, vs, rfl, h1, hz, h2⟩ := r1.rdLst
      refine .inl ⟨a, rfl, ⟨vs, .inl h1⟩, q1 _ H1 L1 Fw.refl o1 fun i Z2 L2 st2 H2 hz2 f2 o2 => ?_⟩
      have hq : SqL X.K H2 a vs := .inl ((f2.keepsZ hz2).rd h1 hz (.inl ⟨_, rfl⟩)).1
      refine ⟨fun hi => ⟨vs, hq, by rw [← h2.length]; exact hi⟩, fun d hd => ?_⟩
      obtain ⟨v, hv, rv⟩ := h2.get hd
      refine ⟨⟨vs, v, hq, hv⟩, fun x H' hy => ?_⟩
      obtain ⟨rfl, hx⟩ := hy
      have := hx vs hq
      rw [hv] at this
      cases this
      exact ⟨Same.refl _, rv.mono (f2.keepsZ hz2)⟩
    · cases hd
      obtain ⟨a, vs, rfl, h1, h2⟩ := r1.rdTup
      refine .inr (.inl ⟨a, rfl, ⟨vs, hK ▸ tupOn (Fw.refl (Z := Z)).keeps h1⟩, q1 _ H1 L1 Fw.refl o1 fun i Z2 L2 st2 H2 hz2 f2 o2 => ?_⟩)
      have hq : SqT X.K H2 a vs := hK ▸ tupOn (f2.keepsZ hz2) h1
      refine ⟨fun hi => ⟨vs, hq, by rw [← h2.length]; exact hi⟩, fun d hd => ?_⟩
      obtain ⟨v, hv, rv⟩ := h2.get hd
      refine ⟨⟨vs, v, hq, hv⟩, fun x H' hy => ?_⟩
      obtain ⟨rfl, hx⟩ := hy
      have := hx vs hq
      rw [hv] at this
      cases this
      exact ⟨Same.refl _, rv.mono (f2.keepsZ hz2)⟩
    · rename_i z
      cases hd
      refine .inr (.inr ⟨z, r1.str', q1 _ H1 L1 Fw.refl o1 fun i Z2 L2 st2 H2 hz2 f2 o2 => ⟨fun hi => ?_, fun d hd => ?_⟩⟩)
      · rw [signs_len] at hi
        show z.cps.size ≤ i
        simpa using hi
      · rw [signs_get] at hd
        obtain ⟨c, hc, rfl⟩ := Option.map_eq_some_iff.mp hd
        have hc' : z.cps[i]? = some c := by simpa using hc
        refine ⟨?_, fun x H' hy => ?_⟩
        · exact (Array.getElem?_eq_some_iff.mp hc').1
        · obtain ⟨rfl, c2, h3, rfl⟩ := hy
          rw [hc'] at h3
          cases h3
          exact ⟨Same.refl _, .str _⟩
    · cases hd
  · exact q1.elim
theorem yields_range {lo : Int} {n : Nat} : Yields G Z (Itr lo n) (rngL lo n) L st H := fun i Z2 L2 st2 H2 hz2 f2 o2 => by
  refine ⟨fun hi => by rw [rngL_len] at hi; exact hi, fun d hd => ?_⟩
  have hl := (List.getElem?_eq_some_iff.mp hd).1
  rw [rngL_len] at hl
  rw [rngL_get n lo i hl] at hd
  cases hd
  refine ⟨hl, fun x H' hy => ?_⟩
  obtain ⟨rfl, rfl⟩ := hy
  exact ⟨Same.refl _, .int _⟩
theorem mi_range1 {a : Expr} {f : Den} {p : Pos} (hm : X.mg "range" = none) (ha : ME G W X a f) (hg : Gl X "range" := by rfl) (hs1 : starEach [a] X.env = (false, eval a X.env) :: starEach [] X.env := by rfl) (hs : starEach [a] X.env = [(false, eval a X.env)] := by rfl) :
    MI G W X tg (.Call (.Name "range" p) [a] [] pos) (iRange1 f) := PI.imp (pi_range1 hg hm (pa_cons ha pa_nil hs1) hs) fun σ H R q => by
  obtain ⟨Z, ρ, st, L, S, q⟩ := q
  refine ⟨Z, ρ, st, L, S, PostI.bind q fun d st1 x H1 L1 e f1 o1 r1 q1 => ?_⟩
  split at q1
  · rename_i j
    split at q1
    · rename_i hb
      unfold bigR at hb
      rw [Bool.and_eq_true, decide_eq_true_eq, decide_eq_true_eq] at hb
      rw [r1.int']
      exact ⟨j, rfl, by omega, by omega, q1 _ H1 L1 Fw.refl o1 yields_range⟩
    · exact q1.elim
  · exact q1.elim
theorem mi_range2 {a b : Expr} {f h : Den} {p : Pos} (hm : X.mg "range" = none) (ha : ME G W X a f) (hb : ME G W X b h) (hg : Gl X "range" := by rfl) (hs1 : starEach [a, b] X.env = (false, eval a X.env) :: starEach [b] X.env := by rfl) (hs3 : starEach [b] X.env = (false, eval b X.env) :: starEach [] X.env := by rfl) (hs : starEach [a, b] X.env = [(false, eval a X.env), (false, eval b X.env)] := by rfl) (hs2 : starEach [b] X.env = [(false, eval b X.env)] := by rfl) :
    MI G W X tg (.Call (.Name "range" p) [a, b] [] pos) (iRange2 f h) := PI.imp (pi_range2 hg hm (pa_cons ha (pa_cons hb pa_nil hs3) hs1) hs hs2) fun σ H R q => by
  obtain ⟨Z, ρ, st, L, S, q⟩ := q
  refine ⟨Z, ρ, st, L, S, PostI.bind q fun d st1 x H1 L1 e f1 o1 r1 q1 => ?_⟩
  refine ⟨Z, ρ, st1, L1, S.to f1 o1, PostI.bind q1 fun d2 st2 y H2 L2 e2 f2 o2 r2 q2 => ?_⟩
  split at q2
  · rename_i i j
    split at q2
    · rename_i hb
      unfold bigR at hb
      simp only [Bool.and_eq_true, decide_eq_true_eq] at hb
      rw [r1.int', r2.int']
      exact ⟨i, j, rfl, ⟨by omega, by omega, by omega, by omega⟩, q2 _ H2 L2 Fw.refl o2 yields_range⟩
    · exact q2.elim
  · exact q2.elim
@[simp] def iZip (f h : Den) : DenL := fun ρ st => (f ρ st).bind fun d st => (h ρ st).bind fun e st => match d, e with | .lst a, .lst b => .ok (zipL a b) st | .tup a, .tup b => .ok (zipL a b) st | _, _ => .stuck
theorem mi_zip {a b : Expr} {f h : Den} {p tpos : Pos} {elts : List Expr} {kk : Nat} (hK : G.K = X.K) (hm : X.mg "zip" = none) (ha : ME G W X a f) (hb : ME G W X b h) (hg : Gl X "zip" := by rfl) (hs1 : starEach [a, b] X.env = (false, eval a X.env) :: starEach [b] X.env := by rfl) (hs3 : starEach [b] X.env = (false, eval b X.env) :: starEach [] X.env := by rfl)
    (hpl : (backTo pos (starEach [b] X.env)).any (·.1) = false := by rfl) : MI G W X (.Tuple elts kk tpos) (.Call (.Name "zip" p) [a, b] [] pos) (iZip f h) := PI.imp (RZ.pi_zipA hg hm (pa_cons ha (pa_cons hb pa_nil hs3) hs1) hs1 hpl) fun σ H R q => by
  obtain ⟨Z, ρ, st, L, S, q⟩ := q
  refine ⟨Z, ρ, st, L, S, PostI.bind q fun d st1 x H1 L1 e f1 o1 r1 q1 => ?_⟩
  refine ⟨Z, ρ, st1, L1, S.to f1 o1, PostI.bind q1 fun d2 st2 y H2 L2 e2 f2 o2 r2 q2 => ?_⟩
  have r1 := r1.mono f2.keeps
  split at q2
  · rename_i xs ys
    obtain ⟨a, vs, rfl, h1, hz, h2⟩ := r1.rdLst
    obtain ⟨b, ws, rfl, g1, gz, g2⟩ := r2.rdLst
    refine ⟨a, b, vs, ws, rfl, .inl ⟨.inl h1, .inl g1, q2 _ H2 L2 Fw.refl o2 fun i Z3 L3 st3 H3 hz3 f3 o3 => ?_⟩⟩
    have hq : SqL X.K H3 a vs := .inl ((f3.keepsZ hz3).rd h1 hz (.inl ⟨_, rfl⟩)).1
    have gq : SqL X.K H3 b ws := .inl ((f3.keepsZ hz3).rd g1 gz (.inl ⟨_, rfl⟩)).1
    refine ⟨fun hi => ?_, fun d hd => ?_⟩
    · rw [zipL_len, h2.length, g2.length] at hi
      exact ⟨vs, ws, hq, gq, by omega⟩
    · obtain ⟨da, db, e1, e2, rfl⟩ := zipL_none hd
      obtain ⟨va, k1, k2⟩ := h2.get e1
      obtain ⟨vb, k3, k4⟩ := g2.get e2
      refine ⟨⟨vs, ws, va, vb, hq, gq, k1, k3⟩, fun x H' hy => ?_⟩
      obtain ⟨T, xa, xb, rfl, nT, rfl, j1, j2⟩ := hy
      have j1 := j1 vs hq
      have j2 := j2 ws gq
      rw [k1] at j1
      rw [k3] at j2
      cases j1
      cases j2
      exact ⟨same_new nT, new_tup o3.inn (.cons (k2.mono (f3.keepsZ hz3)) (.cons (k4.mono (f3.keepsZ hz3)) .nil)) nT⟩
  · rename_i xs ys
    obtain ⟨a, vs, rfl, h1, h2⟩ := r1.rdTup
    obtain ⟨b, ws, rfl, g1, g2⟩ := r2.rdTup
    refine ⟨a, b, vs, ws, rfl, .inr ⟨hK ▸ tupOn (Fw.refl (Z := Z)).keeps h1, hK ▸ tupOn (Fw.refl (Z := Z)).keeps g1, q2 _ H2 L2 Fw.refl o2 fun i Z3 L3 st3 H3 hz3 f3 o3 => ?_⟩⟩
    have hq : SqT X.K H3 a vs := hK ▸ tupOn (f3.keepsZ hz3) h1
    have gq : SqT X.K H3 b ws := hK ▸ tupOn (f3.keepsZ hz3) g1
    refine ⟨fun hi => ?_, fun d hd => ?_⟩
    · rw [zipL_len, h2.length, g2.length] at hi
      exact ⟨vs, ws, hq, gq, by omega⟩
    · obtain ⟨da, db, e1, e2, rfl⟩ := zipL_none hd
      obtain ⟨va, k1, k2⟩ := h2.get e1
      obtain ⟨vb, k3, k4⟩ := g2.get e2
      refine ⟨⟨vs, ws, va, vb, hq, gq, k1, k3⟩, fun x H' hy => ?_⟩
      obtain ⟨T, xa, xb, rfl, nT, rfl, j1, j2⟩ := hy
      have j1 := j1 vs hq
      have j2 := j2 ws gq
      rw [k1] at j1
      rw [k3] at j2
      cases j1
      cases j2
      exact ⟨same_new nT, new_tup o3.inn (.cons (k2.mono (f3.keepsZ hz3)) (.cons (k4.mono (f3.keepsZ hz3)) .nil)) nT⟩
  · exact q2.elim
end
end M
namespace M
open PySem PySem.Spec L2

/-! ### comprehensions -/
abbrev W0 : WX := fun _ _ _ _ => False
@[simp] def eYes : DenB := fun _ st => .ok true st
def compL (g : GD) (ft : DenB) (fe : Den) (ρ : Env) : List D → Sto → Res (List D)
  | [], st => .ok [] st
  | x :: xs, st => match g x ρ with
    | none => .stuck
    | some ρ1 => match ft ρ1 st with
      | .ok true st => (match fe ρ1 st with
        | .ok d st => (compL g ft fe ρ xs st).bind fun ds st => .ok (d :: ds) st
        | _ => .stuck)
      | .ok false st => compL g ft fe ρ xs st
      | _ => .stuck
@[simp] noncomputable def eComp (fi : DenL) (g : GD) (ft : DenB) (fe : Den) (vs : List Nat) : Env → Sto → Res O := fun ρ st => (fi ρ st).bind fun items st => if items.length ≤ sizeLine then (compL g ft fe (wipeE ρ vs) items st).bind fun ds st => .ok (.lst ds) st else .stuck
abbrev MTs (G : Wd) (W : WX) (X : Cx) (es : List Expr) (f : DenB) : Prop := PTs X es (tMB G W f)
section
variable {G : Wd} {W : WX} {X : Cx} {Z Z' : Zone} {H H' : Hp} {L L' : List Addr} {st st' : Sto} {tg e : Expr} {pos : Pos}
theorem PTs.imp {es : List Expr} {t t' : TT} (h : PTs X es t) (i : ∀ σ H Q, t' σ H Q → t σ H Q) : PTs X es t' := ⟨fun pins s σ H Q I q => h.run pins s σ H Q I (i σ H Q q)⟩
theorem mts_nil : MTs G W X [] eYes := PTs.imp pts_nil fun σ H Q q => by
  obtain ⟨Z, ρ, st, L, S, q⟩ := q
  exact PostR.pure (W := W) (R := RB) S.ok q rfl
theorem mts_one {c : Expr} {f : DenB} (h : MT G W X c f) : MTs G W X [c] f := pts_one h
theorem wipe_get (σ : St) (i : Nat) : ∀ vs : List Nat, (wipe σ vs)[i]? = if i ∈ vs ∧ i < σ.length then some none else σ[i]?
  | [] => by simp [wipe]
  | v :: vs => by
    unfold wipe
    by_cases e : i = v
    · subst e
      by_cases hl : i < σ.length
      · rw [List.getElem?_set_self (by rw [wipe_length]; exact hl), if_pos ⟨List.mem_cons_self, hl⟩]
      · rw [List.getElem?_eq_none (by rw [List.length_set, wipe_length]; omega), if_neg (fun q => hl q.2), List.getElem?_eq_none (by omega)]
    · rw [List.getElem?_set_ne (Ne.symm e), wipe_get σ i vs]
      have : (i ∈ v :: vs) ↔ i ∈ vs := ⟨fun q => (List.mem_cons.mp q).resolve_left e, List.mem_cons_of_mem _⟩
      simp only [this]
theorem wipe_wipe (σ : St) (vs : List Nat) : wipe (wipe σ vs) vs = wipe σ vs := by
  apply List.ext_getElem?
  intro i
  rw [wipe_get (wipe σ vs) i vs, wipe_get σ i vs, wipe_length]
  split <;> rfl
/-- the state of a comprehension between two turns -/
structure CInv (G : Wd) (Z : Zone) (p : Addr) (L1 : List Addr) (st1 : Sto) (H1 : Hp) (items : List D) (i : Nat) (acc : List D) (L' : List Addr) (st' : Sto) (H' : Hp) : Prop where
  le : i ≤ items.length
  fw : Fw Z L1 st1 H1 L' st' H'
  ok : StOk G (Zp Z p) L' st' H'
  at_ : ∃ vs, H' p = some (.lst vs) ∧ Reps G (Zof (Zp Z p) L' st') H' acc vs
  len : acc.length ≤ i
theorem comp_core {fi : DenL} {gm : GD} {g : TG} {ft : DenB} {fe : Den} {vs : List Nat} (hg : GSim G g gm vs) {σ : St} {H : Hp} {Q : VK} (q : tMN G W (eComp fi gm ft fe vs) σ H Q) : tLc (tMI G W fi) g (tMB G W0 ft) (tM G W0 fe) vs σ H Q := by
  obtain ⟨Z, ρ, st, L, S, q⟩ := q
  refine ⟨Z, ρ, st, L, S, ?_⟩
  have qq : match fi ρ st with
    | .ok items st1 => (match (if items.length ≤ sizeLine then (compL gm ft fe (wipeE ρ vs) items st1).bind fun ds st => .ok (.lst ds) st else .stuck : Res O) with
      | .ok o st' => ∀ p H' L', FwN G Z L st H L' st' H' p → OOk G (Zof (fun a => Z a ∨ a = p) L' st') H' L' p o → Q (.ref p) H'
      | .exc c fs st' => ExP G Z L st H c fs st' fun cv dd H' => W cv dd σ H'
      | .stuck => False)
    | .exc c fs st' => ExP G Z L st H c fs st' fun cv dd H' => W cv dd σ H'
    | .stuck => False := by
    revert q
    unfold eComp
    cases fi ρ st <;> exact fun q => q
  clear q
  revert qq
  cases ei : fi ρ st with
  | stuck => exact fun q => q
  | exc c fs st1 => exact fun q => q
  | ok items st1 =>
    intro q J H1 L1 f1 o1 hy p hp
    have q : match (if items.length ≤ sizeLine then (compL gm ft fe (wipeE ρ vs) items st1).bind fun ds st => .ok (.lst ds) st else .stuck : Res O) with
      | .ok o st' => ∀ p H' L', FwN G Z L st H L' st' H' p → OOk G (Zof (fun a => Z a ∨ a = p) L' st') H' L' p o → Q (.ref p) H'
      | .exc c fs st' => ExP G Z L st H c fs st' fun cv dd H' => W cv dd σ H'
      | .stuck => False := q
    by_cases hz : items.length ≤ sizeLine
    · rw [if_pos hz] at q
      have S1 := S.to f1 o1
      obtain ⟨C, hC0⟩ : ∃ C, compL gm ft fe (wipeE ρ vs) items st1 = C := ⟨_, rfl⟩
      rw [hC0] at q
      have noExc : ∀ (items : List D) (st : Sto) c fs st', compL gm ft fe (wipeE ρ vs) items st ≠ .exc c fs st' := by
        intro items
        induction items with
        | nil => intro st c fs st' h; cases h
        | cons d r ih =>
          intro st c fs st' h
          unfold compL at h
          split at h
          · cases h
          · split at h
            · split at h
              · rename_i d2 st2 _
                cases hr : compL gm ft fe (wipeE ρ vs) r st2 with
                | ok ds st3 => rw [hr] at h; cases h
                | exc c2 fs2 st3 => exact ih _ _ _ _ hr
                | stuck => rw [hr] at h; cases h
              · cases h
            · exact ih _ _ _ _ h
            · cases h
      cases hC1 : C with
      | stuck => rw [hC1] at q; exact q.elim
      | exc c fs st' => exact absurd (hC0.trans hC1) (noExc _ _ _ _ _)
      | ok all stE =>
      rw [hC1] at q hC0
      have q : ∀ p H' L', FwN G Z L st H L' stE H' p → OOk G (Zof (fun a => Z a ∨ a = p) L' stE) H' L' p (.lst all) → Q (.ref p) H' := q
      refine ⟨fun i m H' => ∃ acc L' st', m = items.length - i ∧ CInv G Z p L1 st1 H1 items i acc L' st' H' ∧ (compL gm ft fe (wipeE ρ vs) (items.drop i) st').bind (fun ds st => .ok (acc ++ ds) st) = .ok all stE, ⟨items.length, [], L1, st1, by simp, ⟨Nat.zero_le _, Fw.same (same_new hp), o1.enter hp, ⟨[], upd_same, .nil⟩, Nat.le_refl _⟩, ?_⟩, ?_⟩
      · rw [List.drop_zero, hC0]
        rfl
      · rintro i m H' ⟨acc, L', st', rfl, I, hC⟩
        have hzz : ∀ a, Zp Z p a → Z a ∨ H1 a = none := fun a z => z.elim .inl fun e => .inr (by rw [e]; exact hp)
        obtain ⟨ys, yi⟩ := hy i (Zp Z p) L' st' H' hzz I.fw I.ok
        by_cases hi : i < items.length
        · obtain ⟨d, hd⟩ : ∃ d, items[i]? = some d := ⟨_, List.getElem?_eq_getElem hi⟩
          obtain ⟨go, hyl⟩ := yi d hd
          have hdrop : items.drop i = d :: items.drop (i + 1) := by
            rw [List.drop_eq_getElem_cons hi]
            rw [List.getElem?_eq_getElem hi] at hd
            cases hd
            rfl
          rw [hdrop] at hC
          unfold compL at hC
          refine .inr ⟨go, fun H2 => ∃ acc L' st', CInv G Z p L1 st1 H1 items (i + 1) acc L' st' H2 ∧ (compL gm ft fe (wipeE ρ vs) (items.drop (i + 1)) st').bind (fun ds st => .ok (acc ++ ds) st) = .ok all stE, fun H2 ⟨acc, L', st', I2, h2⟩ => ⟨_, by omega, acc, L', st', rfl, I2, h2⟩, fun x H2 hyx => ?_⟩
          obtain ⟨sm, rx⟩ := hyl x H2 hyx
          have k2 : Keeps (Zof (Zp Z p) L' st') (Zof (Zp Z p) L' st') H' H2 := Same.keeps sm
          have ok2 : StOk G (Zp Z p) L' st' H2 := I.ok.same sm
          have fw2 : Fw Z L1 st1 H1 L' st' H2 := I.fw.trans (Fw.same sm)
          have E2 : EnvOk G (Zof (Zp Z p) L' st') H2 L' (wipeE ρ vs) (wipe σ vs) := by
            have a2 : EnvOk G (Zof (Zp Z p) L' st') H2 L' ρ σ := ⟨S1.env.1, fun i s e => by
              obtain ⟨v, e2, r⟩ := S1.env.2 i s e
              refine ⟨v, e2, ?_⟩
              cases r with
              | p r => exact .p (r.mono (fw2.keepsZ hzz))
              | r e3 => exact .r (I.fw.get e3)
              | x y1 y2 y3 y4 => exact .x y1 y2 (y3.mono (fw2.keepsZ hzz)) (y4.mono (fw2.keepsZ hzz))⟩
            exact a2.wipe vs
          cases eg : gm d (wipeE ρ vs) with
          | none => rw [eg] at hC; cases hC
          | some ρ1 =>
            rw [eg] at hC
            refine hg _ _ _ _ _ _ _ ρ1 _ E2 rx eg fun σ2 E3 w2 => ⟨w2.trans (wipe_wipe σ vs), Zp Z p, ρ1, st', L', ⟨ok2, E3⟩, ?_⟩
            have hC : (match ft ρ1 st' with
              | .ok true st => (match fe ρ1 st with
                | .ok d st => (compL gm ft fe (wipeE ρ vs) (items.drop (i + 1)) st).bind fun ds st => .ok (d :: ds) st
                | _ => .stuck)
              | .ok false st => compL gm ft fe (wipeE ρ vs) (items.drop (i + 1)) st
              | _ => .stuck : Res (List D)).bind (fun ds st => .ok (acc ++ ds) st) = .ok all stE := hC
            cases et : ft ρ1 st' with
            | stuck => rw [et] at hC; cases hC
            | exc c fs st3 => rw [et] at hC; cases hC
            | ok b st3 =>
              rw [et] at hC
              intro b' H3 L3 f3 o3 rb
              have rb : b = b' := rb
              subst rb
              have fw3 : Fw Z L1 st1 H1 L3 st3 H3 := fw2.trans (f3.zone fun a z => .inl z)
              obtain ⟨ws, hw, rw_⟩ := I.at_
              have hw3 : H3 p = some (.lst ws) := f3.zk p _ (.inr rfl) (sm _ _ hw)
              have rw3 := (rw_.mono k2).mono f3.keeps
              cases b with
              | false =>
                exact ⟨acc, L3, st3, ⟨hi, fw3, o3, ⟨ws, hw3, rw3⟩, Nat.le_succ_of_le I.len⟩, hC⟩
              | true =>
                refine ⟨Zp Z p, ρ1, st3, L3, ⟨o3, E3.mono f3⟩, ?_⟩
                have hC : (match fe ρ1 st3 with
                  | .ok d st => (compL gm ft fe (wipeE ρ vs) (items.drop (i + 1)) st).bind fun ds st => .ok (d :: ds) st
                  | _ => .stuck : Res (List D)).bind (fun ds st => .ok (acc ++ ds) st) = .ok all stE := hC
                cases ee : fe ρ1 st3 with
                | stuck => rw [ee] at hC; cases hC
                | exc c fs st4 => rw [ee] at hC; cases hC
                | ok y st4 =>
                  rw [ee] at hC
                  intro v H4 L4 f4 o4 ry
                  have fw4 : Fw Z L1 st1 H1 L4 st4 H4 := fw3.trans (f4.zone fun a z => .inl z)
                  have hw4 : H4 p = some (.lst ws) := f4.zk p _ (.inr rfl) hw3
                  have rw4 := rw3.mono f4.keeps
                  have hl := rw4.length
                  refine ⟨ws, hw4, by have := I.len; omega, acc ++ [y], L4, st4, ⟨hi, Fw.own hp fw4, o4.own, ⟨ws ++ [v], upd_same, (rw4.append (.cons ry .nil)).mono keeps_own⟩, ?_⟩, ?_⟩
                  · rw [List.length_append, List.length_singleton]
                    have := I.len; omega
                  · have hC : ((compL gm ft fe (wipeE ρ vs) (items.drop (i + 1)) st4).bind fun ds st => .ok (y :: ds) st).bind (fun ds st => .ok (acc ++ ds) st) = .ok all stE := hC
                    rw [← hC]
                    cases compL gm ft fe (wipeE ρ vs) (items.drop (i + 1)) st4 with
                    | ok ds st5 => simp only [Res.bind, List.append_assoc, List.singleton_append]
                    | exc c fs st5 => rfl
                    | stuck => rfl
        · have e : i = items.length := by have := I.le; omega
          subst e
          rw [List.drop_length] at hC
          have hC : Res.ok (acc ++ []) st' = .ok all stE := hC
          rw [List.append_nil] at hC
          cases hC
          refine .inl ⟨ys (Nat.le_refl _), q p H' L' ⟨f1.trans I.fw, I.ok, ?_⟩ I.at_⟩
          cases qh : H p with
          | none => rfl
          | some o => exact absurd hp (f1.there p (by rw [qh]; simp))
    · rw [if_neg hz] at q
      exact q.elim
/-- [elt for tg in iter if ..] -/
theorem mn_comp {elt iter : Expr} {ifs : List Expr} {scope : Scope} {own : List (Str × Nat)} {fi : DenL} {gm : GD} {ft : DenB} {fe : Den} {g : TG} (hc : X.calm = true) (hN : X.N.Nodup) (hi : MI G W X tg iter fi) (ok : BlkOk X.N X.env.scope scope own) (hsim : GSim G g gm (own.map (·.2)))
    (hg : ∀ (s : Shared) (H : Hp) (C : Addr) (cl : List (Str × Addr)) (fp : List Addr), PG (X.blk s H scope (compEnvC scope cl C X.env) fp) tg g) (ht : ∀ (s : Shared) (H : Hp) (C : Addr) (cl : List (Str × Addr)) (fp : List Addr), MTs G W0 (X.blk s H scope (compEnvC scope cl C X.env) fp) ifs ft)
    (he : ∀ (s : Shared) (H : Hp) (C : Addr) (cl : List (Str × Addr)) (fp : List Addr), ME G W0 (X.blk s H scope (compEnvC scope cl C X.env) fp) elt fe) (hs : ∀ x, foldedSetIterable iter X.env x = pure x := by intro _; rfl) :
    MN G W X (.ListComp elt [⟨tg, iter, ifs, 0⟩] scope pos) (eComp fi gm ft fe (own.map (·.2))) :=
  PE.imp (pe_lc hc hN hi ok hg ht he hs) fun σ H Q q => comp_core hsim q
end
end M
namespace M
open PySem PySem.Spec L2

/-! ### statements -/
@[simp] def sNil : SDen := fun ρ st => .next ρ st
@[simp] def sSeq (f h : SDen) : SDen := fun ρ st => match f ρ st with | .next ρ st => h ρ st | r => r
/-- an expression's value handed to a statement's end -/
@[simp] def sOf {α : Type} (f : Env → Sto → Res α) (k : α → Env → Sto → SRes) : SDen := fun ρ st => match f ρ st with | .ok d st => k d ρ st | .exc c fs st => .exc c fs ρ st | .stuck => .stuck
@[simp] def sSet (i : Nat) (f : Den) : SDen := fun ρ st => sOf f (fun d ρ st => .next (ρ.set i (some (.p d))) st) ρ st
@[simp] def sNew (i : Nat) (f : Env → Sto → Res O) : SDen := fun ρ st => sOf f (fun o ρ st => .next (ρ.set i (some (.r st.length))) (st ++ [o])) ρ st
@[simp] def sExpr (f : Den) : SDen := fun ρ st => sOf f (fun _ ρ st => .next ρ st) ρ st
@[simp] def sRet (f : Den) : SDen := fun ρ st => sOf f (fun d ρ st => .ret d st) ρ st
@[simp] def sRetN : SDen := fun _ st => .ret .non st
@[simp] def sIf (c : DenB) (a b : SDen) : SDen := fun ρ st => sOf c (fun k ρ st => if k = true then a ρ st else b ρ st) ρ st
@[simp] def sAsg (g : GD) (f : Den) : SDen := fun ρ st => sOf f (fun d ρ st => match g d ρ with | some ρ => .next ρ st | none => .stuck) ρ st
@[simp] def sBreak : SDen := fun ρ st => .brk ρ st
@[simp] def sCont : SDen := fun ρ st => .cont ρ st
@[simp] def sNever : SDen := fun _ _ => .stuck
def forL (g : GD) (fb : SDen) : List D → Env → Sto → SRes
  | [], ρ, st => .next ρ st
  | x :: xs, ρ, st => match g x ρ with
    | none => .stuck
    | some ρ1 => match fb ρ1 st with
      | .next ρ st => forL g fb xs ρ st
      | .cont ρ st => forL g fb xs ρ st
      | .brk ρ st => .next ρ st
      | r => r
@[simp] def sFor (fi : DenL) (g : GD) (fb : SDen) : SDen := fun ρ st => sOf fi (fun ds ρ st => forL g fb ds ρ st) ρ st
def whileL (fc : DenB) (fb : SDen) : Nat → Env → Sto → SRes
  | 0, _, _ => .stuck
  | n + 1, ρ, st => match fc ρ st with
    | .ok true st => (match fb ρ st with
      | .next ρ st => whileL fc fb n ρ st
      | .cont ρ st => whileL fc fb n ρ st
      | .brk ρ st => .next ρ st
      | r => r)
    | .ok false st => .next ρ st
    | .exc c fs st => .exc c fs ρ st
    | .stuck => .stuck
@[simp] def sWhile (n : Nat) (fc : DenB) (fb : SDen) : SDen := fun ρ st => whileL fc fb n ρ st
section
variable {G : Wd} {W : WX} {X : Cx} {Z Z' : Zone} {H H' : Hp} {L L' : List Addr} {st st' : Sto} {tg e : Expr} {pos : Pos}
theorem PostS.on {r : SRes} {E : Ends} (f : Fw Z L st H L' st' H') (h : PostS G Z W L st H r E) : PostS G Z W L' st' H' r E := by
  cases r with
  | next ρ s => exact fun σ' H2 L2 g S => h σ' H2 L2 (f.trans g) S
  | ret d s => exact fun v H2 L2 g o r => h v H2 L2 (f.trans g) o r
  | brk ρ s => exact fun σ' H2 L2 g S => h σ' H2 L2 (f.trans g) S
  | cont ρ s => exact fun σ' H2 L2 g S => h σ' H2 L2 (f.trans g) S
  | exc c fs ρ s => exact fun σ' H2 L2 C dd vfs g S => h σ' H2 L2 C dd vfs (f.trans g) S
  | stuck => exact h
theorem PostR.bindS {α β : Type} {R : Zone → Hp → α → β → Prop} {σ : St} {ρ : Env} {r : Res α} {k : α → Sto → SRes} {E : Ends} {Q : β → Hp → Prop} (S : Stt G Z ρ st L σ H)
    (h : PostS G Z W L st H (match r with | .ok d st => k d st | .exc c fs st => .exc c fs ρ st | .stuck => .stuck) E)
    (hk : ∀ d st1 v H1 L1, r = .ok d st1 → Fw Z L st H L1 st1 H1 → Stt G Z ρ st1 L1 σ H1 → R (Zof Z L1 st1) H1 d v → PostS G Z W L1 st1 H1 (k d st1) E → Q v H1) : PostR G Z W R σ L st H r Q := by
  cases r with
  | ok d st1 => exact fun v H1 L1 f o rv => hk d st1 v H1 L1 rfl f (S.to f o) rv (PostS.on f h)
  | exc c fs st1 => exact fun H' L' C dd vfs f o hC hd hr => h σ H' L' C dd vfs f (S.to f o) hC hd hr
  | stuck => exact h
theorem mss_nil : MSs G W X [] sNil := PSs.imp pss_nil fun E σ H q => by
  obtain ⟨Z, ρ, st, L, S, q⟩ := q
  exact q σ H L Fw.refl S
theorem seqS {f h : SDen} {σ : St} {H : Hp} {E : Ends} (q : tMS G W (sSeq f h) E σ H) : tMS G W f { E with nx := tMS G W h E } σ H := by
  obtain ⟨Z, ρ, st, L, S, q⟩ := q
  refine ⟨Z, ρ, st, L, S, ?_⟩
  unfold sSeq at q
  revert q
  cases f ρ st with
  | next ρ1 st1 => exact fun q σ1 H1 L1 f1 S1 => ⟨Z, ρ1, st1, L1, S1, PostS.on f1 q⟩
  | ret d s => exact fun q => q
  | brk ρ s => exact fun q => q
  | cont ρ s => exact fun q => q
  | exc c fs ρ s => exact fun q => q
  | stuck => exact fun q => q
theorem mss_cons {s : Stmt} {r : List Stmt} {f h : SDen} (h1 : MS G W X s f) (h2 : MSs G W X r h) : MSs G W X (s :: r) (sSeq f h) := PSs.imp (pss_cons h1 h2) fun E σ H q => seqS q
theorem mss_one {s : Stmt} {f : SDen} (h1 : MS G W X s f) : MSs G W X [s] f := pss_one h1
theorem ms_pass : MS G W X (.Pass pos) sNil := PS.imp ps_pass fun E σ H q => by
  obtain ⟨Z, ρ, st, L, S, q⟩ := q
  exact q σ H L Fw.refl S
theorem ms_doc {x j p2} : MS G W X (.Expr (.Constant (.str x) j p2) pos) sNil := PS.imp ps_doc fun E σ H q => by
  obtain ⟨Z, ρ, st, L, S, q⟩ := q
  exact q σ H L Fw.refl S
theorem ms_break : MS G W X (.Break pos) sBreak := PS.imp ps_break fun E σ H q => by
  obtain ⟨Z, ρ, st, L, S, q⟩ := q
  exact q σ H L Fw.refl S
theorem ms_cont : MS G W X (.Continue pos) sCont := PS.imp ps_continue fun E σ H q => by
  obtain ⟨Z, ρ, st, L, S, q⟩ := q
  exact q σ H L Fw.refl S
theorem ms_never {s : Stmt} : MS G W X s sNever := PS.imp ps_never fun E σ H q => by
  obtain ⟨Z, ρ, st, L, S, q⟩ := q
  exact q
theorem ms_ret {f : Den} (h : ME G W X e f) : MS G W X (.Return (some e) pos) (sRet f) := PS.imp (ps_ret h) fun E σ H q => by
  obtain ⟨Z, ρ, st, L, S, q⟩ := q
  exact ⟨Z, ρ, st, L, S, PostR.bindS S q fun d st1 v H1 L1 e1 f1 S1 r1 q1 => q1 v H1 L1 Fw.refl S1.ok r1⟩
theorem ms_retN : MS G W X (.Return none pos) sRetN := PS.imp ps_retN fun E σ H q => by
  obtain ⟨Z, ρ, st, L, S, q⟩ := q
  exact q _ H L Fw.refl S.ok .non
theorem ms_expr {f : Den} (h : ME G W X e f) (hs : swapsWith e none pos.line X.env = pure false := by rfl) : MS G W X (.Expr e pos) (sExpr f) := PS.imp (ps_expr h hs) fun E σ H q => by
  obtain ⟨Z, ρ, st, L, S, q⟩ := q
  exact ⟨Z, ρ, st, L, S, PostR.bindS S q fun d st1 v H1 L1 e1 f1 S1 r1 q1 => q1 σ H1 L1 Fw.refl S1⟩
theorem ms_if {c : Expr} {a b : List Stmt} {fc : DenB} {f h : SDen} (hc : MT G W X c fc) (ha : MSs G W X a f) (hb : MSs G W X b h) : MS G W X (.If c a b pos) (sIf fc f h) := PS.imp (ps_if hc ha hb) fun E σ H q => by
  obtain ⟨Z, ρ, st, L, S, q⟩ := q
  refine ⟨Z, ρ, st, L, S, PostR.bindS S q fun d st1 v H1 L1 e1 f1 S1 r1 q1 => ?_⟩
  have r1 : d = v := r1
  subst r1
  cases d with
  | true => exact ⟨Z, ρ, st1, L1, S1, q1⟩
  | false => exact ⟨Z, ρ, st1, L1, S1, q1⟩
theorem ms_set {x : Str} {p2 : Pos} {f : Den} (i : Nat) (hN : X.N.Nodup) (h : ME G W X e f) (hi : X.N[i]? = some x := by rfl) (hx : Loc X.env.scope x := by first | exact .inl rfl | exact .inr rfl) (hs : swapsWith e (some (.Name x p2)) pos.line X.env = pure false := by rfl) (hf : X.fn x = true ∨ X.env.scope.names.lookup x = some .local := by first | exact .inl rfl | exact .inr rfl | assumption) :
    MS G W X (.Assign [.Name x p2] e pos) (sSet i f) := PS.imp (ps_set hN hi hx h hs hf) fun E σ H q => by
  obtain ⟨Z, ρ, st, L, S, q⟩ := q
  exact ⟨Z, ρ, st, L, S, PostR.bindS S q fun d st1 v H1 L1 e1 f1 S1 r1 q1 => q1 _ H1 L1 Fw.refl ⟨S1.ok, S1.env.set i (.p r1)⟩⟩
/-- a new thing of one's own comes into the store -/
theorem alloc {σ : St} {ρ : Env} {L0 : List Addr} {st0 : Sto} {H0 : Hp} {o : O} {p : Addr} (SS : Stt G Z ρ st0 L0 σ H0) (f : FwN G Z L0 st0 H0 L st H p) (ok : OOk G (Zof (fun a => Z a ∨ a = p) L st) H L p o) :
    Fw Z L0 st0 H0 (L ++ [p]) (st ++ [o]) H ∧ StOk G Z (L ++ [p]) (st ++ [o]) H ∧ EnvOk G (Zof Z (L ++ [p]) (st ++ [o])) H (L ++ [p]) ρ σ := by
  have hlen := f.ok.len
  have pz : ¬ Z p := fun z => SS.ok.z0 p z f.new
  have pl : p ∉ L := fun m => f.ok.zl p m (.inr rfl)
  have hp : H p ≠ none := f.ok.z0 p (.inr rfl)
  have fw : Fw Z L0 st0 H0 (L ++ [p]) (st ++ [o]) H := by
    refine ⟨?_, f.fr.keep, f.fr.there, f.fr.zk, fun n o' hn e l => ?_⟩
    · obtain ⟨M, rfl, hM⟩ := f.fr.pre
      refine ⟨M ++ [p], by simp, fun a ha => ?_⟩
      rcases List.mem_append.mp ha with ha | ha
      · exact hM a ha
      · rw [List.mem_singleton.mp ha]; exact f.new
    · have hn' : n < st.length := by
        obtain ⟨M, rfl, hM⟩ := f.fr.pre
        rw [← hlen, List.length_append]; omega
      rw [List.getElem?_append_left hn'] at e
      exact f.fr.live n o' hn e l
  have zz : ∀ a, Zof Z (L ++ [p]) (st ++ [o]) a → Zof (fun a => Z a ∨ a = p) L st a := fun a z => by
    rcases z with z | ⟨n, u, e1, e2, l⟩
    · exact .inl (.inl z)
    · by_cases hn : n < L.length
      · rw [List.getElem?_append_left hn] at e1
        rw [List.getElem?_append_left (by omega)] at e2
        exact .inr ⟨n, u, e1, e2, l⟩
      · rw [List.getElem?_append_right (by omega)] at e1
        have : n - L.length = 0 := by
          obtain ⟨h, _⟩ := List.getElem?_eq_some_iff.mp e1
          simpa using h
        rw [this] at e1
        exact .inl (.inr (by simpa using e1.symm))
  have up : ∀ {s : S} {v : V}, SRep G (Zof (fun a => Z a ∨ a = p) L st) H L s v → SRep G (Zof Z (L ++ [p]) (st ++ [o])) H (L ++ [p]) s v := fun {s v} r => by
    cases r with
    | p r => exact .p (r.zone zz)
    | r e => exact .r (by rw [List.getElem?_append_left (List.getElem?_eq_some_iff.mp e).1]; exact e)
    | x e1 e2 e3 e4 => exact .x e1 e2 (e3.zone zz) (e4.mono fun a o e z => ⟨.of e, fun q => z (zz a q)⟩)
  have upF : ∀ {fs : List (Str × S)} {vs : List (Str × V)}, SRepF G (Zof (fun a => Z a ∨ a = p) L st) H L fs vs → SRepF G (Zof Z (L ++ [p]) (st ++ [o])) H (L ++ [p]) fs vs := fun {fs} => by
    induction fs with
    | nil => intro vs r; cases r; exact .nil
    | cons x fs ih => intro vs r; cases r with | cons a b => exact .cons (up a) (ih b)
  have upO : ∀ {a : Addr} {u : O}, OOk G (Zof (fun a => Z a ∨ a = p) L st) H L a u → OOk G (Zof Z (L ++ [p]) (st ++ [o])) H (L ++ [p]) a u := fun {a u} h => by
    cases u with
    | lst ds => obtain ⟨vs, h1, h2⟩ := h; exact ⟨vs, h1, h2.zone zz⟩
    | dic ds => obtain ⟨vs, h1, h2⟩ := h; exact ⟨vs, h1, h2.zone zz⟩
    | diT ds => obtain ⟨vs, h1, h2⟩ := h; exact ⟨vs, h1, h2.zone zz⟩
    | rows ns => obtain ⟨as, h1, h2⟩ := h; exact ⟨as, h1, h2.mono fun n a e => by rw [List.getElem?_append_left (List.getElem?_eq_some_iff.mp e).1]; exact e⟩
    | ins c fs => obtain ⟨C, dx, vfs, h1, h2, h3⟩ := h; exact ⟨C, dx, vfs, h1, h2, upF h3⟩
    | frz d => exact Rep.zone zz h
    | dead => trivial
  refine ⟨fw, ⟨by simp [hlen], ?_, fun n a u e1 e2 => ?_, fun a z => f.ok.z0 a (.inl z), fun a m z => ?_, fun a m => ?_, f.ok.tb.zone zz⟩, SS.env.mono fw⟩
  · rw [List.nodup_append]
    exact ⟨f.ok.nd, by simp, fun a ha b hb e => pl (by rw [List.mem_singleton.mp hb] at e; rw [← e]; exact ha)⟩
  · by_cases hn : n < L.length
    · rw [List.getElem?_append_left hn] at e1
      rw [List.getElem?_append_left (by omega)] at e2
      exact upO (f.ok.obj n a u e1 e2)
    · rw [List.getElem?_append_right (by omega)] at e1
      rw [List.getElem?_append_right (by omega)] at e2
      have h0 : n - L.length = 0 := by
        obtain ⟨h, _⟩ := List.getElem?_eq_some_iff.mp e1
        simpa using h
      rw [h0] at e1
      rw [← hlen, h0] at e2
      have ea : p = a := by simpa using e1
      have eu : o = u := by simpa using e2
      subst ea eu
      exact upO ok
  · rcases List.mem_append.mp m with m | m
    · exact f.ok.zl a m (.inl z)
    · rw [List.mem_singleton.mp m] at z; exact pz z
  · rcases List.mem_append.mp m with m | m
    · exact f.ok.lh a m
    · rw [List.mem_singleton.mp m]; exact hp
/-- x = a new thing of one's own that goes on being changed -/
theorem newS {f : Env → Sto → Res O} {i : Nat} {σ : St} {H : Hp} {E : Ends} (q : tMS G W (sNew i f) E σ H) : tMN G W f σ H fun x H1 => gName i x σ H1 E.nx := by
  obtain ⟨Z, ρ, st, L, S, q⟩ := q
  refine ⟨Z, ρ, st, L, S, ?_⟩
  unfold sNew sOf at q
  revert q
  cases f ρ st with
  | stuck => exact fun q => q
  | exc c fs st1 => exact fun q H' L' C dd vfs f o hC hd hr => q σ H' L' C dd vfs f (S.to f o) hC hd hr
  | ok o st1 =>
    intro q p H1 L1 fn ok
    obtain ⟨f2, o2, e2⟩ := alloc S fn ok
    refine q _ H1 (L1 ++ [p]) f2 ⟨o2, e2.set i (.r ?_)⟩
    rw [← fn.ok.len, List.getElem?_append_right (Nat.le_refl _)]
    simp
theorem ms_new {x : Str} {p2 : Pos} {f : Env → Sto → Res O} (i : Nat) (hN : X.N.Nodup) (h : MN G W X e f) (hi : X.N[i]? = some x := by rfl) (hx : Loc X.env.scope x := by first | exact .inl rfl | exact .inr rfl) (hs : swapsWith e (some (.Name x p2)) pos.line X.env = pure false := by rfl) (hf : X.fn x = true ∨ X.env.scope.names.lookup x = some .local := by first | exact .inl rfl | exact .inr rfl | assumption) :
    MS G W X (.Assign [.Name x p2] e pos) (sNew i f) := PS.imp (ps_set hN hi hx h hs hf) fun E σ H q => newS q
theorem ms_asg {f : Den} {g : GD} {vs : List Nat} (h : ME G W X e f) (hg : MG G X tg g vs) (hs : swapsWithSole [tg] e pos.line X.env = pure false := by rfl) (hw : swappedStores [tg] e X.env = pure none := by rfl)
    (h1 : (assignEach [tg] X.env).map (·.2) = [assign tg X.env] := by rfl) : MS G W X (.Assign [tg] e pos) (sAsg g f) := by
  obtain ⟨gt, g1, g2⟩ := hg.ex
  refine PS.imp (ps_asg h g1 hs hw h1) fun E σ H q => ?_
  obtain ⟨Z, ρ, st, L, S, q⟩ := q
  refine ⟨Z, ρ, st, L, S, PostR.bindS S q fun d st1 v H1 L1 e1 f1 S1 r1 q1 => ?_⟩
  have q1 : PostS G Z W L1 st1 H1 (match g d ρ with | some ρ => .next ρ st1 | none => .stuck) E := q1
  split at q1
  · rename_i ρ' eg
    exact g2 _ _ _ _ _ _ _ ρ' _ S1.env r1 eg fun σ' E' w => q1 σ' H1 L1 Fw.refl ⟨S1.ok, E'⟩
  · exact q1.elim
theorem ms_for {iter : Expr} {body : List Stmt} {fi : DenL} {g : GD} {fb : SDen} {vs : List Nat} (hp : PassesOwn (model X.prog X.w) X.A X.env X.xe) (hc : X.calm = true) (hi : MI G W X tg iter fi) (hg : MG G X tg g vs) (hb : MSs G W X body fb)
    (hs : ∀ x, foldedSetIterable iter X.env x = pure x := by intro _; rfl) : MS G W X (.For tg iter body [] pos) (sFor fi g fb) := by
  obtain ⟨gt, g1, g2⟩ := hg.ex
  refine PS.imp (ps_for hp hc hi g1 hb hs) fun E σ H q => ?_
  obtain ⟨Z, ρ, st, L, S, q⟩ := q
  refine ⟨Z, ρ, st, L, S, ?_⟩
  unfold sFor sOf at q
  revert q
  cases fi ρ st with
  | stuck => exact fun q => q
  | exc c fs st1 => exact fun q H' L' C dd vfs f o hC hd hr => q σ H' L' C dd vfs f (S.to f o) hC hd hr
  | ok items st1 =>
    intro q J H1 L1 f1 o1 hy
    have q : PostS G Z W L st H (forL g fb items ρ st1) E := q
    refine ⟨fun i m σ' H' => ∃ ρ' st' L', m = items.length - i ∧ i ≤ items.length ∧ Fw Z L1 st1 H1 L' st' H' ∧ Stt G Z ρ' st' L' σ' H' ∧ PostS G Z W L' st' H' (forL g fb (items.drop i) ρ' st') E, ⟨items.length, ρ, st1, L1, by simp, Nat.zero_le _, Fw.refl, S.to f1 o1, by rw [List.drop_zero]; exact PostS.on f1 q⟩, ?_⟩
    rintro i m σ' H' ⟨ρ', st', L', rfl, hle, fw, S', q'⟩
    obtain ⟨ys, yi⟩ := hy i Z L' st' H' (fun a z => .inl z) fw S'.ok
    by_cases hi : i < items.length
    · obtain ⟨d, hd⟩ : ∃ d, items[i]? = some d := ⟨_, List.getElem?_eq_getElem hi⟩
      obtain ⟨go, hyl⟩ := yi d hd
      have hdrop : items.drop i = d :: items.drop (i + 1) := by
        rw [List.drop_eq_getElem_cons hi]
        rw [List.getElem?_eq_getElem hi] at hd
        cases hd
        rfl
      rw [hdrop] at q'
      unfold forL at q'
      refine .inr ⟨go, fun σ2 H2 => ∃ ρ' st' L', Fw Z L1 st1 H1 L' st' H2 ∧ Stt G Z ρ' st' L' σ2 H2 ∧ PostS G Z W L' st' H2 (forL g fb (items.drop (i + 1)) ρ' st') E, fun σ2 H2 ⟨ρ2, st2, L2, a1, a2, a3⟩ => ⟨_, by omega, ρ2, st2, L2, rfl, hi, a1, a2, a3⟩, fun x H2 hyx => ?_⟩
      obtain ⟨sm, rx⟩ := hyl x H2 hyx
      have S2 := S'.to (Fw.same sm) (S'.ok.same sm)
      have fw2 := fw.trans (Fw.same sm)
      have q2 := PostS.on (Fw.same sm) q'
      cases eg : g d ρ' with
      | none => rw [eg] at q2; exact q2.elim
      | some ρ1 =>
        rw [eg] at q2
        refine g2 _ _ _ _ _ _ _ ρ1 _ S2.env rx eg fun σ3 E3 w => ⟨Z, ρ1, st', L', ⟨S2.ok, E3⟩, ?_⟩
        have q2 : PostS G Z W L' st' H2 (match fb ρ1 st' with
          | .next ρ st => forL g fb (items.drop (i + 1)) ρ st
          | .cont ρ st => forL g fb (items.drop (i + 1)) ρ st
          | .brk ρ st => .next ρ st
          | r => r) E := q2
        revert q2
        cases fb ρ1 st' with
        | next ρ4 st4 => exact fun q σ4 H4 L4 f4 S4 => ⟨ρ4, st4, L4, fw2.trans f4, S4, PostS.on f4 q⟩
        | cont ρ4 st4 => exact fun q σ4 H4 L4 f4 S4 => ⟨ρ4, st4, L4, fw2.trans f4, S4, PostS.on f4 q⟩
        | brk ρ4 st4 => exact fun q => q
        | ret d4 st4 => exact fun q => q
        | exc c fs ρ4 st4 => exact fun q => q
        | stuck => exact fun q => q
    · have e : i = items.length := by omega
      subst e
      rw [List.drop_length] at q'
      exact .inl ⟨ys (Nat.le_refl _), q' σ' H' L' Fw.refl S'⟩
theorem ms_while {c : Expr} {body : List Stmt} {fc : DenB} {fb : SDen} (n : Nat) (hp : PassesOwn (model X.prog X.w) X.A X.env X.xe) (hc : MT G W X c fc) (hb : MSs G W X body fb) : MS G W X (.While c body [] pos) (sWhile n fc fb) := by
  refine PS.imp (ps_while hp hc hb) fun E σ H q => ?_
  obtain ⟨Z, ρ, st, L, S, q⟩ := q
  have q : PostS G Z W L st H (whileL fc fb n ρ st) E := q
  refine ⟨fun m σ' H' => ∃ ρ' st' L', Stt G Z ρ' st' L' σ' H' ∧ PostS G Z W L' st' H' (whileL fc fb m ρ' st') E, ⟨n, ρ, st, L, S, q⟩, ?_⟩
  rintro m σ' H' ⟨ρ', st', L', S', q'⟩
  cases m with
  | zero => exact q'.elim
  | succ m =>
    unfold whileL at q'
    refine ⟨Z, ρ', st', L', S', ?_⟩
    revert q'
    cases fc ρ' st' with
    | stuck => exact fun q => q
    | exc c fs st1 => exact fun q H2 L2 C dd vfs f o hC hd hr => q σ' H2 L2 C dd vfs f (S'.to f o) hC hd hr
    | ok b st1 =>
      intro q' b' H1 L1 f1 o1 rb
      have rb : b = b' := rb
      subst rb
      have S1 := S'.to f1 o1
      cases b with
      | false => exact q' σ' H1 L1 f1 S1
      | true =>
        refine ⟨fun σ2 H2 => ∃ ρ' st' L', Stt G Z ρ' st' L' σ2 H2 ∧ PostS G Z W L' st' H2 (whileL fc fb m ρ' st') E, fun σ2 H2 h => ⟨m, Nat.lt_succ_self m, h⟩, Z, ρ', st1, L1, S1, ?_⟩
        have q' : PostS G Z W L' st' H' (match fb ρ' st1 with
          | .next ρ st => whileL fc fb m ρ st
          | .cont ρ st => whileL fc fb m ρ st
          | .brk ρ st => .next ρ st
          | r => r) E := q'
        have q' := PostS.on f1 q'
        revert q'
        cases fb ρ' st1 with
        | next ρ4 st4 => exact fun q σ4 H4 L4 f4 S4 => ⟨ρ4, st4, L4, S4, PostS.on f4 q⟩
        | cont ρ4 st4 => exact fun q σ4 H4 L4 f4 S4 => ⟨ρ4, st4, L4, S4, PostS.on f4 q⟩
        | brk ρ4 st4 => exact fun q => q
        | ret d4 st4 => exact fun q => q
        | exc c fs ρ4 st4 => exact fun q => q
        | stuck => exact fun q => q
end
end M
namespace M
open PySem PySem.Spec L2

/-! ### things that are changed -/
def lstAt (i : Nat) (ρ : Env) (st : Sto) : Option (Nat × List D) := match ρ[i]? with
  | some (some (.r n)) => (match st[n]? with | some (.lst ds) => some (n, ds) | _ => none)
  | _ => none
/-- x.m(e) as a statement, x a list of one's own; k what it makes of the list -/
@[simp] def sMut1 (k : List D → D → Option (List D)) (i : Nat) (f : Den) : SDen := fun ρ st => match lstAt i ρ st with
  | none => .stuck
  | some _ => sOf f (fun d ρ st => match lstAt i ρ st with
    | some (n, ds) => (match k ds d with | some es => .next ρ (st.set n (.lst es)) | none => .stuck)
    | none => .stuck) ρ st
@[simp] def setAt (l : Option (Nat × List D)) (j d : D) (ρ : Env) (st : Sto) : SRes := match l with
  | some p => (match j with
    | .int z => (match ixN p.2.length z with | some m => .next ρ (st.set p.1 (.lst (p.2.set m d))) | none => .stuck)
    | _ => .stuck)
  | none => .stuck
/-- x[j] = e -/
@[simp] def sSetIx (i : Nat) (fj fe : Den) : SDen := fun ρ st => sOf fe (fun d ρ st => match lstAt i ρ st with
  | none => .stuck
  | some _ => sOf fj (fun j ρ st => setAt (lstAt i ρ st) j d ρ st) ρ st) ρ st
section
variable {G : Wd} {W : WX} {X : Cx} {Z Z' : Zone} {H H' : Hp} {L L' : List Addr} {st st' : Sto} {tg e : Expr} {pos : Pos}
theorem wr {n : Nat} {a : Addr} {o o' : O} {ho : HO} (S : StOk G Z L st H) (e1 : L[n]? = some a) (e2 : st[n]? = some o) (lo : o.live = true) (h : OOk G (Zof Z L (st.set n o')) (upd H a ho) L a o') (lo' : o'.live = true) :
    Fw Z L st H L (st.set n o') (upd H a ho) ∧ StOk G Z L (st.set n o') (upd H a ho) := by
  have la : Live L st a := ⟨n, o, e1, e2, lo⟩
  have am : a ∈ L := List.mem_of_getElem? e1
  have hl : n < st.length := (List.getElem?_eq_some_iff.mp e2).1
  have fw : Fw Z L st H L (st.set n o') (upd H a ho) := by
    refine ⟨⟨[], by simp, by simp⟩, fun b u e nl => ?_, fun b h => ?_, fun b u z e => ?_, fun m o2 hm e3 l2 => ?_⟩
    · have ne : b ≠ a := fun q => nl (q ▸ la)
      exact .of (by rw [upd_ne ne]; exact e)
    · by_cases q : b = a
      · rw [q, upd_same]; simp
      · rw [upd_ne q]; exact h
    · have ne : b ≠ a := fun q => S.zl a am (q ▸ z)
      rw [upd_ne ne]; exact e
    · rcases getElem?_set_cases e3 with ⟨rfl, rfl, _⟩ | ⟨_, h⟩
      · exact ⟨o, e2, lo⟩
      · exact ⟨o2, h, l2⟩
  refine ⟨fw, by simpa using S.len, S.nd, fun m b u e3 e4 => ?_, fun b z => fw.there b (S.z0 b z), S.zl, fun b m => fw.there b (S.lh b m), S.tb.mono fun b u q z => ⟨by rw [upd_ne fun (y : b = a) => z (.inr (by rw [y]; exact la))]; exact q, (fw.keeps b u q z).2⟩⟩
  rcases getElem?_set_cases e4 with ⟨rfl, rfl, _⟩ | ⟨ne, h4⟩
  · rw [e1] at e3
    cases e3
    exact h
  · have nb : b ≠ a := fun q => ne (nodup_at S.nd e3 (q ▸ e1))
    exact (S.obj m b u e3 h4).mono fw (by rw [upd_ne nb])
theorem lstAt_some {i : Nat} {ρ : Env} {σ : St} {n : Nat} {ds : List D} (S : Stt G Z ρ st L σ H) (e : lstAt i ρ st = some (n, ds)) : ∃ a vs, σ[i]? = some (some (.ref a)) ∧ L[n]? = some a ∧ st[n]? = some (.lst ds) ∧ H a = some (.lst vs) ∧ Reps G (Zof Z L st) H ds vs := by
  unfold lstAt at e
  split at e
  · rename_i m er
    split at e
    · rename_i es eo
      cases e
      obtain ⟨v, ev, r⟩ := S.env.2 i _ er
      cases r with
      | r r =>
        obtain ⟨vs, h1, h2⟩ := S.ok.obj _ _ _ r eo
        exact ⟨_, vs, ev, r, eo, h1, h2⟩
    · cases e
  · cases e
/-- what a changing method's reading asks -/
def SimM (G : Wd) (k : List D → D → Option (List D)) (r : V → List V → Hp → VK → Prop) : Prop := ∀ Z H ds d es a vs v Q, H a = some (.lst vs) → Reps G Z H ds vs → Rep G Z H d v → k ds d = some es →
  (∀ ws, (∀ Z' H', Keeps Z Z' H H' → Reps G Z' H' es ws) → Q .non (upd H a (.lst ws))) → r (.ref a) [v] H Q
theorem mutS {k : List D → D → Option (List D)} {r : V → List V → Hp → VK → Prop} {i : Nat} {f : Den} (sm : SimM G k r) {σ : St} {H : Hp} {E : Ends} (q : tMS G W (sMut1 k i f) E σ H) :
    tVar i σ H fun x H1 => tyV X.K "list" x H1 ∧ tCons (tM G W f) tNil σ H1 fun xs H2 => r x xs H2 fun _ H3 => E.nx σ H3 := by
  obtain ⟨Z, ρ, st, L, S, q⟩ := q
  unfold sMut1 at q
  cases e0 : lstAt i ρ st with
  | none => rw [e0] at q; exact q.elim
  | some p =>
    rw [e0] at q
    obtain ⟨n, ds⟩ := p
    obtain ⟨a, vs, ev, e1, e2, h1, h2⟩ := lstAt_some S e0
    refine ⟨.ref a, ev, .inl ⟨rfl, vs, .inl (.inl h1)⟩, Z, ρ, st, L, S, PostR.bindS S q fun d st1 v H1 L1 ed f1 S1 r1 q1 => ?_⟩
    have q1 : PostS G Z W L1 st1 H1 (match lstAt i ρ st1 with
      | some (n, ds) => (match k ds d with | some es => .next ρ (st1.set n (.lst es)) | none => .stuck)
      | none => .stuck) E := q1
    cases e3 : lstAt i ρ st1 with
    | none => rw [e3] at q1; exact q1.elim
    | some p =>
      rw [e3] at q1
      obtain ⟨m, ds1⟩ := p
      obtain ⟨b, ws, ev2, g1, g2, k1, k2⟩ := lstAt_some S1 e3
      rw [ev] at ev2
      cases ev2
      have q1 : PostS G Z W L1 st1 H1 (match k ds1 d with | some es => .next ρ (st1.set m (.lst es)) | none => .stuck) E := q1
      cases ek : k ds1 d with
      | none => rw [ek] at q1; exact q1.elim
      | some es =>
        rw [ek] at q1
        refine sm _ H1 ds1 d es a ws v _ k1 k2 r1 ek fun zs hzs => ?_
        have fws : Keeps (Zof Z L1 st1) (Zof Z L1 (st1.set m (.lst es))) H1 (upd H1 a (.lst zs)) := fun b u e z => by
          have la : Live L1 st1 a := ⟨m, _, g1, g2, rfl⟩
          have ne : b ≠ a := fun q => z (.inr (q ▸ la))
          refine ⟨.of (by rw [upd_ne ne]; exact e), fun q => ?_⟩
          rcases q with q | ⟨j, u2, j1, j2, j3⟩
          · exact z (.inl q)
          · rcases getElem?_set_cases j2 with ⟨rfl, rfl, _⟩ | ⟨_, h⟩
            · rw [g1] at j1; exact ne (Option.some.inj j1).symm
            · exact z (.inr ⟨j, u2, j1, h, j3⟩)
        obtain ⟨fw, ok⟩ := wr (o' := .lst es) (ho := .lst zs) S1.ok g1 g2 rfl ⟨zs, upd_same, hzs _ _ fws⟩ rfl
        exact q1 σ _ L1 fw (S1.to fw ok)

theorem ms_mut1 {k : List D → D → Option (List D)} {r : V → List V → Hp → VK → Prop} {i : Nat} {f : Den} {x name : Str} {id : String} {p apos cpos : Pos} (slot : Slot "list" name id) (hty : typeOf (.builtin id) = pure (.type "method_descriptor")) (hm : MtM X id r) (sm : SimM G k r) (hv : PE X (.Name x p) (tVar i)) (he : ME G W X e f)
    (h1 : PE X (.Call (.Attribute (.Name x p) name apos) [e] [] cpos) (tBM X.K "list" r (tVar i) (tCons (tM G W f) tNil))) (hs : swapsWith (.Call (.Attribute (.Name x p) name apos) [e] [] cpos) none pos.line X.env = pure false := by rfl) : MS G W X (.Expr (.Call (.Attribute (.Name x p) name apos) [e] [] cpos) pos) (sMut1 k i f) :=
  PS.imp (ps_expr h1 hs) fun E σ H q => mutS sm q
/-- append -/
noncomputable def kApp (ds : List D) (d : D) : Option (List D) := if ds.length < sizeLine then some (ds ++ [d]) else none
theorem sim_app : SimM G kApp rAppend := fun Z H ds d es a vs v Q h1 h2 h3 ek q => by
  unfold kApp at ek
  split at ek
  · cases ek
    have hl := h2.length
    exact ⟨a, vs, v, rfl, rfl, h1, by omega, q _ fun Z' H' k => (h2.mono k).append (.cons (h3.mono k) .nil)⟩
  · cases ek
/-- extend by a list -/
noncomputable def kExt (ds : List D) (d : D) : Option (List D) := match d with
  | .lst es => if ds.length + es.length ≤ sizeLine then some (ds ++ es) else none
  | _ => none
def rExtR : V → List V → Hp → VK → Prop := fun x vs H Q => ∃ l b xs zs, x = .ref l ∧ vs = [.ref b] ∧ H l = some (.lst xs) ∧ Rd H b (.lst zs) ∧ xs.length + zs.length ≤ sizeLine ∧ Q .non (upd H l (.lst (xs ++ zs)))
theorem mt_extR : MtM X "list.extend" rExtR := by
  intro pins s σ H x vs v us Q I rx rv h
  obtain ⟨l, b, xs, zs, rfl, rfl, hH, hB, hz, q⟩ := h
  cases rx
  obtain ⟨u, rfl, ru⟩ := rv.one
  cases ru
  obtain ⟨z, its, n, r, hl, e⟩ := I.lstM hH
  obtain ⟨z2, its2, n2, r2, e2⟩ := hB.ok I.hok
  have hl2 := r2.length
  have hsz : its.toArray.size + its2.toArray.size ≤ sizeLine := by rw [List.size_toArray, List.size_toArray]; omega
  have hlong : ¬ (!its.toArray.isEmpty && Builtin.List.listTooLong (its.toArray.size + its2.toArray.size)) = true := by
    rw [notLongL hsz, Bool.and_false]
    exact Bool.false_ne_true
  refine call_meets F.slot_list_extend ⟨_, e, rfl⟩ F.entry_list_extend (F.args_list_extend_2 _ _)
    (AutoSeq1.list_extend_list_list_0 l its.toArray n b its2.toArray n2 hlong (by rw [List.size_toArray]; omega) (by omega)) ⟨e, e2, ?_⟩
  refine ⟨.non, _, I.lset (its' := its ++ its2) hH e (by simp) (r.append r2) ?_, rfl, q⟩
  rw [List.length_append]
  omega
theorem sim_ext : SimM G kExt rExtR := fun Z H ds d es a vs v Q h1 h2 h3 ek q => by
  unfold kExt at ek
  split at ek
  · split at ek
    · cases ek
      obtain ⟨b, ws, rfl, g1, g2⟩ := h3.list'
      have hl := h2.length
      have hl2 := g2.length
      exact ⟨a, b, vs, ws, rfl, rfl, h1, g1, by omega, q _ fun Z' H' k => (h2.mono k).append (g2.mono k)⟩
    · cases ek
  · cases ek
theorem ms_app {i : Nat} {f : Den} {x : Str} {p apos cpos : Pos} (hv : PE X (.Name x p) (tVar i)) (he : ME G W X e f)
    (hbase : attributeBase (.Name x p) "append" X.env (eval (.Name x p) X.env) = eval (.Name x p) X.env := by rfl)
    (hfew : ((backTo cpos (starEach [e] X.env)).all (fun x => !x.1) && (backToKw cpos (keywordEach [] X.env)).all (fun x => x.1.isSome)
      && decide ([e].length + ([] : List Keyword).length + (if ([] : List Keyword).isEmpty then 0 else 1) < 30)) = true := by rfl)
    (hline : (apos.endLine == cpos.line) = true := by rfl) (hst : starEach [e] X.env = (false, eval e X.env) :: starEach [] X.env := by rfl) (hplain : (backTo cpos (starEach [] X.env)).any (·.1) = false := by rfl)
    (hs : swapsWith (.Call (.Attribute (.Name x p) "append" apos) [e] [] cpos) none pos.line X.env = pure false := by rfl) : MS G W X (.Expr (.Call (.Attribute (.Name x p) "append" apos) [e] [] cpos) pos) (sMut1 kApp i f) :=
  PS.imp (ps_expr (pe_bm PySem.F.plainAttrs_list PySem.F.slot_list_append PySem.F.type_list_append mt_append hv (pa_cons he pa_nil hst) hbase hfew hline hst hplain) hs) fun E σ H q => mutS sim_app q
theorem ms_ext {i : Nat} {f : Den} {x : Str} {p apos cpos : Pos} (hv : PE X (.Name x p) (tVar i)) (he : ME G W X e f)
    (hbase : attributeBase (.Name x p) "extend" X.env (eval (.Name x p) X.env) = eval (.Name x p) X.env := by rfl)
    (hfew : ((backTo cpos (starEach [e] X.env)).all (fun x => !x.1) && (backToKw cpos (keywordEach [] X.env)).all (fun x => x.1.isSome)
      && decide ([e].length + ([] : List Keyword).length + (if ([] : List Keyword).isEmpty then 0 else 1) < 30)) = true := by rfl)
    (hline : (apos.endLine == cpos.line) = true := by rfl) (hst : starEach [e] X.env = (false, eval e X.env) :: starEach [] X.env := by rfl) (hplain : (backTo cpos (starEach [] X.env)).any (·.1) = false := by rfl)
    (hs : swapsWith (.Call (.Attribute (.Name x p) "extend" apos) [e] [] cpos) none pos.line X.env = pure false := by rfl) : MS G W X (.Expr (.Call (.Attribute (.Name x p) "extend" apos) [e] [] cpos) pos) (sMut1 kExt i f) :=
  PS.imp (ps_expr (pe_bm PySem.F.plainAttrs_list PySem.F.slot_list_extend PySem.F.type_list_extend mt_extR hv (pa_cons he pa_nil hst) hbase hfew hline hst hplain) hs) fun E σ H q => mutS sim_ext q
theorem ixN_some {α : Type} {xs : List α} {z : Int} {m : Nat} (h : ixN xs.length z = some m) : m < xs.length := (ixN_seq h).2.1
theorem ms_setix {x : Str} {i : Nat} {ej : Expr} {fj fe : Den} {p spos : Pos} (hv : PE X (.Name x p) (tVar i)) (hj : ME G W X ej fj) (he : ME G W X e fe)
    (hs : swapsWithSole [.Subscript (.Name x p) ej spos] e pos.line X.env = pure false := by rfl) (hw : swappedStores [.Subscript (.Name x p) ej spos] e X.env = pure none := by rfl)
    (ha : ∀ v, assign (.Subscript (.Name x p) ej spos) X.env v = (do
      let ov ← holding [v] (eval (.Name x p) X.env)
      let iv ← holding [v, ov] (eval ej X.env)
      standAt spos
      holding [v, ov, iv] (setItem ov iv v)
      release [v, ov, iv] []) := by intro _; rfl)
    (h1 : (assignEach [.Subscript (.Name x p) ej spos] X.env).map (·.2) = [assign (.Subscript (.Name x p) ej spos) X.env] := by rfl) :
    MS G W X (.Assign [.Subscript (.Name x p) ej spos] e pos) (sSetIx i fj fe) := PS.imp (ps_asg he (pg_sub hv hj set_list ha) hs hw h1) fun E σ H q => by
  obtain ⟨Z, ρ, st, L, S, q⟩ := q
  refine ⟨Z, ρ, st, L, S, PostR.bindS S q fun d st1 v H1 L1 ed f1 S1 r1 q1 => ?_⟩
  have q1 : PostS G Z W L1 st1 H1 (match lstAt i ρ st1 with
    | none => .stuck
    | some _ => sOf fj (fun j ρ st => setAt (lstAt i ρ st) j d ρ st) ρ st1) E := q1
  cases e0 : lstAt i ρ st1 with
  | none => rw [e0] at q1; exact q1.elim
  | some p =>
    rw [e0] at q1
    obtain ⟨n0, ds0⟩ := p
    obtain ⟨a, vs0, ev, _⟩ := lstAt_some S1 e0
    refine ⟨.ref a, ev, Z, ρ, st1, L1, S1, PostR.bindS S1 q1 fun j st2 y H2 L2 ej f2 S2 r2 q2 => ?_⟩
    have q2 : PostS G Z W L2 st2 H2 (setAt (lstAt i ρ st2) j d ρ st2) E := q2
    unfold setAt at q2
    cases e2 : lstAt i ρ st2 with
    | none => rw [e2] at q2; exact q2.elim
    | some p =>
      rw [e2] at q2
      obtain ⟨n, ds⟩ := p
      obtain ⟨b, vs, ev2, g1, g2, k1, k2⟩ := lstAt_some S2 e2
      rw [ev] at ev2
      cases ev2
      cases j with
      | int z =>
        have q2 : PostS G Z W L2 st2 H2 (match ixN ds.length z with | some m => .next ρ (st2.set n (.lst (ds.set m d))) | none => .stuck) E := q2
        split at q2
        · rename_i m em
          refine ⟨a, vs, z, m, rfl, r2.int', k1, by rw [← k2.length]; exact em, ?_⟩
          have rd := r1.mono f2.keeps
          have fws : Keeps (Zof Z L2 st2) (Zof Z L2 (st2.set n (.lst (ds.set m d)))) H2 (upd H2 a (.lst (vs.set m v))) := fun b u e z => by
            have la : Live L2 st2 a := ⟨n, _, g1, g2, rfl⟩
            have ne : b ≠ a := fun q => z (.inr (q ▸ la))
            refine ⟨.of (by rw [upd_ne ne]; exact e), fun q => ?_⟩
            rcases q with q | ⟨j, u2, j1, j2, j3⟩
            · exact z (.inl q)
            · rcases getElem?_set_cases j2 with ⟨rfl, rfl, _⟩ | ⟨_, h⟩
              · rw [g1] at j1; exact ne (Option.some.inj j1).symm
              · exact z (.inr ⟨j, u2, j1, h, j3⟩)
          obtain ⟨fw, ok⟩ := wr (o' := .lst (ds.set m d)) (ho := .lst (vs.set m v)) S2.ok g1 g2 rfl ⟨_, upd_same, Reps.set (rd.mono fws) m (k2.mono fws)⟩ rfl
          exact q2 σ _ L2 fw (S2.to fw ok)
        · exact q2.elim
      | _ => exact q2.elim
/-- x op= e, ints, texts, tuples -/
@[simp] def sAug (i : Nat) (g : D → D → Option D) (f : Den) : SDen := fun ρ st => match ρ[i]? with
  | some (some (.p d)) => sOf f (fun e ρ st => match g d e with | some z => .next (ρ.set i (some (.p z))) st | none => .stuck) ρ st
  | _ => .stuck
theorem ms_aug {x : Str} {op : Operator} {i : Nat} {g : D → D → Option D} {f : Den} {r : R2} {p : Pos} (ho : OpR X (inplaceOp op) r) (s : Sim2 G g r) (hN : X.N.Nodup) (he : ME G W X e f) (hi : X.N[i]? = some x := by rfl) (hx : Loc X.env.scope x := by first | exact .inl rfl | exact .inr rfl) (hf : X.fn x = true ∨ X.env.scope.names.lookup x = some .local := by first | exact .inl rfl | exact .inr rfl | assumption) :
    MS G W X (.AugAssign (.Name x p) op e pos) (sAug i g f) := PS.imp (ps_aug (ti := r) hN hi hx he ho hf) fun E σ H q => by
  obtain ⟨Z, ρ, st, L, S, q⟩ := q
  unfold sAug at q
  split at q
  · rename_i d ed
    obtain ⟨v, ev, rv⟩ := S.env.2 i _ ed
    cases rv with
    | p rv =>
      refine ⟨v, ev, Z, ρ, st, L, S, PostR.bindS S q fun e2 st1 y H1 L1 e1 f1 S1 r1 q1 => ?_⟩
      have q1 : PostS G Z W L1 st1 H1 (match g d e2 with | some z => .next (ρ.set i (some (.p z))) st1 | none => .stuck) E := q1
      split at q1
      · rename_i z ez
        exact s _ _ _ _ _ _ z _ S1.ok.inn (.rep (rv.mono f1.keeps)) (.rep r1) ez fun w H' e' r' => q1 _ H' L1 (Fw.same e') ⟨S1.ok.same e', (S1.env.mono (Fw.same e')).set i (.p r')⟩
      · exact q1.elim
  · exact q.elim
end
end M
namespace M
open PySem PySem.Spec L2

/-! ### defs: bodies -/
@[simp] def O.refsBelow (k : Nat) : O → Bool
  | .ins _ fs => fs.all fun p => match p.2 with | .r m => decide (m < k) | _ => true
  | .rows ns => ns.all fun m => decide (m < k)
  | _ => true
/-- what is the def's own goes -/
@[simp] def cutOff (k : Nat) (st : Sto) (r : Sto → Res D) : Res D := if ((st.take k).all (O.refsBelow k)) = true then r (st.take k) else .stuck
@[simp] def dFn (n m : Nat) (fb : SDen) : FD := fun ss st => if ss.length = n then (match fb (ss.map some ++ List.replicate (m - n) none) st with
  | .ret d st' => cutOff st.length st' fun s => .ok d s
  | .next _ st' => cutOff st.length st' fun s => .ok .non s
  | .exc c fs _ st' => cutOff st.length st' fun s => .exc c fs s
  | _ => .stuck) else .stuck
section
variable {G : Wd} {W : WX} {X : Cx} {Z Z' : Zone} {H H' : Hp} {L L' : List Addr} {st st' : Sto} {tg e : Expr} {pos : Pos}
theorem zof_take {k : Nat} {a : Addr} (h : Zof Z (L.take k) (st.take k) a) : Zof Z L st a := by
  rcases h with h | ⟨n, o, e1, e2, l⟩
  · exact .inl h
  · have h1 : n < k := by
      have := (List.getElem?_eq_some_iff.mp e1).1
      rw [List.length_take] at this
      omega
    rw [List.getElem?_take_of_lt h1] at e1 e2
    exact .inr ⟨n, o, e1, e2, l⟩
theorem SRepF.cut {k : Nat} : ∀ {fs : List (Str × S)} {vs : List (Str × V)}, SRepF G (Zof Z L st) H L fs vs → (fs.all fun p => match p.2 with | .r m => decide (m < k) | _ => true) = true → SRepF G (Zof Z (L.take k) (st.take k)) H (L.take k) fs vs
  | _, _, .nil, _ => .nil
  | _, _, .cons r t, h => by
    rw [List.all_cons, Bool.and_eq_true] at h
    refine .cons ?_ (SRepF.cut t h.2)
    cases r with
    | p r => exact .p (r.zone fun a z => zof_take z)
    | r e =>
      have h1 : _ < k := of_decide_eq_true h.1
      exact .r (by rw [List.getElem?_take_of_lt h1]; exact e)
    | x e1 e2 e3 e4 => exact .x e1 e2 (e3.zone fun a z => zof_take z) (e4.mono fun a o e z => ⟨.of e, fun q => z (zof_take q)⟩)
theorem RowsAt.cut {k : Nat} : ∀ {ns : List Nat} {as : List Addr}, RowsAt L ns as → (ns.all fun m => decide (m < k)) = true → RowsAt (L.take k) ns as
  | [], [], _, _ => rfl
  | [], _ :: _, r, _ => nomatch r
  | _ :: _, [], r, _ => nomatch r
  | n :: ns, a :: as, r, h => by
    rw [List.all_cons, Bool.and_eq_true] at h
    have r : some a :: as.map some = L[n]? :: ns.map fun n => L[n]? := r
    obtain ⟨r1, r2⟩ := List.cons.inj r
    show some a :: as.map some = (L.take k)[n]? :: ns.map fun n => (L.take k)[n]?
    rw [List.getElem?_take_of_lt (of_decide_eq_true h.1), ← r1, show as.map some = ns.map (fun n => (L.take k)[n]?) from RowsAt.cut r2 h.2]
theorem StOk.cut {k : Nat} (S : StOk G Z L st H) (h : (st.take k).all (O.refsBelow k) = true) : StOk G Z (L.take k) (st.take k) H := by
  refine ⟨by rw [List.length_take, List.length_take, S.len], S.nd.sublist (List.take_sublist _ _), fun n a o e1 e2 => ?_, S.z0, fun a m => S.zl a (List.mem_of_mem_take m), fun a m => S.lh a (List.mem_of_mem_take m), S.tb.zone fun a z => zof_take z⟩
  have h1 : n < k := by
    have := (List.getElem?_eq_some_iff.mp e1).1
    rw [List.length_take] at this
    omega
  have ho := List.all_eq_true.mp h o (List.mem_of_getElem? e2)
  rw [List.getElem?_take_of_lt h1] at e1 e2
  have ok := S.obj n a o e1 e2
  cases o with
  | lst ds => obtain ⟨vs, h1, h2⟩ := ok; exact ⟨vs, h1, h2.zone fun a z => zof_take z⟩
  | dic ds => obtain ⟨vs, h1, h2⟩ := ok; exact ⟨vs, h1, h2.zone fun a z => zof_take z⟩
  | diT ds => obtain ⟨vs, h1, h2⟩ := ok; exact ⟨vs, h1, h2.zone fun a z => zof_take z⟩
  | rows ns => obtain ⟨as, h1, h2⟩ := ok; exact ⟨as, h1, h2.cut ho⟩
  | ins c fs => obtain ⟨C, dx, vfs, h1, h2, h3⟩ := ok; exact ⟨C, dx, vfs, h1, h2, h3.cut ho⟩
  | frz d => exact Rep.zone (fun a z => zof_take z) ok
  | dead => trivial
theorem Fw.cut (S : StOk G Z L st H) (f : Fw Z L st H L' st' H') : Fw Z L st H (L'.take st.length) (st'.take st.length) H' ∧ L'.take st.length = L := by
  obtain ⟨M, rfl, hM⟩ := f.pre
  have e : (L ++ M).take st.length = L := by rw [← S.len, List.take_left]
  refine ⟨⟨⟨[], by rw [e, List.append_nil], by simp⟩, f.keep, f.there, f.zk, fun n o' hn e2 l => ?_⟩, e⟩
  have h1 : n < st.length := by rw [← S.len]; exact hn
  rw [List.getElem?_take_of_lt h1] at e2
  exact f.live n o' hn e2 l
theorem env_start {ss : List S} {vs : List V} {N : List Str} (r : SReps G Z H L ss vs) (hn : vs.length ≤ N.length) : EnvOk G Z H L (ss.map some ++ List.replicate (N.length - vs.length) none) (L2.start N vs) := by
  have hl := r.length
  refine ⟨by unfold L2.start; simp [hl], fun i s e => ?_⟩
  by_cases hi : i < ss.length
  · rw [List.getElem?_append_left (by simpa using hi), List.getElem?_map] at e
    obtain ⟨s', h1, h2⟩ := Option.map_eq_some_iff.mp e
    cases h2
    obtain ⟨v, h3, h4⟩ := r.get h1
    refine ⟨v, ?_, h4⟩
    unfold L2.start
    rw [List.getElem?_append_left (by rw [List.length_map]; omega), List.getElem?_map, h3]
    rfl
  · rw [List.getElem?_append_right (by simpa using hi), List.getElem?_replicate] at e
    split at e <;> cases e
end
section
variable {P : Program} {w : World} {K : PySem.W.Frag} {mg : Str → Option Value} {base : Heap} {G : Wd}
theorem okXN {x qual : Str} {st : Stmt} {f : Addr} {fd : FuncData} {N ps : List Str} {k : Nat} {sp : Sp} (F : Fun K x qual st f fd) (S : FnScope N ps (defScope st)) (len : ∀ vs H Q E, sp vs H Q E → vs.length = ps.length)
    (hb : ∀ (cdv : Value) (A : Around) (outer : List PySem.Env) (s : Shared) (H : Hp) (vs : List V) (Q : VK) (E : XK), Room k (A.deeper (PyProof.Rows.envOfC qual (defScope st) s.heap.objs.size f cdv)) → sp vs H Q E →
      ∃ t, PSs (cxOf (L2N.CX P w) P w K mg base N qual (defScope st) f cdv A outer s H E) (defBody st) t ∧ t { nx := fun _ H' => Q .non H', rt := Q } (start N vs) H) : FnOk P w K mg base (L2N.CX P w) (k + 1) f fd ps sp := by
  obtain ⟨oc, od, kV, doc, pm, an, cdv, ct, osl, rfl, lk, hcd⟩ := F.ex
  exact fn_of lk hcd S len fun A outer s H vs Q E hr hsp => hb cdv A outer s H vs Q E hr hsp
theorem takes0N {X : Cx} : L2N.Takes X (fun _ _ _ _ => False) := fun _ _ x => by
  obtain ⟨_, _, _, _, _, _, _, _, _, _, _, _, _, _, _, _, z⟩ := x
  exact z.elim
/-- what is wanted of exceptions in a def's body -/
abbrev WD (E : XK) : WX := fun cls d _ H => E cls d H
theorem spM_body {G : Wd} {n : Nat} {fb : SDen} {vs : List V} {H : Hp} {Q : VK} {E : XK} {N : List Str} (hN : n ≤ N.length) (h : spM G n (dFn n N.length fb) vs H Q E) :
    tMS G (WD E) fb { nx := fun _ H' => Q .non H', rt := Q } (start N vs) H := by
  obtain ⟨hl, Z, ss, st, L, ok, r, q⟩ := h
  have hss : ss.length = n := by rw [r.length]; exact hl
  refine ⟨Z, ss.map some ++ List.replicate (N.length - n) none, st, L, ⟨ok, ?_⟩, ?_⟩
  · rw [← hl]
    exact env_start r (by omega)
  · unfold dFn at q
    rw [if_pos hss] at q
    revert q
    cases fb (ss.map some ++ List.replicate (N.length - n) none) st with
    | stuck => exact fun q => q
    | brk ρ s => exact fun q => q.elim
    | cont ρ s => exact fun q => q.elim
    | next ρ s' =>
      intro q σ' H' L' f' S'
      unfold cutOff at q
      by_cases hc : (s'.take st.length).all (O.refsBelow st.length) = true
      · dsimp only at q
        rw [if_pos hc] at q
        obtain ⟨f2, e⟩ := f'.cut ok
        have o2 := S'.ok.cut hc
        exact q .non H' _ f2 o2 .non
      · dsimp only at q
        rw [if_neg hc] at q
        exact q.elim
    | ret d s' =>
      intro q v H' L' f' o' r'
      unfold cutOff at q
      by_cases hc : (s'.take st.length).all (O.refsBelow st.length) = true
      · dsimp only at q
        rw [if_pos hc] at q
        obtain ⟨f2, e⟩ := f'.cut ok
        exact q v H' _ f2 (o'.cut hc) (r'.zone fun a z => zof_take z)
      · dsimp only at q
        rw [if_neg hc] at q
        exact q.elim
    | exc c fs ρ s' =>
      intro q σ' H' L' C dd vfs f' S' hC hd hr'
      unfold cutOff at q
      by_cases hc : (s'.take st.length).all (O.refsBelow st.length) = true
      · dsimp only at q
        rw [if_pos hc] at q
        obtain ⟨f2, e⟩ := f'.cut ok
        exact q H' _ C dd vfs f2 (S'.ok.cut hc) hC (hd.zone fun a z => zof_take z) (hr'.mono fun a o e z => ⟨.of e, fun q => z (zof_take q)⟩)
      · dsimp only at q
        rw [if_neg hc] at q
        exact q.elim
theorem fn_M {x qual : Str} {s : Stmt} {f : Addr} {fd : FuncData} {N ps : List Str} {k n : Nat} {fb : SDen} (F : Fun K x qual s f fd) (S : FnScope N ps (defScope s)) (hn : ps.length = n) (hN : n ≤ N.length)
    (hbody : ∀ (cdv : Value) (A : Around) (outer : List PySem.Env) (sh : Shared) (H : Hp) (E : XK), Room k (A.deeper (PyProof.Rows.envOfC qual (defScope s) sh.heap.objs.size f cdv)) →
      L2N.Takes (cxOf (L2N.CX P w) P w K mg base N qual (defScope s) f cdv A outer sh H E) (WD E) → PassesOwn (model P w) (A.deeper (PyProof.Rows.envOfC qual (defScope s) sh.heap.objs.size f cdv)) (PyProof.Rows.envOfC qual (defScope s) sh.heap.objs.size f cdv) (cxOf (L2N.CX P w) P w K mg base N qual (defScope s) f cdv A outer sh H E).xe →
      MSs G (WD E) (cxOf (L2N.CX P w) P w K mg base N qual (defScope s) f cdv A outer sh H E) (defBody s) fb) : FnOk P w K mg base (L2N.CX P w) (k + 1) f fd ps (spM G n (dFn n N.length fb)) := by
  exact okXN F S (fun vs H Q E h => by rw [hn]; exact h.1) fun cdv A outer sh H vs Q E hr h => ⟨_, hbody cdv A outer sh H E hr (L2N.takes_of rfl rfl rfl rfl) (passes_of rfl), spM_body hN h⟩
theorem cal_M {x : Str} {s : Stmt} {f : Addr} {fd : FuncData} {ps : List Str} {k n : Nat} {dn : FD} (F : Fun K x x s f fd) (h : FnOk P w K mg base (L2N.CX P w) k f fd ps (spM G n dn)) (hm : mg x = some (.ref f)) (b : Binds K fd ps []) : MCal P w K mg base G k x n dn := ⟨f, fd, ps, h, hm, F.kp, b⟩
theorem MCal.mono {j k : Nat} {x : Str} {n : Nat} {dn : FD} (c : MCal P w K mg base G j x n dn) (h : j ≤ k) : MCal P w K mg base G k x n dn := by
  obtain ⟨f, fd, ps, F, r⟩ := c.ex
  exact ⟨f, fd, ps, F.mono h, r⟩
end

/-! ### calls that hand on things of one's own -/
abbrev DenS := Env → Sto → Res (List S)
@[simp] def aNil : DenS := fun _ st => .ok [] st
@[simp] def aVal (f : Den) (h : DenS) : DenS := fun ρ st => (f ρ st).bind fun d st => (h ρ st).bind fun ds st => .ok (.p d :: ds) st
@[simp] def aRef (i : Nat) (h : DenS) : DenS := fun ρ st => match ρ[i]? with | some (some s) => (h ρ st).bind fun ds st => .ok (s :: ds) st | _ => .stuck
@[simp] def eCallS (n : Nat) (dn : FD) (f : DenS) : Den := fun ρ st => (f ρ st).bind fun ss st => if ss.length = n then dn ss st else .stuck
def PostA (G : Wd) (Z : Zone) (W : WX) (σ : St) (L : List Addr) (st : Sto) (H : Hp) (r : Res (List S)) (Q : List V → Hp → Prop) : Prop := match r with
  | .ok d st' => ∀ v H' L', Fw Z L st H L' st' H' → StOk G Z L' st' H' → SReps G (Zof Z L' st') H' L' d v → Q v H'
  | .exc c fs st' => ExP G Z L st H c fs st' fun cv dd H' => W cv dd σ H'
  | .stuck => False
def tMAS (G : Wd) (W : WX) (f : DenS) : TA := fun σ H Q => ∃ Z ρ st L, Stt G Z ρ st L σ H ∧ PostA G Z W σ L st H (f ρ st) Q
abbrev MAS (G : Wd) (W : WX) (X : Cx) (es : List Expr) (f : DenS) : Prop := PA X es (tMAS G W f)
section
variable {G : Wd} {W : WX} {X : Cx} {Z Z' : Zone} {H H' : Hp} {L L' : List Addr} {st st' : Sto} {e : Expr} {es : List Expr} {pos : Pos}
theorem PostA.on {σ : St} {r : Res (List S)} {Q : List V → Hp → Prop} (f : Fw Z L st H L' st' H') (h : PostA G Z W σ L st H r Q) : PostA G Z W σ L' st' H' r Q := by
  cases r with
  | ok d s => exact fun v H2 L2 g o r => h v H2 L2 (f.trans g) o r
  | exc c fs s => exact ExP.on (P := fun cv dd H' => W cv dd σ H') f h
  | stuck => exact h
theorem PostA.bind {α β : Type} {R : Zone → Hp → α → β → Prop} {σ : St} {r : Res α} {k : α → Sto → Res (List S)} {Q' : List V → Hp → Prop} {Q : β → Hp → Prop}
    (h : PostA G Z W σ L st H (r.bind k) Q') (hk : ∀ d st1 v H1 L1, r = .ok d st1 → Fw Z L st H L1 st1 H1 → StOk G Z L1 st1 H1 → R (Zof Z L1 st1) H1 d v → PostA G Z W σ L1 st1 H1 (k d st1) Q' → Q v H1) : PostR G Z W R σ L st H r Q := by
  cases r with
  | ok d st1 => exact fun v H1 L1 f o rv => hk d st1 v H1 L1 rfl f o rv (PostA.on f h)
  | exc c fs st1 => exact h
  | stuck => exact h
theorem PostA.bindA {σ : St} {r : Res (List S)} {k : List S → Sto → Res (List S)} {Q' Q : List V → Hp → Prop}
    (h : PostA G Z W σ L st H (r.bind k) Q') (hk : ∀ d st1 v H1 L1, r = .ok d st1 → Fw Z L st H L1 st1 H1 → StOk G Z L1 st1 H1 → SReps G (Zof Z L1 st1) H1 L1 d v → PostA G Z W σ L1 st1 H1 (k d st1) Q' → Q v H1) : PostA G Z W σ L st H r Q := by
  cases r with
  | ok d st1 => exact fun v H1 L1 f o rv => hk d st1 v H1 L1 rfl f o rv (PostA.on f h)
  | exc c fs st1 => exact h
  | stuck => exact h
theorem mas_nil : MAS G W X [] aNil := PA.imp pa_nil fun σ H Q q => by
  obtain ⟨Z, ρ, st, L, S, q⟩ := q
  exact q _ H L Fw.refl S.ok .nil
theorem mas_val {f : Den} {h : DenS} (ha : ME G W X e f) (hr : MAS G W X es h) (hs : starEach (e :: es) X.env = (false, eval e X.env) :: starEach es X.env := by rfl) : MAS G W X (e :: es) (aVal f h) := PA.imp (pa_cons ha hr hs) fun σ H Q q => by
  obtain ⟨Z, ρ, st, L, S, q⟩ := q
  refine ⟨Z, ρ, st, L, S, PostA.bind q fun d st1 x H1 L1 e f1 o1 r1 q1 => ?_⟩
  refine ⟨Z, ρ, st1, L1, S.to f1 o1, PostA.bindA q1 fun d2 st2 y H2 L2 e2 f2 o2 r2 q2 => ?_⟩
  exact q2 _ H2 L2 Fw.refl o2 (.cons (.p (r1.mono f2.keeps)) r2)
theorem mas_ref {x : Str} {i : Nat} {h : DenS} {p : Pos} (hv : PE X (.Name x p) (tVar i)) (hr : MAS G W X es h) (hs : starEach ((.Name x p) :: es) X.env = (false, eval (.Name x p) X.env) :: starEach es X.env := by rfl) : MAS G W X ((.Name x p) :: es) (aRef i h) := PA.imp (pa_cons hv hr hs) fun σ H Q q => by
  obtain ⟨Z, ρ, st, L, S, q⟩ := q
  unfold aRef at q
  split at q
  · rename_i s es
    obtain ⟨v, ev, rv⟩ := S.env.2 i _ es
    refine ⟨v, ev, Z, ρ, st, L, S, PostA.bindA q fun d2 st2 y H2 L2 e2 f2 o2 r2 q2 => ?_⟩
    exact q2 _ H2 L2 Fw.refl o2 (.cons (rv.mono f2) r2)
  · exact q.elim
theorem me_callS {k : Nat} {x : Str} {n : Nat} {dn : FD} {p pos : Pos} {f : DenS} (c : MCal X.prog X.w X.K X.mg X.base G k x n dn) (hr : Room k X.A) (tk : L2N.Takes X W) (ha : MAS G W X (e :: es) f) (hg : Gl X x := by rfl)
    (hdb : (x == ("__debug__" : Str)) = false := by decide) (he : starEach (e :: es) X.env = (false, eval e X.env) :: starEach es X.env := by rfl) (hpl : (backTo pos (starEach es X.env)).any (·.1) = false := by rfl) :
    ME G W X (.Call (.Name x p) (e :: es) [] pos) (eCallS n dn f) := by
  obtain ⟨fa, fd, ps, F, hm, kp, b⟩ := c.ex
  refine PE.imp (pe_callS (E := WE W) F hr hg hm kp b (fun σ => L2N.passAt tk σ) ha hdb he hpl) fun σ H Q q => ?_
  obtain ⟨Z, ρ, st, L, S, q⟩ := q
  refine ⟨Z, ρ, st, L, S, ?_⟩
  unfold eCallS at q
  revert q
  cases f ρ st with
  | stuck => exact fun q => q
  | exc c fs s => exact fun q => q
  | ok ss st1 =>
    intro q vs H1 L1 f1 o1 r1
    have q : PostR G Z W (RD G) σ L st H (if ss.length = n then dn ss st1 else .stuck) Q := q
    by_cases hn : ss.length = n
    · rw [if_pos hn] at q
      refine ⟨by rw [← r1.length]; exact hn, Z, ss, st1, L1, o1, r1, ?_⟩
      revert q
      cases dn ss st1 with
      | stuck => exact fun q => q
      | ok d s => exact fun q v H2 L2 g o r => q v H2 L2 (f1.trans g) o r
      | exc c fs s => exact fun q => ExP.on (P := fun cv dd H' => W cv dd σ H') f1 q
    · rw [if_neg hn] at q
      exact q.elim
end

/-! ### lists of one's own made by display, by * -/
@[simp] noncomputable def nLst (f : DenL) : Env → Sto → Res O := fun ρ st => (f ρ st).bind fun ds st => if ds.length ≤ sizeLine then .ok (.lst ds) st else .stuck
section
variable {G : Wd} {W : WX} {X : Cx} {Z Z' : Zone} {H H' : Hp} {L L' : List Addr} {st st' : Sto} {e : Expr} {es : List Expr} {pos : Pos}
theorem FwN.mk_new {p : Addr} {o : HO} {L0 : List Addr} {st0 : Sto} {H0 : Hp} (f : Fw Z L0 st0 H0 L st H) (S : StOk G Z L st H) (h : H p = none) : FwN G Z L0 st0 H0 L st (upd H p o) p :=
  ⟨f.trans (Fw.same (same_new h)), S.enter h, by
    cases q : H0 p with
    | none => rfl
    | some u => exact absurd h (f.there p (by rw [q]; simp))⟩
theorem mn_lst {f : DenL} (h : MA G W X es f) : MN G W X (.List es pos) (nLst f) := PE.imp (pe_lst h) fun σ H Q q => by
  obtain ⟨Z, ρ, st, L, S, q⟩ := q
  refine ⟨Z, ρ, st, L, S, ?_⟩
  unfold nLst at q
  revert q
  cases f ρ st with
  | stuck => exact fun q => q
  | exc c fs s => exact fun q => q
  | ok ds st1 =>
    intro q xs H1 L1 f1 o1 r1
    have q : match (if ds.length ≤ sizeLine then .ok (.lst ds) st1 else .stuck : Res O) with
      | .ok o st' => ∀ p H' L', FwN G Z L st H L' st' H' p → OOk G (Zof (fun a => Z a ∨ a = p) L' st') H' L' p o → Q (.ref p) H'
      | .exc c fs st' => ExP G Z L st H c fs st' fun cv dd H' => W cv dd σ H'
      | .stuck => False := q
    by_cases hz : ds.length ≤ sizeLine
    · rw [if_pos hz] at q
      exact ⟨by rw [← r1.length]; exact hz, fun p hp => q p _ L1 (FwN.mk_new f1 o1 hp) ⟨xs, upd_same, r1.mono (keeps_new hp)⟩⟩
    · rw [if_neg hz] at q
      exact q.elim
/-- xs * n, a list of one's own -/
noncomputable def repO (d e : D) : Option O := match d, e with
  | .lst xs, .int k => if k < 4611686018427387904 ∧ -4611686018427387904 < k ∧ xs.length * k.toNat ≤ sizeLine then some (.lst (List.replicate k.toNat xs).flatten) else none
  | _, _ => none
@[simp] noncomputable def nRep (f h : Den) : Env → Sto → Res O := fun ρ st => (f ρ st).bind fun d st => (h ρ st).bind fun e st => match repO d e with | some o => .ok o st | none => .stuck

theorem mn_rep {a b : Expr} {f h : Den} (ha : ME G W X a f) (hb : ME G W X b h) : MN G W X (.BinOp a .Mult b pos) (nRep f h) := PE.imp (pe_op op_repR ha hb) fun σ H Q q => by
  obtain ⟨Z, ρ, st, L, S, q⟩ := q
  refine ⟨Z, ρ, st, L, S, ?_⟩
  unfold nRep at q
  revert q
  cases f ρ st with
  | stuck => exact fun q => q
  | exc c fs s => exact fun q => q
  | ok d st1 =>
    intro q x H1 L1 f1 o1 r1
    refine ⟨Z, ρ, st1, L1, S.to f1 o1, ?_⟩
    have q : match ((h ρ st1).bind fun e st => match repO d e with | some o => .ok o st | none => .stuck : Res O) with
      | .ok o st' => ∀ p H' L', FwN G Z L st H L' st' H' p → OOk G (Zof (fun a => Z a ∨ a = p) L' st') H' L' p o → Q (.ref p) H'
      | .exc c fs st' => ExP G Z L st H c fs st' fun cv dd H' => W cv dd σ H'
      | .stuck => False := q
    revert q
    cases h ρ st1 with
    | stuck => exact fun q => q.elim
    | exc c fs s => exact fun q => ExP.on (P := fun cv dd H' => W cv dd σ H') f1 q
    | ok e st2 =>
      intro q y H2 L2 f2 o2 r2
      have r1 := r1.mono f2.keeps
      have q : match (match repO d e with | some o => .ok o st2 | none => .stuck : Res O) with
        | .ok o st' => ∀ p H' L', FwN G Z L st H L' st' H' p → OOk G (Zof (fun a => Z a ∨ a = p) L' st') H' L' p o → Q (.ref p) H'
        | .exc c fs st' => ExP G Z L st H c fs st' fun cv dd H' => W cv dd σ H'
        | .stuck => False := q
      cases er : repO d e with
      | none => rw [er] at q; exact q.elim
      | some o =>
        rw [er] at q
        have q : ∀ p H' L', FwN G Z L st H L' st2 H' p → OOk G (Zof (fun a => Z a ∨ a = p) L' st2) H' L' p o → Q (.ref p) H' := q
        unfold repO at er
        split at er
        · split at er
          · rename_i hz
            cases er
            obtain ⟨a, vs, rfl, ha, ra⟩ := r1.list'
            have l1 := ra.length
            exact ⟨a, _, vs, rfl, r2.int', ha, by omega, by omega, by rw [← l1]; exact hz.2.2, fun p hp => q p _ L2 (FwN.mk_new (f1.trans f2) o2 hp) ⟨_, upd_same, (ra.rep _).mono (keeps_new hp)⟩⟩
          · cases er
        · cases er
/-- a new thing of one's own as an argument, as a part of a parallel assignment -/
@[simp] def aNew (f : Env → Sto → Res O) (h : DenS) : DenS := fun ρ st => (f ρ st).bind fun o st => (h ρ (st ++ [o])).bind fun ds st2 => .ok (.r st.length :: ds) st2
theorem mas_new {f : Env → Sto → Res O} {h : DenS} (ha : MN G W X e f) (hr : MAS G W X es h) (hs : starEach (e :: es) X.env = (false, eval e X.env) :: starEach es X.env := by rfl) : MAS G W X (e :: es) (aNew f h) := PA.imp (pa_cons ha hr hs) fun σ H Q q => by
  obtain ⟨Z, ρ, st, L, S, q⟩ := q
  refine ⟨Z, ρ, st, L, S, ?_⟩
  unfold aNew at q
  revert q
  cases f ρ st with
  | stuck => exact fun q => q
  | exc c fs s => exact fun q => q
  | ok o st1 =>
    intro q p H1 L1 fn ok
    obtain ⟨f2, o2, e2⟩ := alloc S fn ok
    have q2 : PostA G Z W σ (L1 ++ [p]) (st1 ++ [o]) H1 ((h ρ (st1 ++ [o])).bind fun ds st2 => .ok (.r st1.length :: ds) st2) Q := PostA.on f2 q
    refine ⟨Z, ρ, st1 ++ [o], L1 ++ [p], ⟨o2, e2⟩, PostA.bindA q2 fun ds st2 y H2 L2 e2 f3 o3 r3 q3 => ?_⟩
    refine q3 _ H2 L2 Fw.refl o3 (.cons (.r (f3.get ?_)) r3)
    rw [← fn.ok.len, List.getElem?_append_right (Nat.le_refl _)]
    simp
/-! ### parallel assignments to names -/
def setAll : List Nat → List S → Env → Option Env
  | [], [], ρ => some ρ
  | i :: is, s :: ss, ρ => setAll is ss (ρ.set i (some s))
  | _, _, _ => none
@[simp] def sPar (is : List Nat) (f : DenS) : SDen := fun ρ st => sOf f (fun ss ρ st => match setAll is ss ρ with | some ρ => .next ρ st | none => .stuck) ρ st
theorem PostA.ofS {σ : St} {ρ : Env} {f : DenS} {K : List S → Env → Sto → SRes} {E : Ends} {Q : List V → Hp → Prop} (SS : Stt G Z ρ st L σ H) (h : PostS G Z W L st H (sOf f K ρ st) E)
    (hk : ∀ d st1 v H1 L1, f ρ st = .ok d st1 → Fw Z L st H L1 st1 H1 → Stt G Z ρ st1 L1 σ H1 → SReps G (Zof Z L1 st1) H1 L1 d v → PostS G Z W L1 st1 H1 (K d ρ st1) E → Q v H1) : PostA G Z W σ L st H (f ρ st) Q := by
  unfold sOf at h
  revert h hk
  cases f ρ st with
  | ok d st1 => exact fun h hk v H1 L1 f o rv => hk d st1 v H1 L1 rfl f (SS.to f o) rv (PostS.on f h)
  | exc c fs st1 => exact fun h hk H' L' C dd vfs f o hC hd hr => h σ H' L' C dd vfs f (SS.to f o) hC hd hr
  | stuck => exact fun h hk => h
/-- names set one after another from the left -/
def gsNames : List Nat → TGs
  | [] => gNil
  | i :: is => gCons (gName i) (gsNames is)
theorem gs_names : ∀ {is : List Nat} {ss : List S} {vs : List V} {ρ ρ' : Env} {σ : St} {Z : Zone} {H : Hp} {L : List Addr} {Q : St → Hp → Prop}, EnvOk G Z H L ρ σ → SReps G Z H L ss vs → setAll is ss ρ = some ρ' → (∀ σ', EnvOk G Z H L ρ' σ' → Q σ' H) → gsNames is vs σ H Q
  | [], [], _, ρ, ρ', σ, _, _, _, _, E, .nil, e, q => by
    cases e
    exact ⟨rfl, q σ E⟩
  | i :: is, s :: ss, _, ρ, ρ', σ, Z, H, L, Q, E, .cons r t, e, q => by
    refine ⟨_, _, rfl, ?_⟩
    exact gs_names (E.set i r) t e q
  | [], _ :: _, _, _, _, _, _, _, _, _, _, _, e, _ => by cases e
  | _ :: _, [], _, _, _, _, _, _, _, _, _, _, e, _ => by cases e
theorem ms_parT {ts : List Expr} {f : DenS} {is : List Nat} {k k2 : Nat} {p1 p2 : Pos} {n : Nat} (hK : G.K = X.K) (hc : X.calm = true) (ha : MAS G W X es f) (hg : PGs X ts (gsNames is)) (hn : (assignEach ts X.env).length = n := by rfl) (hst : (assignEach ts X.env).findIdx? (·.1) = none := by rfl) (hlen : is.length = n := by rfl)
    (hs : swapsWithSole [.Tuple ts k p1] (.Tuple es k2 p2) pos.line X.env = pure false := by rfl) (hw : swappedStores [.Tuple ts k p1] (.Tuple es k2 p2) X.env = pure none := by rfl)
    (h1 : (assignEach [.Tuple ts k p1] X.env).map (·.2) = [assign (.Tuple ts k p1) X.env] := by rfl) (hsz : is.length ≤ sizeLine := by rw [sizeLine_eq]; decide) : MS G W X (.Assign [.Tuple ts k p1] (.Tuple es k2 p2) pos) (sPar is f) := PS.imp (ps_asg (pe_tup ha) (pg_tup hc hg hn hst) hs hw h1) fun E σ H q => by
  obtain ⟨Z, ρ, st, L, S, q⟩ := q
  refine ⟨Z, ρ, st, L, S, PostA.ofS (K := fun ss ρ st => match setAll is ss ρ with | some ρ => .next ρ st | none => .stuck) S q fun ss st1 v H1 L1 e1 f1 S1 r1 q1 => ?_⟩
  have q1 : PostS G Z W L1 st1 H1 (match setAll is ss ρ with | some ρ => .next ρ st1 | none => .stuck) E := q1
  split at q1
  · rename_i ρ' eg
    have hl : ∀ (is : List Nat) (ss : List M.S) (ρ ρ' : Env), setAll is ss ρ = some ρ' → ss.length = is.length := by
      intro is
      induction is with
      | nil => intro ss ρ ρ' e; cases ss with | nil => rfl | cons _ _ => cases e
      | cons i is ih => intro ss ρ ρ' e; cases ss with | nil => cases e | cons s ss => exact congrArg (· + 1) (ih ss _ _ e)
    have l1 := hl is ss ρ ρ' eg
    have l2 := r1.length
    refine ⟨by omega, fun p hp => ⟨p, v, rfl, .inl (.inl upd_same), by omega, ?_⟩⟩
    have sm := same_new (o := .tup v) hp
    have f2 : Fw Z L1 st1 H1 L1 st1 (upd H1 p (.tup v)) := Fw.same sm
    exact gs_names (S1.env.mono f2) (r1.mono f2) eg fun σ' E' => q1 σ' _ L1 f2 ⟨S1.ok.same sm, E'⟩
  · exact q1.elim
theorem ms_par2 {i j : Nat} {x y : Str} {a b : Expr} {px py pt : Pos} {kt k2 pt2} {f : DenS} (hc : X.calm = true) (hN : X.N.Nodup) (ha : MAS G W X [a, b] f) (hi : X.N[i]? = some x := by rfl) (hj : X.N[j]? = some y := by rfl) (hij : i ≠ j := by decide)
    (hx : X.env.scope.names.lookup x = some .local := by rfl) (hy : X.env.scope.names.lookup y = some .local := by rfl)
    (hw : swappedStores [.Tuple [.Name x px, .Name y py] kt pt] (.Tuple [a, b] k2 pt2) X.env = pure (some [x, y]) := by rfl)
    (hs : swapsWithSole [.Tuple [.Name x px, .Name y py] kt pt] (.Tuple [a, b] k2 pt2) pos.line X.env = pure false := by rfl) :
    MS G W X (.Assign [.Tuple [.Name x px, .Name y py] kt pt] (.Tuple [a, b] k2 pt2) pos) (sPar [i, j] f) := PS.imp (ps_par hc hN hi hj hij hx hy ha hw hs) fun E σ H q => by
  obtain ⟨Z, ρ, st, L, S, q⟩ := q
  refine ⟨Z, ρ, st, L, S, PostA.ofS (K := fun ss ρ st => match setAll [i, j] ss ρ with | some ρ => .next ρ st | none => .stuck) S q fun ss st1 v H1 L1 e1 f1 S1 r1 q1 => ?_⟩
  have q1 : PostS G Z W L1 st1 H1 (match setAll [i, j] ss ρ with | some ρ => .next ρ st1 | none => .stuck) E := q1
  match ss, r1, q1 with
  | [s1, s2], .cons r1 (.cons r2 .nil), q1 => exact ⟨_, _, rfl, q1 _ H1 L1 Fw.refl ⟨S1.ok, (S1.env.set i r1).set j r2⟩⟩
  | [], _, q1 => exact q1.elim
  | [_], _, q1 => exact q1.elim
  | _ :: _ :: _ :: _, _, q1 => exact q1.elim
theorem ms_par3 {i j l : Nat} {x y z : Str} {a b c : Expr} {px py pz pt : Pos} {kt k2 pt2} {f : DenS} (hc : X.calm = true) (hN : X.N.Nodup) (ha : MAS G W X [a, b, c] f) (hi : X.N[i]? = some x := by rfl) (hj : X.N[j]? = some y := by rfl) (hl : X.N[l]? = some z := by rfl) (hij : i ≠ j := by decide) (hil : i ≠ l := by decide) (hjl : j ≠ l := by decide)
    (hx : X.env.scope.names.lookup x = some .local := by rfl) (hy : X.env.scope.names.lookup y = some .local := by rfl) (hz : X.env.scope.names.lookup z = some .local := by rfl)
    (hw : swappedStores [.Tuple [.Name x px, .Name y py, .Name z pz] kt pt] (.Tuple [a, b, c] k2 pt2) X.env = pure (some [x, y, z]) := by rfl)
    (hs : swapsWithSole [.Tuple [.Name x px, .Name y py, .Name z pz] kt pt] (.Tuple [a, b, c] k2 pt2) pos.line X.env = pure false := by rfl) :
    MS G W X (.Assign [.Tuple [.Name x px, .Name y py, .Name z pz] kt pt] (.Tuple [a, b, c] k2 pt2) pos) (sPar [i, j, l] f) := PS.imp (ps_par3 hc hN hi hj hl hij hil hjl hx hy hz ha hw hs) fun E σ H q => by
  obtain ⟨Z, ρ, st, L, S, q⟩ := q
  refine ⟨Z, ρ, st, L, S, PostA.ofS (K := fun ss ρ st => match setAll [i, j, l] ss ρ with | some ρ => .next ρ st | none => .stuck) S q fun ss st1 v H1 L1 e1 f1 S1 r1 q1 => ?_⟩
  have q1 : PostS G Z W L1 st1 H1 (match setAll [i, j, l] ss ρ with | some ρ => .next ρ st1 | none => .stuck) E := q1
  match ss, r1, q1 with
  | [s1, s2, s3], .cons r1 (.cons r2 (.cons r3 .nil)), q1 => exact ⟨_, _, _, rfl, q1 _ H1 L1 Fw.refl ⟨S1.ok, ((S1.env.set i r1).set j r2).set l r3⟩⟩
  | [], _, q1 => exact q1.elim
  | [_], _, q1 => exact q1.elim
  | [_, _], _, q1 => exact q1.elim
  | _ :: _ :: _ :: _ :: _, _, q1 => exact q1.elim
/-- a constant of the module -/
theorem me_glob {x : Str} {d : D} {v : V} {u : Value} {p : Pos} (hm : X.mg x = some u) (r : RelV v u) (rd : ∀ Z H, Rep G Z H d v) (hg : Gl X x := by rfl) (hd : (x == ("__debug__" : Str)) = false := by decide) : ME G W X (.Name x p) (eC d) := me_c (pe_glob hg hm r hd) rd
theorem me_gint {x : Str} {i : Int} {t : Tok} {p : Pos} (hm : X.mg x = some (.int i t)) (hg : Gl X x := by rfl) (hd : (x == ("__debug__" : Str)) = false := by decide) : ME G W X (.Name x p) (eC (.int i)) := me_c (pe_glob (v := .int i) hg hm ⟨_, rfl⟩ hd) fun _ _ => .int i
theorem me_gstr {x : Str} {i : Str} {t : Tok} {p : Pos} (hm : X.mg x = some (.str i t)) (hg : Gl X x := by rfl) (hd : (x == ("__debug__" : Str)) = false := by decide) : ME G W X (.Name x p) (eC (.str i)) := me_c (pe_glob (v := .str i) hg hm ⟨_, rfl⟩ hd) fun _ _ => .str i
/-- isinstance(e, (T1, T2)) -/
def dIsi2 (T U : String) (d : D) : Option D := (tyName d).bind fun n => (kitB n T).bind fun b => (kitB n U).map fun c => .bl (b || c)
theorem me_isi2 {T U : String} {y z : Str} {p py pz pt : Pos} {k : Nat} {f : Den} (hK : G.K = X.K) (hm : X.mg "isinstance" = none) (hv : bootBuiltins y = some (.type T)) (hv2 : bootBuiltins z = some (.type U)) (hmy : X.mg y = none) (hmz : X.mg z = none) (ha : ME G W X e f)
    (hgy : Gl X y := by rfl) (hny : y ≠ "__name__" := by decide) (hdby : (y == ("__debug__" : Str)) = false := by decide) (hgz : Gl X z := by rfl) (hnz : z ≠ "__name__" := by decide) (hdbz : (z == ("__debug__" : Str)) = false := by decide) (hg : Gl X "isinstance" := by rfl)
    (hs : starEach [e, .Tuple [.Name y py, .Name z pz] k pt] X.env = (false, eval e X.env) :: starEach [.Tuple [.Name y py, .Name z pz] k pt] X.env := by rfl) (hs2 : starEach [.Tuple [.Name y py, .Name z pz] k pt] X.env = (false, eval (.Tuple [.Name y py, .Name z pz] k pt) X.env) :: starEach [] X.env := by rfl)
    (hs3 : starEach [.Name y py, .Name z pz] X.env = (false, eval (.Name y py) X.env) :: starEach [.Name z pz] X.env := by rfl) (hs4 : starEach [.Name z pz] X.env = (false, eval (.Name z pz) X.env) :: starEach [] X.env := by rfl)
    (hpl : (backTo pos (starEach [.Tuple [.Name y py, .Name z pz] k pt] X.env)).any (·.1) = false := by rfl) :
    ME G W X (.Call (.Name "isinstance" p) [e, .Tuple [.Name y py, .Name z pz] k pt] [] pos) (eOp1 (dIsi2 T U) f) :=
  PE.imp (pe_callB call_isiT hg hm (by decide +kernel) (pa_cons ha (pa_cons (pe_tup (pa_cons (pe_bltn (v := .ty T) hgy hmy hv rfl hny hdby) (pa_cons (pe_bltn (v := .ty U) hgz hmz hv2 rfl hnz hdbz) pa_nil hs4) hs3)) pa_nil hs2) hs) (by decide) (by decide) hs hpl) fun σ H Q q => by
    obtain ⟨Z, ρ, st, L, S, q⟩ := q
    refine ⟨Z, ρ, st, L, S, PostR.bind q fun d st1 x H1 L1 e f1 o1 r1 q1 => ?_⟩
    refine ⟨by show 2 ≤ sizeLine; rw [sizeLine_eq]; omega, fun t ht => ?_⟩
    split at q1
    · rename_i w ez
      unfold dIsi2 at ez
      obtain ⟨n, h1, h2⟩ := Option.bind_eq_some_iff.mp ez
      obtain ⟨b, h3, h4⟩ := Option.bind_eq_some_iff.mp h2
      obtain ⟨c, h5, h6⟩ := Option.map_eq_some_iff.mp h4
      subst h6
      have sm := same_new (o := .tup [.ty T, .ty U]) ht
      refine ⟨_, t, [.ty T, .ty U], .type n, [.type T, .type U], b || c, rfl, upd_same, .cons (.ty T) (.cons (.ty U) .nil), View.tyx hK (.rep (r1.mono (Same.keeps sm))) h1, ?_, q1 _ _ L1 (Fw.same sm) (o1.same sm) (.bl _)⟩
      refine kitAny_cons (kit_ty h3) (fun hb => ?_) (fun hb => by rw [hb]; rfl)
      refine kitAny_cons (kit_ty h5) (fun hc => ?_) (fun hc => by rw [hb, hc]; rfl)
      rw [hb, hc]
      exact kitAny_nil
    · exact q1.elim
end

/-! ### for the printed derivations -/
section
variable {G : Wd} {W : WX} {X : Cx}
theorem hu65 {k : Nat} {A : Around} (r : Room k A) : A.units + 65 < cLine := by have := r.un; omega
theorem hu64 {k : Nat} {A : Around} (r : Room k A) : A.units + 64 < cLine := r.units
theorem gsim_name {vs : List Nat} (i : Nat) (hv : i ∈ vs := by decide) : GSim G (gName i) (gN i) vs := fun Z H L d v ρ σ ρ' Q E r e q => by
  cases e
  exact q _ (E.set i (.p r)) (wipe_set hv)
theorem gssim_nil {vs : List Nat} : GsSim G gNil gsNil vs := fun Z H L d v ρ σ ρ' Q E r e q => by
  cases r with
  | nil => cases e; exact ⟨rfl, q σ E rfl⟩
  | cons _ _ => cases e
theorem gssim_cons {ga : TG} {gb : TGs} {g : GD} {h : List D → Env → Option Env} {vs : List Nat} (a2 : GSim G ga g vs) (b2 : GsSim G gb h vs) : GsSim G (gCons ga gb) (gsCons g h) vs := fun Z H L d v ρ σ ρ' Q E r e q => by
  cases r with
  | nil => cases e
  | cons r t =>
    obtain ⟨ρ1, e1, e2⟩ := Option.bind_eq_some_iff.mp e
    refine ⟨_, _, rfl, a2 _ _ _ _ _ _ _ ρ1 _ E r e1 fun σ1 E1 w1 => ?_⟩
    exact b2 _ _ _ _ _ _ _ ρ' _ E1 t e2 fun σ2 E2 w2 => q σ2 E2 (w2.trans w1)
theorem gsim_tup {ga : TGs} {g : List D → Env → Option Env} {vs : List Nat} {n : Nat} {K : PySem.W.Frag} (hK : G.K = K) (a2 : GsSim G ga g vs) : GSim G (gTup K n ga) (gT g n) vs := fun Z H L d v ρ σ ρ' Q E r e q => by
  unfold gT at e
  split at e
  · split at e
    · rename_i ds hl
      obtain ⟨a, ws, rfl, ha, ra⟩ := r.tup'
      exact ⟨a, ws, rfl, hK ▸ ha, by rw [← ra.length]; exact hl, a2 _ _ _ _ _ _ _ ρ' _ E ra e q⟩
    · cases e
  · cases e
end

section
variable {G : Wd} {W : WX} {X : Cx} {pos : Pos}
theorem own_of {f : Env → Sto → Res O} {σ : St} {H : Hp} {Q : VK} (q : tM G W (ePure f) σ H Q) : tMN G W f σ H Q := by
  obtain ⟨Z, ρ, st, L, S, q⟩ := q
  refine ⟨Z, ρ, st, L, S, ?_⟩
  cases ef : f ρ st with
  | stuck => simp only [ePure, ef, Res.bind] at q; exact q
  | exc c fs st1 => simp only [ePure, ef, Res.bind] at q; exact q
  | ok o st1 =>
    simp only [ePure, ef, Res.bind] at q
    intro p H1 L1 fn ok
    have o1 : StOk G Z L1 st1 H1 := fn.ok.shrink fun a z => .inl z
    have zp : ¬ Zof Z L1 st1 p := fun z => by
      rcases z with z | ⟨n, u, e1, _⟩
      · exact S.ok.z0 p z fn.new
      · exact fn.ok.zl p (List.mem_of_getElem? e1) (.inr rfl)
    have zz : ∀ a, Zof Z L1 st1 a → Zof (fun a => Z a ∨ a = p) L1 st1 a := zof_mono fun a z => .inl z
    cases o with
    | lst ds =>
      obtain ⟨vs, h1, h2⟩ := ok
      exact q _ H1 L1 fn.fr o1 (.lst (.inl h1) zp (h2.zone zz))
    | dic ds =>
      obtain ⟨kvs, h1, h2⟩ := ok
      exact q _ H1 L1 fn.fr o1 (.dK (.inl h1) zp (h2.zone zz))
    | diT ds =>
      obtain ⟨kvs, h1, h2⟩ := ok
      exact q _ H1 L1 fn.fr o1 (.dT (.inl h1) zp (h2.zone zz))
    | frz d => exact q _ H1 L1 fn.fr o1 (Rep.zone zz ok)
    | ins c fs => exact q.elim
    | rows ns => exact q.elim
    | dead => exact q.elim
theorem setQ {f : Den} {i : Nat} {σ : St} {H : Hp} {E : Ends} (q : tMS G W (sSet i f) E σ H) : tM G W f σ H fun x H1 => gName i x σ H1 E.nx := by
  obtain ⟨Z, ρ, st, L, S, q⟩ := q
  exact ⟨Z, ρ, st, L, S, PostR.bindS S q fun d st1 v H1 L1 e1 f1 S1 r1 q1 => q1 _ H1 L1 Fw.refl ⟨S1.ok, S1.env.set i (.p r1)⟩⟩
section
variable {tg elt iter : Expr} {ifs : List Expr} {scope : Scope} {own : List (Str × Nat)} {fi : DenL} {gm : GD} {ft : DenB} {fe : Den} {g : TG} {y : Str} {py spos : Pos}
theorem ms_setComp (i : Nat) (hc : X.calm = true) (hN : X.N.Nodup) (hi : MI G W X tg iter fi) (ok : BlkOk X.N X.env.scope scope own) (hsim : GSim G g gm (own.map (·.2)))
    (hg : ∀ (s : Shared) (H : Hp) (C : Addr) (cl : List (Str × Addr)) (fp : List Addr), PG (X.blk s H scope (compEnvC scope cl C X.env) fp) tg g) (ht : ∀ (s : Shared) (H : Hp) (C : Addr) (cl : List (Str × Addr)) (fp : List Addr), MTs G W0 (X.blk s H scope (compEnvC scope cl C X.env) fp) ifs ft)
    (he : ∀ (s : Shared) (H : Hp) (C : Addr) (cl : List (Str × Addr)) (fp : List Addr), ME G W0 (X.blk s H scope (compEnvC scope cl C X.env) fp) elt fe)
    (hsw : swapsWith (.ListComp elt [⟨tg, iter, ifs, 0⟩] scope pos) (some (.Name y py)) spos.line X.env = pure true) (hy : X.N[i]? = some y := by rfl) (hyl : X.env.scope.names.lookup y = some .local := by rfl) (hs : ∀ x, foldedSetIterable iter X.env x = pure x := by intro _; rfl) :
    MS G W X (.Assign [.Name y py] (.ListComp elt [⟨tg, iter, ifs, 0⟩] scope pos) spos) (sSet i (ePure (eComp fi gm ft fe (own.map (·.2))))) :=
  PS.imp (ps_setLc hc hN hy hyl hsw hi ok hg ht he hs) fun E σ H q => comp_core hsim (own_of (setQ q))
theorem ms_newComp (i : Nat) (hc : X.calm = true) (hN : X.N.Nodup) (hi : MI G W X tg iter fi) (ok : BlkOk X.N X.env.scope scope own) (hsim : GSim G g gm (own.map (·.2)))
    (hg : ∀ (s : Shared) (H : Hp) (C : Addr) (cl : List (Str × Addr)) (fp : List Addr), PG (X.blk s H scope (compEnvC scope cl C X.env) fp) tg g) (ht : ∀ (s : Shared) (H : Hp) (C : Addr) (cl : List (Str × Addr)) (fp : List Addr), MTs G W0 (X.blk s H scope (compEnvC scope cl C X.env) fp) ifs ft)
    (he : ∀ (s : Shared) (H : Hp) (C : Addr) (cl : List (Str × Addr)) (fp : List Addr), ME G W0 (X.blk s H scope (compEnvC scope cl C X.env) fp) elt fe)
    (hsw : swapsWith (.ListComp elt [⟨tg, iter, ifs, 0⟩] scope pos) (some (.Name y py)) spos.line X.env = pure true) (hy : X.N[i]? = some y := by rfl) (hyl : X.env.scope.names.lookup y = some .local := by rfl) (hs : ∀ x, foldedSetIterable iter X.env x = pure x := by intro _; rfl) :
    MS G W X (.Assign [.Name y py] (.ListComp elt [⟨tg, iter, ifs, 0⟩] scope pos) spos) (sNew i (eComp fi gm ft fe (own.map (·.2)))) :=
  PS.imp (ps_setLc hc hN hy hyl hsw hi ok hg ht he hs) fun E σ H q => comp_core hsim (newS q)
end
end
section
variable {P : Program} {w : World} {K : PySem.W.Frag} {mg : Str → Option Value} {base : Heap} {G : Wd}
/-- a recursion's ground: nothing is promised there -/
theorem fn_stuck {x qual : Str} {s : Stmt} {f : Addr} {fd : FuncData} {N ps : List Str} {n : Nat} (F : Fun K x qual s f fd) (S : FnScope N ps (defScope s)) (hn : ps.length = n) : FnOk P w K mg base (L2N.CX P w) 1 f fd ps (spM G n fun _ _ => .stuck) := by
  refine okXN F S (fun vs H Q E h => by rw [hn]; exact h.1) fun cdv A outer sh H vs Q E hr h => ⟨tNever, pss_never, ?_⟩
  obtain ⟨hl, Z, ss, st, L, ok, r, q⟩ := h
  exact q
end

/-- the law's promise at its call -/
theorem law_sp {K : PySem.W.Frag} {G : Wd} {dn : FD} {H : Hp} {a : Addr} {ns : List Int} (m : dn [.p (.scr ns)] [] = .ok (.bl true) []) (hS : SqL K H a (ns.map V.int)) (hK : G.K = K := by rfl) (ht : TabZ G.T (fun _ => False) H := by intro p hp; cases hp) : spM G 1 dn [.ref a] H (fun v _ => v = .bl true) fun _ _ _ => False := by
  refine ⟨rfl, fun _ => False, [.p (.scr ns)], [], [], ⟨rfl, .nil, fun n a o e => by simp at e, fun a z => z.elim, fun a m => by simp at m, fun a m => by simp at m, ht.zone fun a z => zof_nil.mp z⟩, .cons (.p ?_) .nil, ?_⟩
  · rcases hS with h | h
    · exact .scr h fun z => z.elim id fun ⟨n, o, e, _⟩ => by simp at e
    · exact .scrK (hK ▸ h)
  · rw [m]
    exact fun v H' L' _ _ r => r.bl'
end M
namespace M
open PySem PySem.Spec L2
/-! ### the plain side: rules of evaluation -/
theorem kit_NoneType_int : kitB "NoneType" "int" = some false := by decide +kernel
theorem kit_bool_int : kitB "bool" "int" = some true := by decide +kernel
theorem kit_int_int : kitB "int" "int" = some true := by decide +kernel
theorem kit_str_int : kitB "str" "int" = some false := by decide +kernel
theorem kit_tuple_int : kitB "tuple" "int" = some false := by decide +kernel
theorem kit_list_int : kitB "list" "int" = some false := by decide +kernel
theorem kit_dict_int : kitB "dict" "int" = some false := by decide +kernel
theorem kit_NoneType_bool : kitB "NoneType" "bool" = some false := by decide +kernel
theorem kit_bool_bool : kitB "bool" "bool" = some true := by decide +kernel
theorem kit_int_bool : kitB "int" "bool" = some false := by decide +kernel
theorem kit_str_bool : kitB "str" "bool" = some false := by decide +kernel
theorem kit_tuple_bool : kitB "tuple" "bool" = some false := by decide +kernel
theorem kit_list_bool : kitB "list" "bool" = some false := by decide +kernel
theorem kit_dict_bool : kitB "dict" "bool" = some false := by decide +kernel
theorem kit_NoneType_str : kitB "NoneType" "str" = some false := by decide +kernel
theorem kit_bool_str : kitB "bool" "str" = some false := by decide +kernel
theorem kit_int_str : kitB "int" "str" = some false := by decide +kernel
theorem kit_str_str : kitB "str" "str" = some true := by decide +kernel
theorem kit_tuple_str : kitB "tuple" "str" = some false := by decide +kernel
theorem kit_list_str : kitB "list" "str" = some false := by decide +kernel
theorem kit_dict_str : kitB "dict" "str" = some false := by decide +kernel
theorem kit_NoneType_tuple : kitB "NoneType" "tuple" = some false := by decide +kernel
theorem kit_bool_tuple : kitB "bool" "tuple" = some false := by decide +kernel
theorem kit_int_tuple : kitB "int" "tuple" = some false := by decide +kernel
theorem kit_str_tuple : kitB "str" "tuple" = some false := by decide +kernel
theorem kit_tuple_tuple : kitB "tuple" "tuple" = some true := by decide +kernel
theorem kit_list_tuple : kitB "list" "tuple" = some false := by decide +kernel
theorem kit_dict_tuple : kitB "dict" "tuple" = some false := by decide +kernel
theorem kit_NoneType_list : kitB "NoneType" "list" = some false := by decide +kernel
theorem kit_bool_list : kitB "bool" "list" = some false := by decide +kernel
theorem kit_int_list : kitB "int" "list" = some false := by decide +kernel
theorem kit_str_list : kitB "str" "list" = some false := by decide +kernel
theorem kit_tuple_list : kitB "tuple" "list" = some false := by decide +kernel
theorem kit_list_list : kitB "list" "list" = some true := by decide +kernel
theorem kit_dict_list : kitB "dict" "list" = some false := by decide +kernel
theorem kit_NoneType_dict : kitB "NoneType" "dict" = some false := by decide +kernel
theorem kit_bool_dict : kitB "bool" "dict" = some false := by decide +kernel
theorem kit_int_dict : kitB "int" "dict" = some false := by decide +kernel
theorem kit_str_dict : kitB "str" "dict" = some false := by decide +kernel
theorem kit_tuple_dict : kitB "tuple" "dict" = some false := by decide +kernel
theorem kit_list_dict : kitB "list" "dict" = some false := by decide +kernel
theorem kit_dict_dict : kitB "dict" "dict" = some true := by decide +kernel
@[simp] theorem isi_int (d : D) : dIsi "int" d = match d with | .non => some (.bl false) | .bl _ => some (.bl true) | .int _ => some (.bl true) | .str _ => some (.bl false) | .tup _ => some (.bl false) | .lst _ => some (.bl false) | .dic _ => some (.bl false) | _ => none := by
  cases d <;> first | rfl | exact (congrArg (Option.map D.bl) (by first | exact kit_NoneType_int | exact kit_bool_int | exact kit_int_int | exact kit_str_int | exact kit_tuple_int | exact kit_list_int | exact kit_dict_int))
@[simp] theorem isi_bool (d : D) : dIsi "bool" d = match d with | .non => some (.bl false) | .bl _ => some (.bl true) | .int _ => some (.bl false) | .str _ => some (.bl false) | .tup _ => some (.bl false) | .lst _ => some (.bl false) | .dic _ => some (.bl false) | _ => none := by
  cases d <;> first | rfl | exact (congrArg (Option.map D.bl) (by first | exact kit_NoneType_bool | exact kit_bool_bool | exact kit_int_bool | exact kit_str_bool | exact kit_tuple_bool | exact kit_list_bool | exact kit_dict_bool))
@[simp] theorem isi_str (d : D) : dIsi "str" d = match d with | .non => some (.bl false) | .bl _ => some (.bl false) | .int _ => some (.bl false) | .str _ => some (.bl true) | .tup _ => some (.bl false) | .lst _ => some (.bl false) | .dic _ => some (.bl false) | _ => none := by
  cases d <;> first | rfl | exact (congrArg (Option.map D.bl) (by first | exact kit_NoneType_str | exact kit_bool_str | exact kit_int_str | exact kit_str_str | exact kit_tuple_str | exact kit_list_str | exact kit_dict_str))
@[simp] theorem isi_tuple (d : D) : dIsi "tuple" d = match d with | .non => some (.bl false) | .bl _ => some (.bl false) | .int _ => some (.bl false) | .str _ => some (.bl false) | .tup _ => some (.bl true) | .lst _ => some (.bl false) | .dic _ => some (.bl false) | _ => none := by
  cases d <;> first | rfl | exact (congrArg (Option.map D.bl) (by first | exact kit_NoneType_tuple | exact kit_bool_tuple | exact kit_int_tuple | exact kit_str_tuple | exact kit_tuple_tuple | exact kit_list_tuple | exact kit_dict_tuple))
@[simp] theorem isi_list (d : D) : dIsi "list" d = match d with | .non => some (.bl false) | .bl _ => some (.bl false) | .int _ => some (.bl false) | .str _ => some (.bl false) | .tup _ => some (.bl false) | .lst _ => some (.bl true) | .dic _ => some (.bl false) | _ => none := by
  cases d <;> first | rfl | exact (congrArg (Option.map D.bl) (by first | exact kit_NoneType_list | exact kit_bool_list | exact kit_int_list | exact kit_str_list | exact kit_tuple_list | exact kit_list_list | exact kit_dict_list))
@[simp] theorem isi_dict (d : D) : dIsi "dict" d = match d with | .non => some (.bl false) | .bl _ => some (.bl false) | .int _ => some (.bl false) | .str _ => some (.bl false) | .tup _ => some (.bl false) | .lst _ => some (.bl false) | .dic _ => some (.bl true) | _ => none := by
  cases d <;> first | rfl | exact (congrArg (Option.map D.bl) (by first | exact kit_NoneType_dict | exact kit_bool_dict | exact kit_int_dict | exact kit_str_dict | exact kit_tuple_dict | exact kit_list_dict | exact kit_dict_dict))
@[simp] theorem isi2_tl (d : D) : dIsi2 "tuple" "list" d = match d with | .non => some (.bl false) | .bl _ => some (.bl false) | .int _ => some (.bl false) | .str _ => some (.bl false) | .tup _ => some (.bl true) | .lst _ => some (.bl true) | .dic _ => some (.bl false) | _ => none := by
  cases d <;> first | rfl | (simp only [dIsi2, tyName, Option.bind_some, kit_NoneType_tuple, kit_NoneType_list, kit_bool_tuple, kit_bool_list, kit_int_tuple, kit_int_list, kit_str_tuple, kit_str_list, kit_tuple_tuple, kit_tuple_list, kit_list_tuple, kit_list_list, kit_dict_tuple, kit_dict_list, Option.map_some, Bool.or_false, Bool.or_true, Bool.or_self])

@[simp] theorem flat_non {n} : D.flat n .non = true := by cases n <;> rfl
@[simp] theorem flat_bl {n b} : D.flat n (.bl b) = true := by cases n <;> rfl
@[simp] theorem flat_int {n i} : D.flat n (.int i) = true := by cases n <;> rfl
@[simp] theorem flat_str {n x} : D.flat n (.str x) = PyData.strOk x := by cases n <;> rfl
@[simp] theorem flat_tup {n xs} : D.flat (n + 1) (.tup xs) = D.flats n xs := rfl
@[simp] theorem flat_lst {n xs} : D.flat (n + 1) (.lst xs) = D.flats n xs := rfl
@[simp] theorem flats_nil {n} : D.flats n [] = true := by cases n <;> rfl
@[simp] theorem flats_cons {n x xs} : D.flats n (x :: xs) = (D.flat n x && D.flats n xs) := by cases n <;> rfl
theorem flats_all {n : Nat} : ∀ {xs : List D}, D.flats n xs = xs.all (D.flat n)
  | [] => by simp
  | x :: xs => by simp [flats_all (xs := xs)]
def D.eqvs : List D → List D → Bool
  | [], [] => true
  | x :: xs, y :: ys => D.eqv x y && D.eqvs xs ys
  | _, _ => false
theorem eqvAll_pys : ∀ (xs ys : List D), PyData.eqvAll (D.pys xs) (D.pys ys) = D.eqvs xs ys
  | [], [] => by simp [D.pys, D.eqvs, PyData.eqvAll]
  | [], _ :: _ => by simp [D.pys, D.eqvs, PyData.eqvAll]
  | _ :: _, [] => by simp [D.pys, D.eqvs, PyData.eqvAll]
  | x :: xs, y :: ys => by simp only [D.pys, D.eqvs, PyData.eqvAll, eqvAll_pys xs ys, D.eqv]
@[simp] theorem eqv_int (i j : Int) : D.eqv (.int i) (.int j) = (i == j) := by simp [D.eqv, D.py, PyData.eqv]
@[simp] theorem eqv_str (i j : Str) : D.eqv (.str i) (.str j) = (i == j) := by simp [D.eqv, D.py, PyData.eqv]
@[simp] theorem eqv_bl (i j : Bool) : D.eqv (.bl i) (.bl j) = (i == j) := by simp [D.eqv, D.py, PyData.eqv]
@[simp] theorem eqv_nn : D.eqv .non .non = true := by simp [D.eqv, D.py, PyData.eqv]
@[simp] theorem eqv_tt (xs ys : List D) : D.eqv (.tup xs) (.tup ys) = D.eqvs xs ys := by simp only [D.eqv, D.py, PyData.eqv, eqvAll_pys]
@[simp] theorem eqv_ll (xs ys : List D) : D.eqv (.lst xs) (.lst ys) = D.eqvs xs ys := by simp only [D.eqv, D.py, PyData.eqv, eqvAll_pys]
@[simp] theorem eqvs_nn : D.eqvs [] [] = true := rfl
@[simp] theorem eqvs_nc {x xs} : D.eqvs [] (x :: xs) = false := rfl
@[simp] theorem eqvs_cn {x xs} : D.eqvs (x :: xs) [] = false := rfl
@[simp] theorem eqvs_cc {x xs y ys} : D.eqvs (x :: xs) (y :: ys) = (D.eqv x y && D.eqvs xs ys) := rfl
@[simp] theorem eqv_mx1 {b : Bool} {i : Int} {x : Str} {xs ys : List D} : D.eqv (.non) (.bl b) = false := by simp [D.eqv, D.py, PyData.eqv]
@[simp] theorem eqv_mx2 {b : Bool} {i : Int} {x : Str} {xs ys : List D} : D.eqv (.bl b) (.non) = false := by simp [D.eqv, D.py, PyData.eqv]
@[simp] theorem eqv_mx3 {b : Bool} {i : Int} {x : Str} {xs ys : List D} : D.eqv (.non) (.int i) = false := by simp [D.eqv, D.py, PyData.eqv]
@[simp] theorem eqv_mx4 {b : Bool} {i : Int} {x : Str} {xs ys : List D} : D.eqv (.int i) (.non) = false := by simp [D.eqv, D.py, PyData.eqv]
@[simp] theorem eqv_mx5 {b : Bool} {i : Int} {x : Str} {xs ys : List D} : D.eqv (.non) (.str x) = false := by simp [D.eqv, D.py, PyData.eqv]
@[simp] theorem eqv_mx6 {b : Bool} {i : Int} {x : Str} {xs ys : List D} : D.eqv (.str x) (.non) = false := by simp [D.eqv, D.py, PyData.eqv]
@[simp] theorem eqv_mx7 {b : Bool} {i : Int} {x : Str} {xs ys : List D} : D.eqv (.non) (.tup xs) = false := by simp [D.eqv, D.py, PyData.eqv]
@[simp] theorem eqv_mx8 {b : Bool} {i : Int} {x : Str} {xs ys : List D} : D.eqv (.tup xs) (.non) = false := by simp [D.eqv, D.py, PyData.eqv]
@[simp] theorem eqv_mx9 {b : Bool} {i : Int} {x : Str} {xs ys : List D} : D.eqv (.non) (.lst xs) = false := by simp [D.eqv, D.py, PyData.eqv]
@[simp] theorem eqv_mx10 {b : Bool} {i : Int} {x : Str} {xs ys : List D} : D.eqv (.lst xs) (.non) = false := by simp [D.eqv, D.py, PyData.eqv]
@[simp] theorem eqv_mx11 {b : Bool} {i : Int} {x : Str} {xs ys : List D} : D.eqv (.bl b) (.str x) = false := by simp [D.eqv, D.py, PyData.eqv]
@[simp] theorem eqv_mx12 {b : Bool} {i : Int} {x : Str} {xs ys : List D} : D.eqv (.str x) (.bl b) = false := by simp [D.eqv, D.py, PyData.eqv]
@[simp] theorem eqv_mx13 {b : Bool} {i : Int} {x : Str} {xs ys : List D} : D.eqv (.bl b) (.tup xs) = false := by simp [D.eqv, D.py, PyData.eqv]
@[simp] theorem eqv_mx14 {b : Bool} {i : Int} {x : Str} {xs ys : List D} : D.eqv (.tup xs) (.bl b) = false := by simp [D.eqv, D.py, PyData.eqv]
@[simp] theorem eqv_mx15 {b : Bool} {i : Int} {x : Str} {xs ys : List D} : D.eqv (.bl b) (.lst xs) = false := by simp [D.eqv, D.py, PyData.eqv]
@[simp] theorem eqv_mx16 {b : Bool} {i : Int} {x : Str} {xs ys : List D} : D.eqv (.lst xs) (.bl b) = false := by simp [D.eqv, D.py, PyData.eqv]
@[simp] theorem eqv_mx17 {b : Bool} {i : Int} {x : Str} {xs ys : List D} : D.eqv (.int i) (.str x) = false := by simp [D.eqv, D.py, PyData.eqv]
@[simp] theorem eqv_mx18 {b : Bool} {i : Int} {x : Str} {xs ys : List D} : D.eqv (.str x) (.int i) = false := by simp [D.eqv, D.py, PyData.eqv]
@[simp] theorem eqv_mx19 {b : Bool} {i : Int} {x : Str} {xs ys : List D} : D.eqv (.int i) (.tup xs) = false := by simp [D.eqv, D.py, PyData.eqv]
@[simp] theorem eqv_mx20 {b : Bool} {i : Int} {x : Str} {xs ys : List D} : D.eqv (.tup xs) (.int i) = false := by simp [D.eqv, D.py, PyData.eqv]
@[simp] theorem eqv_mx21 {b : Bool} {i : Int} {x : Str} {xs ys : List D} : D.eqv (.int i) (.lst xs) = false := by simp [D.eqv, D.py, PyData.eqv]
@[simp] theorem eqv_mx22 {b : Bool} {i : Int} {x : Str} {xs ys : List D} : D.eqv (.lst xs) (.int i) = false := by simp [D.eqv, D.py, PyData.eqv]
@[simp] theorem eqv_mx23 {b : Bool} {i : Int} {x : Str} {xs ys : List D} : D.eqv (.str x) (.tup xs) = false := by simp [D.eqv, D.py, PyData.eqv]
@[simp] theorem eqv_mx24 {b : Bool} {i : Int} {x : Str} {xs ys : List D} : D.eqv (.tup xs) (.str x) = false := by simp [D.eqv, D.py, PyData.eqv]
@[simp] theorem eqv_mx25 {b : Bool} {i : Int} {x : Str} {xs ys : List D} : D.eqv (.str x) (.lst xs) = false := by simp [D.eqv, D.py, PyData.eqv]
@[simp] theorem eqv_mx26 {b : Bool} {i : Int} {x : Str} {xs ys : List D} : D.eqv (.lst xs) (.str x) = false := by simp [D.eqv, D.py, PyData.eqv]
@[simp] theorem eqv_mx27 {b : Bool} {i : Int} {x : Str} {xs ys : List D} : D.eqv (.tup xs) (.lst ys) = false := by simp [D.eqv, D.py, PyData.eqv]
@[simp] theorem eqv_mx28 {b : Bool} {i : Int} {x : Str} {xs ys : List D} : D.eqv (.lst ys) (.tup xs) = false := by simp [D.eqv, D.py, PyData.eqv]
@[simp] theorem eqv_bi (b : Bool) (j : Int) : D.eqv (.bl b) (.int j) = ((if b then 1 else 0) == j) := by simp [D.eqv, D.py, PyData.eqv]
@[simp] theorem eqv_ib (b : Bool) (j : Int) : D.eqv (.int j) (.bl b) = (j == (if b then 1 else 0)) := by simp [D.eqv, D.py, PyData.eqv]
theorem eqvs_ints : ∀ (a b : List Int), D.eqvs (a.map .int) (b.map .int) = decide (a = b)
  | [], [] => by simp
  | [], _ :: _ => by simp
  | _ :: _, [] => by simp
  | x :: xs, y :: ys => by
    simp only [List.map_cons, eqvs_cc, eqv_int, eqvs_ints xs ys]
    by_cases h : x = y <;> by_cases h2 : xs = ys <;> simp [h, h2]
theorem rngL_eq : ∀ (n : Nat) (lo : Int), rngL lo n = (List.range n).map fun i => D.int (lo + (i : Nat))
  | 0, _ => rfl
  | n + 1, lo => by
    rw [List.range_succ_eq_map, List.map_cons, List.map_map]
    unfold rngL
    rw [rngL_eq n (lo + 1)]
    congr 1
    · simp
    · apply List.map_congr_left
      intro i _
      simp only [Function.comp_apply]
      congr 1
      push_cast
      omega
theorem rngL0 (n : Nat) : rngL 0 n = (List.range n).map fun i => D.int (i : Nat) := by
  rw [rngL_eq]
  apply List.map_congr_left
  intro i _
  congr 1
  omega
/-- a comprehension whose parts leave the store as it is -/
theorem compL_map {α : Type} {g : GD} {ft : DenB} {fe : Den} {ρ : Env} {st : Sto} (enc : α → D) (p : α → Bool) (f : α → D) : ∀ (xs : List α), (∀ x ∈ xs, ∃ ρ1, g (enc x) ρ = some ρ1 ∧ ft ρ1 st = .ok (p x) st ∧ (p x = true → fe ρ1 st = .ok (f x) st)) → compL g ft fe ρ (xs.map enc) st = .ok ((xs.filter p).map f) st
  | [], _ => rfl
  | x :: xs, h => by
    obtain ⟨ρ1, h1, h2, h3⟩ := h x List.mem_cons_self
    have ih := compL_map enc p f xs fun y hy => h y (List.mem_cons_of_mem _ hy)
    rw [List.map_cons]
    unfold compL
    simp only [h1, h2]
    cases hp : p x with
    | true => simp only [h3 hp, ih, Res.bind, List.filter_cons, hp, if_true, List.map_cons]
    | false => simp only [ih, List.filter_cons, hp, Bool.false_eq_true, if_false]
theorem compL_all {α : Type} {g : GD} {fe : Den} {ρ : Env} {st : Sto} (enc : α → D) (f : α → D) (xs : List α) (h : ∀ x ∈ xs, ∃ ρ1, g (enc x) ρ = some ρ1 ∧ fe ρ1 st = .ok (f x) st) : compL g eYes fe ρ (xs.map enc) st = .ok (xs.map f) st := by
  rw [compL_map enc (fun _ => true) f xs fun x hx => by
    obtain ⟨ρ1, h1, h2⟩ := h x hx
    exact ⟨ρ1, h1, rfl, fun _ => h2⟩]
  rw [List.filter_eq_self.mpr (fun _ _ => rfl)]
/-- a for loop by what holds between two turns -/
theorem forL_inv {α : Type} {g : GD} {fb : SDen} (enc : α → D) (I : List α → Env → Sto → Prop) : ∀ (post pre : List α) (ρ : Env) (st : Sto), I pre ρ st →
    (∀ pre x post' ρ st, pre ++ x :: post' = pre ++ x :: post' → I pre ρ st → (∃ a b, a ++ x :: b = pre ++ x :: post' ∧ True) → ∃ ρ1 ρ2 st2, g (enc x) ρ = some ρ1 ∧ (fb ρ1 st = .next ρ2 st2 ∨ fb ρ1 st = .cont ρ2 st2) ∧ I (pre ++ [x]) ρ2 st2) →
    ∃ ρ' st', forL g fb (post.map enc) ρ st = .next ρ' st' ∧ I (pre ++ post) ρ' st'
  | [], pre, ρ, st, h, _ => ⟨ρ, st, rfl, by rw [List.append_nil]; exact h⟩
  | x :: post, pre, ρ, st, h, hs => by
    obtain ⟨ρ1, ρ2, st2, h1, h2, h3⟩ := hs pre x post ρ st rfl h ⟨_, _, rfl, trivial⟩
    obtain ⟨ρ', st', e, r⟩ := forL_inv enc I post (pre ++ [x]) ρ2 st2 h3 hs
    refine ⟨ρ', st', ?_, by rw [List.append_assoc] at r; exact r⟩
    rw [List.map_cons]
    unfold forL
    simp only [h1]
    rcases h2 with h2 | h2 <;> simp only [h2] <;> exact e
/-- .. by the number of turns -/
theorem forL_ix {α : Type} {g : GD} {fb : SDen} (enc : α → D) (xs : List α) (I : Nat → Env → Sto → Prop) {ρ : Env} {st : Sto} (h0 : I 0 ρ st)
    (hs : ∀ i x ρ st, xs[i]? = some x → I i ρ st → ∃ ρ1 ρ2 st2, g (enc x) ρ = some ρ1 ∧ (fb ρ1 st = .next ρ2 st2 ∨ fb ρ1 st = .cont ρ2 st2) ∧ I (i + 1) ρ2 st2) :
    ∃ ρ' st', forL g fb (xs.map enc) ρ st = .next ρ' st' ∧ I xs.length ρ' st' := by
  have go : ∀ (n i : Nat) ρ st, n = xs.length - i → i ≤ xs.length → I i ρ st → ∃ ρ' st', forL g fb ((xs.drop i).map enc) ρ st = .next ρ' st' ∧ I xs.length ρ' st' := by
    intro n
    induction n with
    | zero =>
      intro i ρ st hn hi h
      have : i = xs.length := by omega
      subst this
      rw [List.drop_length]
      exact ⟨ρ, st, rfl, h⟩
    | succ n ih =>
      intro i ρ st hn hi h
      have hl : i < xs.length := by omega
      rw [List.drop_eq_getElem_cons hl, List.map_cons]
      obtain ⟨ρ1, ρ2, st2, h1, h2, h3⟩ := hs i _ ρ st (List.getElem?_eq_getElem hl) h
      obtain ⟨ρ', st', e, r⟩ := ih (i + 1) ρ2 st2 (by omega) hl h3
      refine ⟨ρ', st', ?_, r⟩
      unfold forL
      simp only [h1]
      rcases h2 with h2 | h2 <;> simp only [h2] <;> exact e
  have := go xs.length 0 ρ st (by omega) (Nat.zero_le _) h0
  rw [List.drop_zero] at this
  exact this

@[simp] theorem dInts_map (l : List Int) : dInts (l.map .int) = some l := by
  induction l with
  | nil => rfl
  | cons x l ih => simp [dInts, ih]
@[simp] theorem dInts_map2 {α : Type} (f : α → Int) (l : List α) : dInts (l.map fun x => .int (f x)) = some (l.map f) := by
  induction l with
  | nil => rfl
  | cons x l ih => simp [dInts, ih]
@[simp] theorem dInts_map3 {α : Type} (f : α → Int) (l : List α) : dInts (l.map (D.int ∘ f)) = some (l.map f) := dInts_map2 f l
@[simp] theorem dBools_map2 {α : Type} (f : α → Bool) (l : List α) : dBools (l.map fun x => .bl (f x)) = some (l.map f) := by
  induction l with
  | nil => rfl
  | cons x l ih => simp [dBools, ih]
@[simp] theorem dBools_map3 {α : Type} (f : α → Bool) (l : List α) : dBools (l.map (D.bl ∘ f)) = some (l.map f) := dBools_map2 f l
theorem sz {n : Nat} (h : n ≤ 1000000) : n ≤ sizeLine := by rw [sizeLine_eq]; omega
theorem szlt {n : Nat} (h : n ≤ 1000000) : n < sizeLine := by rw [sizeLine_eq]; omega
/-- a for loop over one name that changes the store alone -/
theorem forL_store {α : Type} {v : Nat} {fb : SDen} {base : Env} (enc : α → D) (xs : List α) (T : Nat → Sto) (hs : ∀ i x, xs[i]? = some x → fb (base.set v (some (.p (enc x)))) (T i) = .next (base.set v (some (.p (enc x)))) (T (i + 1))) :
    ∃ ρ, ρ.set v none = base.set v none ∧ forL (gN v) fb (xs.map enc) base (T 0) = .next ρ (T xs.length) := by
  obtain ⟨ρ', st', e, h1, h2⟩ := forL_ix (g := gN v) (fb := fb) enc xs (fun i ρ st => ρ.set v none = base.set v none ∧ st = T i) (ρ := base) (st := T 0) ⟨rfl, rfl⟩ (by
    rintro i x ρ st hx ⟨h1, rfl⟩
    have e : ρ.set v (some (.p (enc x))) = base.set v (some (.p (enc x))) := by
      have := congrArg (fun l : Env => l.set v (some (.p (enc x)))) h1
      simpa [List.set_set] using this
    refine ⟨ρ.set v (some (.p (enc x))), base.set v (some (.p (enc x))), T (i + 1), rfl, .inl ?_, by simp [List.set_set], rfl⟩
    rw [e]
    exact hs i x hx)
  subst h2
  exact ⟨ρ', h1, e⟩
/-- .. where a turn may return or go on: the first that returns -/
theorem forL_find {α : Type} {v : Nat} {fb : SDen} {base : Env} {st : Sto} (enc : α → D) (r : α → Option D) : ∀ (xs : List α), (∀ x ∈ xs, fb (base.set v (some (.p (enc x)))) st = match r x with | some d => .ret d st | none => .next (base.set v (some (.p (enc x)))) st) →
    ∀ ρ : Env, ρ.set v none = base.set v none → (∃ ρ', ρ'.set v none = base.set v none ∧ forL (gN v) fb (xs.map enc) ρ st = match xs.findSome? r with | some d => .ret d st | none => .next ρ' st)
  | [], _, ρ, h => ⟨ρ, h, rfl⟩
  | x :: xs, hs, ρ, h => by
    have e : ρ.set v (some (.p (enc x))) = base.set v (some (.p (enc x))) := by
      have := congrArg (fun l : Env => l.set v (some (.p (enc x)))) h
      simpa [List.set_set] using this
    have hx := hs x List.mem_cons_self
    rw [List.map_cons]
    unfold forL
    simp only [gN, e, hx]
    cases hr : r x with
    | some d => exact ⟨base, rfl, by simp [hr]⟩
    | none =>
      obtain ⟨ρ', h2, e2⟩ := forL_find enc r xs (fun y hy => hs y (List.mem_cons_of_mem _ hy)) (base.set v (some (.p (enc x)))) (by simp [List.set_set])
      refine ⟨ρ', h2, ?_⟩
      simp only [List.findSome?_cons, hr]
      exact e2
end M
namespace M
open PySem PySem.Spec L2 NdefX PyProof.Rows
/-! ### own exceptions: __init__ that says super().__init__(text) -/
section
open PySem.W
variable {P : Program} {w : World} {K : Frag} {A : Around} {E : Value → Shared → Prop} {h : Heap} {g : Array GenState} {d : Drawn} {t : Nat} {os : OsState}
variable {nm q : Str} {C N : Addr} {bs bm : List Value} {hdct : Bool} {sn : List Str} {sub : List Value} {ab : Bool} {col : Option Bool} {dd : Option Addr} {k0 k1 k2 k3 k5 : Option Value}
theorem call_mw {u e t0 : Addr} {rest : List Value} {Q : Value → Shared → Prop} (hT : ∀ Y : String, bm.contains (.type Y) = HandSPX.veTail.contains (.type Y))
    (hC : h.get? C = some (excClassObj nm q C N bs bm hdct sn sub ab col dd k0 k1 k2 k3 k5 "ValueError.__new__")) (he : h.get? e = some (HandSPX.excO C t0)) (hu : h.get? u = some (kxs_mw "ValueError.__init__" e)) (hrest : rest.length ≤ sizeLine)
    (hq : ∀ h' t1, (∀ b o, b ≠ e → h.get? b = some o → h'.get? b = some o) → h'.get? e = some (HandSPX.excO C t1) → Q .none ⟨h', g, d, t, os⟩) :
    wpAny (model P w) A (call (.ref u) rest) Q E ⟨h, g, d, t, os⟩ := by
  refine wpAny_call (codeAny_of_tree ?_)
  show wpAny _ A.in1 (callAny (.ref u) ⟨rest, []⟩) _ _ _
  simp only [callAny]
  refine wpAny_bind (wpAny_load hu ?_)
  simp only [kxs_mw, show (Value.type "method-wrapper" == Value.type "method" || Value.type "method-wrapper" == Value.type "builtin_function_or_method" || Value.type "method-wrapper" == Value.type "method-wrapper") = true by decide, if_true]
  refine W.KFB.if_so (by decide) ?_
  refine wpAny_bind (ESX.check_bound F.excBase_ValueError hC he rfl ?_)
  refine wpAny_bind (wpAny_pure (wpAny_pure ?_))
  refine ⟨Code.quiet_builtin _ (by decide +kernel), codeAny_builtin F.excBase_ValueError.initEntry ?_⟩
  rw [Around.under_plainId F.excBase_ValueError.init.plain _]
  wp_walk
  refine hq _ h.objs.size (fun b o hb ho => ?_) ?_
  · rw [Heap.get?_update_other _ _ (Ne.symm hb)]
    exact Heap.get?_push_of_some _ ho
  · rw [Heap.get?_update_self _ (Heap.get?_push_of_some _ he) rfl]
    rfl
end
/-- an own class whose __init__ says super().__init__(text), then self.f = x .. -/
structure SupC (P : Program) (K : PySem.W.Frag) (mg : Str → Option Value) (C fI cc cda : Addr) (name qual : Str) (params : Arguments) (body : List Stmt) (scope : Scope) : Prop where
  T : OexC K C
  iC : PySem.W.findIn K (.ref C) "__init__" = some (some (.ref fI))
  tI : PySem.W.typeIn K (.ref fI) = some (.type "function")
  fn : ∃ (oc kV doc pm ct : Value) (an od : Option Addr) (osl : Array (Option Value)), K.lookup fI = some ⟨oc, od, .func (PySem.W.ksFn name qual params body scope .none kV doc pm an (.ref cda) ct cc), osl⟩
  hcd : PySem.W.codeIn K (.ref cda) qual = true
  hcode : ∃ (ccl : Value) (cdd : Option Addr) (vs : Array Value) (ccs : Array (Option Value)) (file : Str) (tf : Tok), K.lookup cda = some ⟨ccl, cdd, .fields vs, ccs⟩ ∧ vs[2]? = some (.str file tf) ∧ ((P.main.file : Str) == file) = true
  hcell : ∃ (cl : Value) (cld : Option Addr) (csl : Array (Option Value)), K.lookup cc = some ⟨cl, cld, .cell (some (.ref C)), csl⟩
  hm : PySem.W.ks_superIn K C C "__init__" = some (some (.builtin "ValueError.__init__"))
  ho : PySem.W.nsIn K PySem.cStatics "thirdparty.any" = some none
  hsub : PySem.W.mroIn K C (.ref C) = some true
  hB : PySem.W.subIn K (.ref C) (.type "ValueError") = some true
  hsup : mg "super" = none
  htop : (P.main.scope.names.lookup ("super" : Str)).isSome = false
section
variable {CX : CXT} {P : Program} {w : World} {K : PySem.W.Frag} {mg : Str → Option Value} {base : Heap} {N ps : List Str} {k : Nat}
theorem init_run {C fI cc cda : Addr} {name qual : Str} {params : Arguments} {scope : Scope} {p0 p1 p2 p3 p4 p5 : Pos} {msg : Str} {j : Nat} {ar : Arg} {rest : List Stmt} {t : TS}
    (F : SupC P K mg C fI cc cda name qual params (.Expr (.Call (.Attribute (.Call (.Name "super" p0) [] [] p1) "__init__" p2) [.Constant (.str msg) j p3] [] p4) p5 :: rest) scope)
    (S : NScope N ps ["__class__"] scope) (hp : (params.posonlyargs ++ params.args).head? = some ar) (hps : ps.head? = some ar.arg) (hks : scope.names.lookup ("super" : Str) = some .globalImplicit)
    (hb : ∀ (kV doc pm ctv : Value) (an : Option Addr) (us : List Value), us.length = ps.length → bindArgs (PySem.W.ksFn name qual params (.Expr (.Call (.Attribute (.Call (.Name "super" p0) [] [] p1) "__init__" p2) [.Constant (.str msg) j p3] [] p4) p5 :: rest) scope .none kV doc pm an (.ref cda) ctv cc) ⟨us, []⟩ = pure (ps.zip us))
    (hbody : ∀ (A : Around) (outer : List PySem.Env) (s : Shared) (H : Hp) (E : XK), Room k (A.deeper (envF ⟨name, qual, params, .Expr (.Call (.Attribute (.Call (.Name "super" p0) [] [] p1) "__init__" p2) [.Constant (.str msg) j p3] [] p4) p5 :: rest, scope, [("__class__", cc)], cda⟩ fI s.heap.objs.size)) →
      PSs (ncx CX P w K mg base N ⟨name, qual, params, .Expr (.Call (.Attribute (.Call (.Name "super" p0) [] [] p1) "__init__" p2) [.Constant (.str msg) j p3] [] p4) p5 :: rest, scope, [("__class__", cc)], cda⟩ fI A outer s H E) rest t)
    {pl : PySem.Env → Sem Bool} (he : ∀ env : PySem.Env, eval (.Call (.Attribute (.Call (.Name "super" p0) [] [] p1) "__init__" p2) [.Constant (.str msg) j p3] [] p4) env = (do
      let ov ← attributeBase (.Call (.Name "super" p0) [] [] p1) "__init__" env (eval (.Call (.Name "super" p0) [] [] p1) env)
      standAt p2.atName
      let (f, first) ← holding [ov] (getMethod ov "__init__" (pl env))
      callWith p4 f first (backTo p4 (starEach [.Constant (.str msg) j p3] env)) []))
    (hi : ∀ env : PySem.Env, env.scope = scope → interactive env = false)
    {A : Around} {outer : List PySem.Env} {s : Shared} {H : Hp} {us : List Value} {vs ws : List V} {a : Addr} {Q : VK} {E : XK} (hr : Room (k + 1) A) (e0 : Env0 P w K mg base A outer s H) (r : Vals vs us) (hl : vs.length = ps.length) (hv : vs = .ref a :: ws) (ha : H a = some (exo a C none))
    (hq : t { nx := fun _ H' => Q .non H', rt := Q } (startF N vs [some (.ref C)]) H) : codeAny (model P w) A (.call (.ref fI) ⟨us, []⟩) (CR CX outer P w H s Q E) s := by
  subst hv
  obtain ⟨oc, kV, doc, pm, ct, an, od, osl, lk⟩ := F.fn
  obtain ⟨ccl, cdd, fvs, ccs, file, tf, hco, hfv, hfile⟩ := F.hcode
  obtain ⟨cl, cld, csl, hce⟩ := F.hcell
  have KB := e0.mod.kin
  have up : ∀ b o, base.get? b = some o → s.heap.get? b = some o := fun b o e => (e0.bs b o e).1
  have KX : K.In s.heap := KB.keeps up
  have lim : s.heap.NoLimit := e0.mod.nolimit.keeps up
  have hHc : H cc = none := (e0.bs _ _ (KB _ _ hce)).2
  have C1 : CellsAt [("__class__", cc)] ["__class__"] [some (V.ref C)] s.heap H := by
    refine ⟨rfl, fun y c e => ?_, fun x y c e1 e2 => ?_, fun i y e => ?_⟩
    · have := PySem.mem_of_lookup e
      simp only [List.mem_singleton, Prod.mk.injEq] at this
      rw [this.2]
      exact ⟨hHc, _, _, KX _ _ hce, rfl⟩
    · have h1 := PySem.mem_of_lookup e1
      have h2 := PySem.mem_of_lookup e2
      simp only [List.mem_singleton, Prod.mk.injEq] at h1 h2
      rw [h1.1, h2.1]
    · match i, e with
      | 0, e =>
        cases e
        exact ⟨cc, rfl, fun v ev => by cases ev; exact ⟨.ref C, rfl, _, KX _ _ hce, rfl⟩⟩
  have hlu : us.length = ps.length := by rw [← r.length]; exact hl
  have hC := F.T.cls
  obtain ⟨nm, q, NC, bs, bm, sn, sub, ab, col, dd, k0, k1, k2, k3, k5, hC, hbm⟩ := hC
  have hcl : PySem.W.clsIn K C = some { name := nm, bases := bs, mro := .ref C :: bm, ns := NC, qualname := q, hasDict := true, slotNames := sn, subclasses := sub, abstract := ab, collection := col, hasDel := false } := by unfold PySem.W.clsIn; rw [hC] <;> rfl
  obtain ⟨t1, hoa⟩ := exo_at e0.hok ha
  have hzl : ∀ x ∈ ps, scope.names.lookup x = some .local := S.par
  refine PySem.ks_codeAny_call_defAt (fd := PySem.W.ksFn name qual params _ scope .none kV doc pm an (.ref cda) ct cc) (binds := ps.zip us) hr.depth (KX _ _ lk) rfl lim (PySem.W.codeRec_of KX F.hcd) rfl ?_ S.nocell (fun ⟨n, _⟩ hy => hzl n (List.of_mem_zip hy).1) (fun h₁ hns kp => ?_) S.co S.gen S.kind
  · intro M A E Q hQ
    rw [hb kV doc pm ct an us hlu]
    exact wpAny_pure hQ
  have I := inv_startN (CX := CX) (P := P) (w := w) (mg := mg) (base := base) (E := E) (f := fI) (tk := s.toks + (ps.zip us).length) (F := ⟨name, qual, params, .Expr (.Call (.Attribute (.Call (.Name "super" p0) [] [] p1) "__init__" p2) [.Constant (.str msg) j p3] [] p4) p5 :: rest, scope, [("__class__", cc)], cda⟩) S hr.hd e0 hl r C1 hns kp
  obtain ⟨hp0, g, d, tk, os⟩ := s
  have X1 : K.In h₁ := KX.keeps kp
  obtain ⟨mb, hb1, hb2⟩ := e0.mod.blt
  have hC1 : h₁.get? C = some (excClassObj nm q C NC bs bm true sn sub ab col dd k0 k1 k2 k3 k5 "ValueError.__new__") := X1 _ _ hC
  have ha1 : h₁.get? a = some (HandSPX.excO C t1) := kp _ _ hoa
  have hlk : (ps.zip us).reverse.lookup ar.arg = some (.ref a) := by
    cases us with
    | nil => cases r
    | cons u us =>
      cases r with
      | cons r1 r2 =>
        obtain rfl : u = Value.ref a := r1
        cases ps with
        | nil => simp at hps
        | cons y ps =>
          simp only [List.head?_cons, Option.some.injEq] at hps
          subst hps
          have ndP : (ar.arg :: ps).Nodup := by
            have z := S.nd.sublist (List.take_sublist ((ar.arg :: ps).length + 1) N)
            rw [show N.take ((ar.arg :: ps).length + 1) = _ from S.pre] at z
            exact (List.nodup_append.mp z).1
          exact zip_look ndP (i := 0) rfl rfl
  have hne : a ≠ C := fun z => by
    rw [z] at ha1
    rw [ha1] at hC1
    cases hC1
  refine PySem.ks_wpAt_execs_cons (PySem.ks_wpAt_Expr_any (PySem.ks_wpAt_MethodCall (he := he _) (PySem.ks_wpAt_super_base (show scope.names.lookup ("super" : Str) = some .globalImplicit from hks) (show scope.names.lookup ("__class__" : Str) = some .free from S.frk _ (by simp)) rfl rfl (X1 _ _ lk) rfl hp rfl (X1 _ _ hco) rfl hfv hfile F.htop ?_)) (hi := hi _ rfl))
  refine PySem.W.ks_loadName_global S.kind hks (PySem.Calls.loadGlobal_builtin ((e0.mod.glob.keeps up).keeps kp) F.hsup ((hb1.keeps up).keeps kp) ((hb2 _ (by decide)).trans (by rfl)) ⟨rfl, ?_⟩)
  refine wpAny_loadName_free S.kind (S.frk _ (by simp)) rfl ⟨_, X1 _ _ hce, rfl⟩ ?_
  refine wpAny_loadName_local S.kind (hzl _ (List.mem_of_mem_head? hps)) hns hlk ?_
  refine PySem.ks_wpAny_isType_cls hC1 rfl ⟨rfl, ?_⟩
  refine PySem.ks_wpAny_call_super hC1 rfl ha1 rfl (fun c z => by cases z) (PySem.W.looks_mroIn X1 F.hsub) (fun h' e k => ?_)
  have X2 : K.In h' := X1.keeps k
  have ha2 := k _ _ ha1
  have IA : PySem.W.InstAt h' a (HandSPX.excO C t1) C none := ⟨ha2, rfl, rfl, trivial⟩
  have hf := F.hm
  unfold PySem.W.ks_superIn at hf
  rw [hcl] at hf
  refine PySem.W.kxs_getMethod PySem.W.kxs_ValueError e (PySem.W.looks_opaque X2 F.ho) (l₀ := .ref C :: bm) (fun A Q E s k q => wpAny_bind ((PySem.W.looks_clsIn X2 hcl) A _ E s k (wpAny_pure q))) rfl X2 hf (IA.type.andThen (PySem.W.looks_subIn X2 F.hB)) hne rfl ?_
  refine PySem.W.kxs_callWith (i := "ValueError.__init__") (x := a) rfl (PySem.Calls.evalArgs_plain (PySem.Calls.spliced_cons (PySem.Calls.Constant_str (k := j) (pos := p3) (PySem.Calls.spliced_nil ⟨Heap.get?_push_size _ rfl, ?_⟩))))
  refine call_mw (PySem.HandSPX.refsVE_contains · bm hbm) (Heap.get?_push_of_some _ (k _ _ hC1)) (Heap.get?_push_of_some _ ha2) (Heap.get?_push_size _ rfl) (by show 1 ≤ sizeLine; rw [sizeLine_eq]; omega) fun h2 t2 k2 e2 => ?_
  have I2 := I.kept (h' := h'.push (PySem.W.kxs_mw "ValueError.__init__" a)) (t' := tk + (ps.zip us).length + 1) fun b o z => Heap.get?_push_of_some _ (k b o z)
  have J := I2.write (t' := tk + (ps.zip us).length + 1 + 1) (x := a) (e := a) (o := exo a C none) (h' := h2) (by rw [ha]; exact True.intro) (.inl rfl) k2 ⟨_, e2⟩ (exo_ok e2)
  have eu : upd H a (exo a C none) = H := by
    funext b
    by_cases hb : b = a
    · rw [hb, upd_same, ha]
    · rw [upd_ne hb]
  rw [eu] at J
  refine PySem.wpAt_of_wpAny ?_
  have hb2 := hbody A outer ⟨hp0, g, d, tk, os⟩ H E (hr.deeper _)
  refine wpAny_mono (hb2.run [] _ _ H _ J hq) (fun fl s' hs => ?_) fun e s' hs => hs
  have fin : ∀ {σ' : L2.St} {H' : Hp} {v : V} {u : Value}, Inv (ncx CX P w K mg base N ⟨name, qual, params, .Expr (.Call (.Attribute (.Call (.Name "super" p0) [] [] p1) "__init__" p2) [.Constant (.str msg) j p3] [] p4) p5 :: rest, scope, [("__class__", cc)], cda⟩ fI A outer ⟨hp0, g, d, tk, os⟩ H E) [] σ' H' s' → L2.RelV v u → Q v H' → CE outer P w H ⟨hp0, g, d, tk, os⟩ Q u s' :=
    fun {σ' H' v u} J rv q => ⟨v, H', J.os, J.bare, J.base, J.hok, rv, q⟩
  cases fl with
  | ret u =>
    obtain ⟨v, σ', H', J, rv, q⟩ := hs
    exact fin J rv q
  | next =>
    obtain ⟨σ', H', J, q⟩ := hs
    exact fin (v := V.non) (u := Value.none) J rfl q
  | brk =>
    obtain ⟨_, _, _, q⟩ := hs
    exact False.elim q
  | cont =>
    obtain ⟨_, _, _, q⟩ := hs
    exact False.elim q
end
end M
namespace M
open PySem PySem.Spec L2 NdefX PyProof.Rows
/-- what __init__ leaves: the fields fs in a new dict; no field, no dict -/
def IniPost (a C : Addr) (H : Hp) (fs : List (Str × V)) (H' : Hp) : Prop := match fs with
  | [] => H' = H
  | _ => ∃ dx, H dx = none ∧ dx ≠ a ∧ H' a = some (exo a C (some dx)) ∧ H' dx = some (exd dx fs) ∧ ∀ b, b ≠ a → b ≠ dx → H' b = H b
/-- the promise of an __init__ -/
def IniOk (P : Program) (w : World) (K : PySem.W.Frag) (mg : Str → Option Value) (base : Heap) (CX : CXT) (k : Nat) (C fI : Addr) (n : Nat) (fl : List V → List (Str × V)) : Prop :=
  ∀ (A : Around) (outer : List PySem.Env) (s : Shared) (H : Hp) (us : List Value) (a : Addr) (ws : List V) (Q : VK) (E : XK), Room k A → Env0 P w K mg base A outer s H → Vals (.ref a :: ws) us → ws.length = n → H a = some (exo a C none) →
    (∀ H', IniPost a C H (fl ws) H' → Q .non H') → codeAny (model P w) A (.call (.ref fI) ⟨us, []⟩) (CR CX outer P w H s Q E) s
theorem IniOk.mono {P : Program} {w : World} {K : PySem.W.Frag} {mg : Str → Option Value} {base : Heap} {CX : CXT} {j k : Nat} {C fI : Addr} {n : Nat} {fl : List V → List (Str × V)} (h : IniOk P w K mg base CX j C fI n fl) (e : j ≤ k) : IniOk P w K mg base CX k C fI n fl :=
  fun A outer s H us a ws Q E hr => h A outer s H us a ws Q E (hr.mono e)
section
variable {X : Cx} {C fI : Addr} {k n : Nat} {fl : List V → List (Str × V)}
/-- the end of C(..) where no field was written -/
theorem mk_end1 {pins : List (Addr × Obj)} {σ : L2.St} {H1 : Hp} {hp hp2 h2 : Heap} {g1 g2 : Array GenState} {d1 d2 : Drawn} {t1 t2 : Nat} {os1 os2 : OsState} {a C : Addr} (I1 : Inv X pins σ H1 ⟨hp, g1, d1, t1, os1⟩)
    (ha : hp.objs.size ≤ a) (k : ∀ b o, hp.get? b = some o → hp2.get? b = some o) (un : Un (frs X.stack) [] (upd H1 a (exo a C none)) (upd H1 a (exo a C none)) hp2 h2) (hok : HOk X.prog X.w (upd H1 a (exo a C none)) h2) (ho : os2 = os1) (hb : AllBare g2) :
    ∃ (t0 : Addr) (G : Heap), Inv X pins σ H1 ⟨G, g2, d2, t2, os2⟩ ∧ (∀ b o, G.get? b = some o → h2.get? b = some o) ∧ G.get? a = none ∧
      h2.get? a = some ({ cls := .ref C, dict := none, data := .fields #[.ref t0, .none, .none, .none, .bool false, .none] } : Obj) := by
  obtain ⟨t0, hoe⟩ := exo_at hok upd_same
  have hn : H1 a = none := I1.hok.fresh ha
  obtain ⟨G, g1', g2'⟩ := restrict h2 fun b => decide (b ≠ a)
  have gk : ∀ b, b ≠ a → G.get? b = h2.get? b := fun b hb => g1' b (decide_eq_true hb)
  have ge : G.get? a = none := g2' a (by simp)
  have nha : ∀ {b : Addr} {o : Obj}, hp.get? b = some o → b ≠ a := fun {b o} z => Nat.ne_of_lt (Nat.lt_of_lt_of_le (Heap.lt_size z) ha)
  have up : ∀ {b : Addr}, b ≠ a → H1 b = none → upd H1 a (exo a C none) b = none := fun {b} hb n => by rw [upd_ne hb]; exact n
  have U : Un (frs X.stack) [] H1 H1 hp G := {
    keep := fun b o z n hf hx => by
      rw [gk b (nha z)]
      exact un.keep b o (k b o z) (up (nha z) n) hf hx
    slot := fun b o z n hf hx => by
      rw [gk b (nha z)]
      exact un.slot b o (k b o z) (up (nha z) n) hf hx
    free := fun b o z n hx => n
    there := fun b o z hx => by
      rw [gk b (nha z)]
      exact un.there b o (k b o z) hx
    tups := fun b xs z => z
    frzs := fun b o v z => z
    tbls := fun b ps z => ⟨#[], by rw [z]; simp⟩ }
  have hok3 : HOk X.prog X.w H1 G := fun b o z => by
    have hba : b ≠ a := fun e => by rw [e, hn] at z; cases z
    have z2 : upd H1 a (exo a C none) b = some o := by rw [upd_ne hba]; exact z
    have noa : ∀ {c : Addr}, upd H1 a (exo a C none) c = some (.own b) → c ≠ a := fun {c} hc => at_ne upd_same hc exo_own
    exact (hok b o z2).stay (fun c v hc y => by
        have hca : c ≠ a := by
          rcases hc with hc | hc
          · rw [hc]
            exact hba
          · exact noa hc
        rw [gk c hca]
        exact y)
      (fun c hc => by have := noa hc; rw [upd_ne this] at hc; exact hc) (fun c xs hc => by
        have : c ≠ a := at_ne upd_same hc exo_tup
        rw [upd_ne this] at hc
        exact hc)
  exact ⟨t0, G, I1.call' (ch := []) ho U hok3 hb (fun b z => absurd z (by simp)), fun b o z => by
    by_cases hba : b = a
    · rw [hba, ge] at z
      cases z
    · exact (gk b hba).symm.trans z, ge, hoe⟩
/-- C(..), its fields -/
def tMkS (C : Addr) (n : Nat) (fl : List V → List (Str × V)) (ta : TA) : L2.St → Hp → XK → Prop := fun σ H Q => ta σ H fun vs H1 => vs.length = n ∧
  (fl vs = [] → Q (.ref C) none H1) ∧ (fl vs ≠ [] → ∀ d, H1 d = none → Q (.ref C) (some d) (upd H1 d (.xd (fl vs))))
theorem mk_call {pins : List (Addr × Obj)} {σ : L2.St} {H1 : Hp} {s1 : Shared} {us : List Value} {vs : List V} {Q : XK} (T : OexC X.K C) (iC : PySem.W.findIn X.K (.ref C) "__init__" = some (some (.ref fI))) (tI : PySem.W.typeIn X.K (.ref fI) = some (.type "function"))
    (F1 : IniOk X.prog X.w X.K X.mg X.base (fun _ _ _ _ _ _ => False) k C fI n fl) (hr : Room (k + 1) X.A) (hn9 : n ≤ 1000) (I1 : Inv X pins σ H1 s1) (r1 : Vals vs us) (hl : vs.length = n)
    (q1 : fl vs = [] → Q (.ref C) none H1) (q2 : fl vs ≠ [] → ∀ d, H1 d = none → Q (.ref C) (some d) (upd H1 d (.xd (fl vs)))) : wpAny (model X.prog X.w) X.A (call (.ref C) us) (L2N.MkP X pins σ Q) X.xe s1 := by
  obtain ⟨nm, q, N, bs, bm, sn, sub, ab, col, dd, k0, k1, k2, k3, k5, hC, hbm⟩ := T.cls
  obtain ⟨hp, g, dr, tk, os⟩ := s1
  have hsz : hp.objs.size ≤ hp.objs.size + 1 := Nat.le_succ _
  have hn : H1 (hp.objs.size + 1) = none := I1.hok.fresh hsz
  have kk : ∀ b o, hp.get? b = some o → ((hp.push (PySem.W.kdv_tup us)).push (PySem.HandSPX.excO C hp.objs.size)).get? b = some o := fun b o e => Heap.get?_push_of_some _ (Heap.get?_push_of_some _ e)
  have hget : ((hp.push (PySem.W.kdv_tup us)).push (PySem.HandSPX.excO C hp.objs.size)).get? (hp.objs.size + 1) = some (PySem.HandSPX.excO C hp.objs.size) := by heap_get
  have I2 : Inv X pins σ (upd H1 (hp.objs.size + 1) (exo (hp.objs.size + 1) C none)) ⟨(hp.push (PySem.W.kdv_tup us)).push (PySem.HandSPX.excO C hp.objs.size), g, dr, tk, os⟩ :=
    I1.laid (t' := tk) (a := hp.objs.size + 1) (o := exo (hp.objs.size + 1) C none) (h' := (hp.push (PySem.W.kdv_tup us)).push (PySem.HandSPX.excO C hp.objs.size)) kk hsz (exo_ok hget)
  have hus : us.length ≤ sizeLine := by
    rw [← Paired.length r1, sizeLine_eq]
    omega
  refine wpAny_call (PySem.HandSPX.call_own F.excBase_ValueError (fun Y => PySem.HandSPX.refsVE_contains Y bm hbm) (I1.kIn _ _ hC) (PySem.W.looks_findIn I1.kIn iC) (fun self => PySem.W.bind_fn I1.kIn self tI) hus
    (codeAny_mono (F1 _ X.stack _ _ (Value.ref (hp.objs.size + 1) :: us) (hp.objs.size + 1) vs (fun v H2 => v = .non ∧ IniPost (hp.objs.size + 1) C (upd H1 (hp.objs.size + 1) (exo (hp.objs.size + 1) C none)) (fl vs) H2) (fun _ _ _ => False) (hr.make C us []) (I2.env0.make C us []) (.cons rfl r1) hl upd_same fun H' h => ⟨rfl, h⟩) fun r s' hq' => ?_))
  cases r with
  | error er => exact (show False from hq').elim
  | ok fl2 =>
    cases fl2 with
    | ret u =>
      obtain ⟨v, H2, os2, bare2, un2, hok2, rv, ev, post⟩ := hq'
      subst ev
      obtain ⟨h2, g2, d2, t2, os'⟩ := s'
      refine ⟨rv, ?_⟩
      cases hf : fl vs with
      | nil =>
        rw [hf] at post
        have e2 : H2 = upd H1 (hp.objs.size + 1) (exo (hp.objs.size + 1) C none) := post
        subst e2
        obtain ⟨t0, G, J, kG, ge, hoe⟩ := mk_end1 (d2 := d2) (t2 := t2) I1 hsz kk un2 hok2 os2 bare2
        exact ⟨hp.objs.size + 1, _, _, ⟨G, g2, d2, t2, os'⟩, _, .ref C, none, rfl, J, kG, ge, hoe, ⟨rfl, rfl, fun vs hv => by cases hv; rfl⟩, rfl, rfl, hn, rfl, bare2, raises_own T.exC T.tyC, q1 hf⟩
      | cons x xs =>
        rw [hf] at post
        obtain ⟨d, hd0, hda, ea, ed, hrest⟩ := post
        have hd1 : H1 d = none := by rw [upd_ne hda] at hd0; exact hd0
        obtain ⟨t0, G, J, kG, ge, hoe, na⟩ := mk_end0 (d2 := d2) (t2 := t2) I1 hsz kk un2 hok2 os2 bare2 ea ed hd1
        have eH : upd (del H2 (hp.objs.size + 1)) d (.xd (x :: xs)) = upd H1 d (.xd (x :: xs)) := by
          funext b
          by_cases hbd : b = d
          · rw [hbd, upd_same, upd_same]
          · rw [upd_ne hbd, upd_ne hbd]
            by_cases hba : b = hp.objs.size + 1
            · rw [hba, del_same, hn]
            · rw [del_ne hba, hrest b hba hbd, upd_ne hba]
        rw [eH] at J na
        refine ⟨hp.objs.size + 1, _, _, ⟨G, g2, d2, t2, os'⟩, _, .ref C, some d, rfl, J, kG, ge, hoe, ⟨rfl, rfl, fun vs hv => by cases hv; rfl⟩, rfl, rfl, na, rfl, bare2, raises_own T.exC T.tyC, ?_⟩
        have := q2 (by rw [hf]; simp) d hd1
        rw [hf] at this
        exact this
    | next => exact False.elim hq'
    | brk => exact False.elim hq'
    | cont => exact False.elim hq'
theorem pmk_sup {x : Str} {e : Expr} {es : List Expr} {ta : TA} {p pos : Pos} (T : OexC X.K C) (iC : PySem.W.findIn X.K (.ref C) "__init__" = some (some (.ref fI))) (tI : PySem.W.typeIn X.K (.ref fI) = some (.type "function"))
    (F1 : IniOk X.prog X.w X.K X.mg X.base (fun _ _ _ _ _ _ => False) k C fI n fl) (hr : Room (k + 1) X.A) (hn9 : n ≤ 1000) (hm : X.mg x = some (.ref C)) (ha : PA X (e :: es) ta) (hg : Gl X x := by rfl)
    (hdb : (x == ("__debug__" : Str)) = false := by decide) (he : starEach (e :: es) X.env = (false, eval e X.env) :: starEach es X.env := by rfl) (hpl : (backTo pos (starEach es X.env)).any (·.1) = false := by rfl) :
    L2N.PMk X (.Call (.Name x p) (e :: es) [] pos) (tMkS C n fl ta) := by
  intro pins s σ H Q I h
  refine wpAny_Call_Name_kw (ld_glob I hg hm ?_ hdb)
  exact PySem.W.callWith_K (h₀ := X.base) I.ok.mod.kin T.kC (thn (ha.run pos pins s σ H _ I h) fun us s1 ⟨vs, H1, I1, r1, hl, q1, q2⟩ => ⟨I1.kIn, mk_call T iC tI F1 hr hn9 I1 r1 hl q1 q2⟩) he hpl
end
section
variable {P : Program} {w : World} {K : PySem.W.Frag} {mg : Str → Option Value} {base : Heap} {N : List Str} {k : Nat} {C fI cc cda : Addr} {name qual : Str} {params : Arguments} {scope : Scope} {p0 p1 p2 p3 p4 p5 q1 q2 q3 q4 r1 r2 r3 r4 : Pos} {msg f1 f2 x1 x2 : Str} {j : Nat} {ar : Arg}
  {pl : PySem.Env → Sem Bool}
abbrev supS (p0 p1 p2 p3 p4 p5 : Pos) (msg : Str) (j : Nat) : Stmt := .Expr (.Call (.Attribute (.Call (.Name "super" p0) [] [] p1) "__init__" p2) [.Constant (.str msg) j p3] [] p4) p5
abbrev SupEv (p0 p1 p2 p3 p4 : Pos) (msg : Str) (j : Nat) (pl : PySem.Env → Sem Bool) : Prop := ∀ env : PySem.Env, eval (.Call (.Attribute (.Call (.Name "super" p0) [] [] p1) "__init__" p2) [.Constant (.str msg) j p3] [] p4) env = (do
      let ov ← attributeBase (.Call (.Name "super" p0) [] [] p1) "__init__" env (eval (.Call (.Name "super" p0) [] [] p1) env)
      standAt p2.atName
      let (f, first) ← holding [ov] (getMethod ov "__init__" (pl env))
      callWith p4 f first (backTo p4 (starEach [.Constant (.str msg) j p3] env)) [])
theorem ini0 (F : SupC P K mg C fI cc cda name qual params [supS p0 p1 p2 p3 p4 p5 msg j] scope) (S : NScope N ["self"] ["__class__"] scope) (hp : (params.posonlyargs ++ params.args).head? = some ar) (har : ar.arg = "self") (hks : scope.names.lookup ("super" : Str) = some .globalImplicit)
    (hb : ∀ (kV doc pm ctv : Value) (an : Option Addr) (us : List Value), us.length = (["self"] : List Str).length → bindArgs (PySem.W.ksFn name qual params [supS p0 p1 p2 p3 p4 p5 msg j] scope .none kV doc pm an (.ref cda) ctv cc) ⟨us, []⟩ = pure ((["self"] : List Str).zip us))
    (he : SupEv p0 p1 p2 p3 p4 msg j pl) (hi : ∀ env : PySem.Env, env.scope = scope → interactive env = false) : IniOk P w K mg base (fun _ _ _ _ _ _ => False) (k + 1) C fI 0 fun _ => [] := by
  intro A outer s H us a ws Q E hr e0 r hw ha q
  have hws : ws = [] := List.length_eq_zero_iff.mp hw
  subst hws
  exact init_run (t := fun D σ H => D.nx σ H) F S hp (by rw [har]; rfl) hks hb (fun A outer s H E hr2 => pss_nil) he hi hr e0 r rfl rfl ha (q H rfl)
abbrev fldS (f x : Str) (q1 q2 q3 q4 : Pos) : Stmt := .Assign [.Attribute (.Name "self" q1) f q2] (.Name x q3) q4
abbrev FldSw (scope : Scope) (f x : Str) (q1 q2 q3 q4 : Pos) : Prop := ∀ env : PySem.Env, env.scope = scope → swapsWith (.Name x q3) (some (.Attribute (.Name "self" q1) f q2)) q4.line env = pure false
theorem ini1 (F : SupC P K mg C fI cc cda name qual params [supS p0 p1 p2 p3 p4 p5 msg j, fldS f1 x1 q1 q2 q3 q4] scope) (S : NScope ["self", x1, "__class__"] ["self", x1] ["__class__"] scope) (hp : (params.posonlyargs ++ params.args).head? = some ar) (har : ar.arg = "self") (hks : scope.names.lookup ("super" : Str) = some .globalImplicit)
    (hb : ∀ (kV doc pm ctv : Value) (an : Option Addr) (us : List Value), us.length = (["self", x1] : List Str).length → bindArgs (PySem.W.ksFn name qual params [supS p0 p1 p2 p3 p4 p5 msg j, fldS f1 x1 q1 q2 q3 q4] scope .none kV doc pm an (.ref cda) ctv cc) ⟨us, []⟩ = pure ((["self", x1] : List Str).zip us))
    (he : SupEv p0 p1 p2 p3 p4 msg j pl) (hi : ∀ env : PySem.Env, env.scope = scope → interactive env = false) (hs1 : FldSw scope f1 x1 q1 q2 q3 q4) (hno1 : PySem.W.findIn K (.ref C) f1 = some none)
    (hd1 : (x1 == ("__debug__" : Str)) = false) (hc1 : (x1 == ("__classdict__" : Str)) = false) : IniOk P w K mg base (fun _ _ _ _ _ _ => False) (k + 1) C fI 1 fun vs => [(f1, vs.getD 0 .non)] := by
  intro A outer s H us a ws Q E hr e0 r hw ha q
  match ws, hw with
  | [y], _ =>
    refine init_run (k := k) (t := tOst K f1 (tVar 0) (tVar 1)) F S hp (by rw [har]; rfl) hks hb (fun A outer s H E hr2 => by
      refine pss_one (ps_ost (to := tVar 0) (te := tVar 1) ?_ ?_ (hs := hs1 _ ?_))
      · exact pe_var (i := 0) rfl (.inl (S.par "self" (by simp)))
      · exact pe_var (i := 1) rfl (.inl (S.par x1 (by simp))) hd1 hc1
      · rfl) he hi hr e0 r rfl rfl ha ?_
    refine ⟨y, rfl, .ref a, rfl, a, C, rfl, F.T, hno1, .inl ⟨ha, fun dx n ne => q _ ?_⟩⟩
    exact ⟨dx, n, ne, upd_same, by rw [upd_ne ne, upd_same]; rfl, fun b h1 h2 => by rw [upd_ne h1, upd_ne h2]⟩
theorem ini2 (F : SupC P K mg C fI cc cda name qual params [supS p0 p1 p2 p3 p4 p5 msg j, fldS f1 x1 q1 q2 q3 q4, fldS f2 x2 r1 r2 r3 r4] scope) (S : NScope ["self", x1, x2, "__class__"] ["self", x1, x2] ["__class__"] scope) (hp : (params.posonlyargs ++ params.args).head? = some ar) (har : ar.arg = "self") (hks : scope.names.lookup ("super" : Str) = some .globalImplicit)
    (hb : ∀ (kV doc pm ctv : Value) (an : Option Addr) (us : List Value), us.length = (["self", x1, x2] : List Str).length → bindArgs (PySem.W.ksFn name qual params [supS p0 p1 p2 p3 p4 p5 msg j, fldS f1 x1 q1 q2 q3 q4, fldS f2 x2 r1 r2 r3 r4] scope .none kV doc pm an (.ref cda) ctv cc) ⟨us, []⟩ = pure ((["self", x1, x2] : List Str).zip us))
    (he : SupEv p0 p1 p2 p3 p4 msg j pl) (hi : ∀ env : PySem.Env, env.scope = scope → interactive env = false) (hs1 : FldSw scope f1 x1 q1 q2 q3 q4) (hs2 : FldSw scope f2 x2 r1 r2 r3 r4) (hno1 : PySem.W.findIn K (.ref C) f1 = some none) (hno2 : PySem.W.findIn K (.ref C) f2 = some none)
    (hd1 : (x1 == ("__debug__" : Str)) = false) (hc1 : (x1 == ("__classdict__" : Str)) = false) (hd2 : (x2 == ("__debug__" : Str)) = false) (hc2 : (x2 == ("__classdict__" : Str)) = false) : IniOk P w K mg base (fun _ _ _ _ _ _ => False) (k + 1) C fI 2 fun vs => [(f2, vs.getD 1 .non), (f1, vs.getD 0 .non)] := by
  intro A outer s H us a ws Q E hr e0 r hw ha q
  match ws, hw with
  | [y, z], _ =>
    refine init_run (k := k) (t := tSeq (tOst K f1 (tVar 0) (tVar 1)) (tOst K f2 (tVar 0) (tVar 2))) F S hp (by rw [har]; rfl) hks hb (fun A outer s H E hr2 => by
      refine pss_cons (ps_ost (to := tVar 0) (te := tVar 1) ?_ ?_ (hs := hs1 _ ?_)) (pss_one (ps_ost (to := tVar 0) (te := tVar 2) ?_ ?_ (hs := hs2 _ ?_)))
      · exact pe_var (i := 0) rfl (.inl (S.par "self" (by simp)))
      · exact pe_var (i := 1) rfl (.inl (S.par x1 (by simp))) hd1 hc1
      · rfl
      · exact pe_var (i := 0) rfl (.inl (S.par "self" (by simp)))
      · exact pe_var (i := 2) rfl (.inl (S.par x2 (by simp))) hd2 hc2
      · rfl) he hi hr e0 r rfl rfl ha ?_
    refine ⟨y, rfl, .ref a, rfl, a, C, rfl, F.T, hno1, .inl ⟨ha, fun dx n ne => ?_⟩⟩
    refine ⟨z, rfl, .ref a, rfl, a, C, rfl, F.T, hno2, .inr ⟨dx, [(f1, y)], upd_same, by rw [upd_ne ne, upd_same], by simp, q _ ?_⟩⟩
    exact ⟨dx, n, ne, by rw [upd_ne (Ne.symm ne), upd_same], upd_same, fun b h1 h2 => by rw [upd_ne h2, upd_ne h1, upd_ne h2]⟩
end
end M
namespace M
open PySem PySem.Spec L2
/-! ### raise -/
def flV (fl : List (Str × Nat)) (vs : List V) : List (Str × V) := fl.map fun p => (p.1, vs.getD p.2 .non)
def flD (fl : List (Str × Nat)) (ds : List D) : List (Str × D) := fl.map fun p => (p.1, ds.getD p.2 .non)
/-- an own exception class that may be raised -/
structure MExc (P : Program) (w : World) (K : PySem.W.Frag) (mg : Str → Option Value) (base : Heap) (G : Wd) (k : Nat) (c : Str) (n : Nat) (fl : List (Str × Nat)) : Prop where
  ex : ∃ C fI : Addr, OexC K C ∧ PySem.W.findIn K (.ref C) "__init__" = some (some (.ref fI)) ∧ PySem.W.typeIn K (.ref fI) = some (.type "function") ∧ IniOk P w K mg base (fun _ _ _ _ _ _ => False) k C fI n (flV fl) ∧ mg c = some (.ref C) ∧ G.cls c = some C
  small : n ≤ 1000
@[simp] def sRaise (c : Str) (n : Nat) (fl : List (Str × Nat)) (f : DenL) : SDen := fun ρ st => sOf f (fun ds ρ st => if ds.length = n then .exc c (flD fl ds) ρ st else .stuck) ρ st
section
variable {G : Wd} {W : WX} {X : Cx} {Z : Zone} {H : Hp} {L : List Addr} {st : Sto}
theorem Reps.getD {ds : List D} {vs : List V} (r : Reps G Z H ds vs) (i : Nat) : Rep G Z H (ds.getD i .non) (vs.getD i .non) := by
  rw [List.getD_eq_getElem?_getD, List.getD_eq_getElem?_getD]
  cases e : ds[i]? with
  | none =>
    rw [r.none_of e]
    exact .non
  | some d =>
    obtain ⟨v, e2, rv⟩ := r.get e
    rw [e2]
    exact rv
theorem repF_fl {ds : List D} {vs : List V} (r : Reps G Z H ds vs) : ∀ fl : List (Str × Nat), RepF G Z H (flD fl ds) (flV fl vs)
  | [] => .nil
  | (f, i) :: fl => .cons (r.getD i) (repF_fl r fl)
theorem StOk.fresh_out (S : StOk G Z L st H) {p : Addr} (h : H p = none) : ¬ Zof Z L st p := fun z => by
  rcases z with z | ⟨n, o, e, _⟩
  · exact S.z0 p z h
  · exact S.lh p (List.mem_of_getElem? e) h
theorem ms_raise {k n : Nat} {c : Str} {fl : List (Str × Nat)} {p pos pos' : Pos} {e : Expr} {es : List Expr} {f : DenL} (hc : X.calm = true) (m : MExc X.prog X.w X.K X.mg X.base G k c n fl) (hr : Room (k + 1) X.A) (tk : L2N.Takes X W) (ha : MA G W X (e :: es) f) (hg : Gl X c := by rfl)
    (hdb : (c == ("__debug__" : Str)) = false := by decide) (he : starEach (e :: es) X.env = (false, eval e X.env) :: starEach es X.env := by rfl) (hpl : (backTo pos (starEach es X.env)).any (·.1) = false := by rfl) :
    MS G W X (.Raise (some (.Call (.Name c p) (e :: es) [] pos)) none pos') (sRaise c n fl f) := by
  obtain ⟨C, fI, T, iC, tI, ini, hm, hC⟩ := m.ex
  refine PS.imp (L2N.ps_raise hc tk (pmk_sup T iC tI ini hr m.small hm ha hg hdb he hpl)) fun E σ H q => ?_
  obtain ⟨Z, ρ, st, L, S, q⟩ := q
  refine ⟨Z, ρ, st, L, S, PostR.bindS S q fun ds st1 vs H1 L1 e1 f1 S1 r1 q1 => ?_⟩
  have q1 : PostS G Z W L1 st1 H1 (if ds.length = n then .exc c (flD fl ds) ρ st1 else .stuck) E := q1
  by_cases hn : ds.length = n
  · rw [if_pos hn] at q1
    refine ⟨by rw [← r1.length]; exact hn, fun e0 => ?_, fun e0 d hd => ?_⟩
    · have ef : fl = [] := by
        cases fl with
        | nil => rfl
        | cons _ _ => cases e0
      subst ef
      exact q1 σ H1 L1 C none [] Fw.refl S1 hC rfl .nil
    · have sm := same_new (o := .xd (flV fl vs)) hd
      have f2 : Fw Z L1 st1 H1 L1 st1 (upd H1 d (.xd (flV fl vs))) := Fw.same sm
      exact q1 σ _ L1 C (some d) (flV fl vs) f2 (S1.to f2 (S1.ok.same sm)) hC ⟨upd_same, S1.ok.fresh_out hd⟩ (repF_fl (r1.mono f2.keeps) fl)
  · rw [if_neg hn] at q1
    exact q1.elim
end
end M
/-! ### isinstance of an exception that has its dict -/
namespace PySem.W
open PySem PySem.Spec PySem.Calls PyProof.Rows
section
variable {prog : Program} {w : World} {A : Around} {E : Value → Shared → Prop} {s : Shared} {K : Frag} {x D : Addr} {ox : Obj} {od : Option Obj}
theorem mfind_data {C : Addr} {name : Str} {a g : Value} (hc : (clsIn K C).isSome = true) (ha : findIn K (.ref C) name = some (some a)) (hg : specialIn K a "__get__" = some (some g)) (ht : takesIn K a = some true) : findObj K C od name = some (.bind g a) := by
  obtain ⟨cd, hc⟩ := Option.isSome_iff_exists.mp hc
  unfold findObj
  rw [hc, Option.bind_some, ha, Option.bind_some]
  simp [hg, ht]
theorem mkin_class {Q : Option Value → Shared → Prop} (C : L2.ExcC K D)
    (X : K.In s.heap) (I : InstAt s.heap x ox D od) (h : Q (some (.ref D)) { s with toks := s.toks + 1 }) : wpAny (model prog w) A (getAttr? (.ref x) "__class__") Q E s := by
  have hf : findObj K D od "__class__" = some (.bind (.builtin "getset_descriptor.__get__") (.builtin "object.__class__")) := mfind_data (by obtain ⟨cd, hc, _⟩ := any_some C.hd; rw [hc]; rfl) C.ha C.hn C.ht
  obtain ⟨hp, g, d, t, os⟩ := s
  have L0 := I.type (M := model prog w)
  have L1 := looks_findIn (M := model prog w) X C.hg
  have L2 := looks_findIn (M := model prog w) X C.hk
  have L3 := looks_find (M := model prog w) X I hf
  have sub : Looks (model prog w) hp (isInstance (.ref x) (.type "BaseException")) true := L0.andThen (looks_subIn X C.hs)
  have hx0 : (false && onTheHeap (Value.builtin "BaseException.__getattribute__")) = false := rfl
  have hx2 : (Value.builtin "BaseException.__getattribute__" == Value.builtin "object.__getattribute__") = false := by decide +kernel
  have hx1 : (onTheHeap (Value.ref D) && Value.builtin "BaseException.__getattribute__" == Value.builtin "object.__getattribute__") = false := by rw [hx2]; rfl
  unfold getAttr? getAttrBy? getAttrBy
  refine wpAny_bind (wpAny_mkText (wpAny_bind (wpAny_attempt (wpAny_holding (wpAny_bind (L0.at (wpAny_bind (L1.at ?_))))))))
  show wpAny _ _ (if (onTheHeap (Value.ref D) && Value.builtin "BaseException.__getattribute__" == Value.builtin "object.__getattribute__") = true then _ else _) _ _ _
  rw [hx1, if_neg Bool.false_ne_true]
  unfold getAttrByItsOwn hookBefore
  refine wpAny_bind ?_
  rw [if_pos (show onTheHeap (Value.ref D) = true from rfl)]
  refine L2.at ?_
  refine wpAny_bind (wpAny_attempt (wpAny_holding ?_))
  unfold callGetattribute
  rw [hx0, if_neg Bool.false_ne_true]
  unfold boundAndCalled
  rw [PySem.F.excAttr_ValueError.ga.bind (.ref x)]
  refine wpAny_bind (wpAny_pure ?_)
  show wpAny _ _ (call (.builtin "BaseException.__getattribute__") [.ref x, .str "__class__" t]) _ _ _
  refine wpAny_call (codeAny_call_builtin PySem.F.excAttr_ValueError.ga.plain PySem.F.entry_bexc_ga ?_)
  refine @check_slot (model prog w) _ _ ⟨hp, g, d, t + 1, os⟩ "BaseException.__getattribute__" "BaseException" "__getattribute__" (.ref x) [.str "__class__" t] [] _ (by decide +kernel) (by decide +kernel) sub (PySem.F.args_bexc_ga (.ref x) (.str "__class__" t)) ?_
  unfold Builtin.«object.__getattribute__»
  refine wpAny_bind (wpAny_of_eq (a := ((Value.ref x : Value), [Value.str "__class__" t])) (by first | rfl | (simp only [slotArgs]; rfl)) ?_)
  refine wpAny_bind (wpAny_pure (wpAny_bind (L0.at (wpAny_bind (L3.at ?_)))))
  show wpAny _ _ (holding [Value.builtin "object.__class__"] (call (.builtin "getset_descriptor.__get__") [.builtin "object.__class__", .ref x, .ref D]) >>= ret) _ _ _
  refine wpAny_bind (wpAny_holding (wpAny_call (class_get (s := ⟨hp, g, d, t + 1, os⟩) (ox := ox) (od := od) X I C.hm ?_)))
  refine wpAny_pure ?_
  show wpAny _ _ (handedOut (.ref D)) _ _ _
  rw [handedOut_of (v := .ref D) rfl]
  first
    | exact wpAny_pure (wpAny_pure h)
    | exact wpAny_pure h
    | exact wpAny_pure (wpAny_bind (wpAny_pure (wpAny_pure h)))
theorem mkitx_exc (C : L2.ExcC K D) : KitX K (.ref x) (.ref D) (fun h => InstAt h x ox D od) where
  ty := fun _ _ _ I => I.type
  it := fun _ _ X _ => by
    obtain ⟨cdD, hcD, _⟩ := any_some C.hd
    unfold clsIn at hcD
    split at hcD
    · rename_i c' d' cd' sl' ho
      intro A' Q' E' s' k q
      unfold isType loadHead
      exact wpAny_bind (wpAny_loadPart (k _ _ (X _ _ ho)) (wpAny_pure q))
    · cases hcD
  ne := fun h tp dd its n sl X htp => by
    obtain ⟨cdD, hcD, _⟩ := any_some C.hd
    refine Bool.eq_false_iff.mpr fun q => ?_
    have e : D = tp := Value.ref.inj (beq_iff_eq.mp q)
    subst e
    unfold clsIn at hcD
    split at hcD
    · rename_i c' d' cd' sl' ho
      have z := (X _ _ ho).symm.trans htp
      cases z
    · cases hcD
  ca := fun X I k => mkin_class C X I k
end
end PySem.W
namespace M
open PySem PySem.Spec L2
/-! ### worlds that differ in what they pin -/
structure Like (G G' : Wd) : Prop where
  K : G'.K = G.K
  cls : G'.cls = G.cls
  fn : G'.fn = G.fn
section
variable {G G' : Wd} {Z : Zone} {H : Hp}
mutual
theorem Rep.conv (g : Like G G') : ∀ {d : D} {v : V}, Rep G Z H d v → Rep G' Z H d v
  | _, _, .non => .non
  | _, _, .bl b => .bl b
  | _, _, .int i => .int i
  | _, _, .str x => .str x
  | _, _, .tup r z h => .tup r z (Reps.conv g h)
  | _, _, .tupK r h => .tupK (g.K ▸ r) (Reps.conv g h)
  | _, _, .lst r z h => .lst r z (Reps.conv g h)
  | _, _, .dK r z h => .dK r z (RepK.conv g h)
  | _, _, .dT r z h => .dT r z (RepT.conv g h)
  | _, _, .ins e z c h => .ins e z (g.cls ▸ c) (RepF.conv g h)
  | _, _, .fn e => .fn (g.fn ▸ e)
  | _, _, .scr r z => .scr r z
  | _, _, .scrK h => .scrK (g.K ▸ h)
theorem Reps.conv (g : Like G G') : ∀ {d : List D} {v : List V}, Reps G Z H d v → Reps G' Z H d v
  | _, _, .nil => .nil
  | _, _, .cons h t => .cons (Rep.conv g h) (Reps.conv g t)
theorem RepK.conv (g : Like G G') : ∀ {d : List (D × D)} {v : List (Key × V)}, RepK G Z H d v → RepK G' Z H d v
  | _, _, .nil => .nil
  | _, _, .int h t => .int (Rep.conv g h) (RepK.conv g t)
  | _, _, .str h t => .str (Rep.conv g h) (RepK.conv g t)
theorem RepT.conv (g : Like G G') : ∀ {d : List (D × D)} {v : List (List Key × V)}, RepT G Z H d v → RepT G' Z H d v
  | _, _, .nil => .nil
  | _, _, .cons e h t => .cons (Reps.conv g e) (Rep.conv g h) (RepT.conv g t)
theorem RepF.conv (g : Like G G') : ∀ {d : List (Str × D)} {v : List (Str × V)}, RepF G Z H d v → RepF G' Z H d v
  | _, _, .nil => .nil
  | _, _, .cons h t => .cons (Rep.conv g h) (RepF.conv g t)
end
theorem Like.symm (g : Like G G') : Like G' G := ⟨g.K.symm, g.cls.symm, g.fn.symm⟩
theorem StOk.nil_of (z : ∀ a, Z a → H a ≠ none) (t : TabZ G'.T Z H) : StOk G' Z [] [] H := ⟨rfl, .nil, fun n a o e => by simp at e, z, fun a h => by simp at h, fun a h => by simp at h, t.zone fun a z => zof_nil.mp z⟩
end
/-- the world where p's object is the exception that is handled -/
abbrev gx (G : Wd) (p : Addr × Obj) (C : Addr) : Wd := { G with exc := some (p.1, C, p.2.dict) }
theorem like_gx {G : Wd} {p : Addr × Obj} {C : Addr} : Like G (gx G p C) := ⟨rfl, rfl, rfl⟩
/-- the context bears the world's exception -/
def HotX (G : Wd) (X : Cx) : Prop := ∃ (a C : Addr) (dd : Option Addr) (oe : Obj) (vs : Array Value), G.exc = some (a, C, dd) ∧ (a, oe) ∈ X.pn ∧ oe.cls = .ref C ∧ oe.dict = dd ∧ oe.data = .fields vs
section
variable {G : Wd} {W : WX} {X : Cx}
/-- isinstance(e, D), e the caught exception; sub: whether a class is below D -/
@[simp] def eIsX (i : Nat) (sub : Str → Option Bool) : Den := fun ρ st => match ρ[i]? with
  | some (some (.x c _)) => (match sub c with | some b => .ok (.bl b) st | none => .stuck)
  | _ => .stuck
theorem inst_pin {pins : List (Addr × Obj)} {σ : St} {H : Hp} {s : Shared} {a C : Addr} {dd : Option Addr} {oe : Obj} {vs : Array Value} {vfs : List (Str × V)} {Z : Zone} (I : Inv X pins σ H s) (hp : (a, oe) ∈ X.pn) (hc : oe.cls = .ref C) (hd : oe.dict = dd) (hv : oe.data = .fields vs) (x : XdAt Z H dd vfs) :
    ∃ od, PySem.W.InstAt s.heap a oe C od := by
  obtain ⟨hget, _⟩ := I.pin (a, oe) (List.mem_append.mpr (.inl hp))
  obtain ⟨oc, odc, oda, osl⟩ := oe
  dsimp only at hc hd hv
  subst hc hd hv
  cases odc with
  | none => exact ⟨none, hget, rfl, rfl, trivial⟩
  | some d =>
    have hx : ObjOk X.prog X.w H s.heap d (.xd vfs) := I.hok d _ x.1
    obtain ⟨mA, ⟨od, es, ep, ho, hr⟩, _⟩ := hx
    exact ⟨some od, hget, rfl, rfl, ho⟩
/-- what isinstance asks of the classes -/
structure XCls (G : Wd) (K : PySem.W.Frag) : Prop where
  exc : ∀ c C, G.cls c = some C → ExcC K C
  fld : ∀ c C, G.cls c = some C → XfC K C
def rIsX (X : Cx) : List V → Hp → VK → Prop := fun xs H Q => ∃ (a C : Addr) (dd : Option Addr) (oe : Obj) (vs : Array Value) (vfs : List (Str × V)) (Z : Zone) (c : V) (cv : Value) (b : Bool), xs = [.ref a, c] ∧ (a, oe) ∈ X.pn ∧ oe.cls = .ref C ∧ oe.dict = dd ∧ oe.data = .fields vs ∧ XdAt Z H dd vfs ∧ ExcC X.K C ∧
  (∀ u, RelV c u → u = cv) ∧ PySem.W.kitOne X.K (.ref C) cv = some b ∧ Q (.bl b) H
theorem call_isX : CallR X (.builtin "isinstance") (rIsX X) := by
  intro pins s σ H xs us Q I r h
  obtain ⟨a, C, dd, oe, vs, vfs, Z, c, cv, b, rfl, hp, hc, hd, hv, hx, hE, hcv, e, q⟩ := h
  cases r with
  | cons rx rr =>
    cases rr with
    | cons rt rr =>
      cases rr
      cases rx
      have ec := hcv _ rt
      subst ec
      obtain ⟨od, J⟩ := inst_pin I hp hc hd hv hx
      exact PySem.W.kia_one (PySem.W.mkitx_exc hE) I.kIn J e (fun z => nomatch z) fun tk => ⟨.bl b, H, I.kept (t' := tk) fun _ _ z => z, rfl, q⟩
theorem me_isx1 (i : Nat) {x y : Str} {v : V} {cv : Value} {sub : Str → Option Bool} {p px py pos : Pos} (hx : HotX G X) (hE : XCls G X.K) (hs : ∀ c C b, G.cls c = some C → sub c = some b → PySem.W.kitOne X.K (.ref C) cv = some b) (hcv : ∀ u, RelV v u → u = cv) (hm : X.mg "isinstance" = none) (h0 : PE X (.Name x px) (tVar i)) (h1 : PE X (.Name y py) (tC v)) (hg : Gl X "isinstance" := by rfl)
    (hst : starEach [.Name x px, .Name y py] X.env = (false, eval (.Name x px) X.env) :: starEach [.Name y py] X.env := by rfl) (hs2 : starEach [.Name y py] X.env = (false, eval (.Name y py) X.env) :: starEach [] X.env := by rfl) (hpl : (backTo pos (starEach [.Name y py] X.env)).any (·.1) = false := by rfl) :
    ME G W X (.Call (.Name "isinstance" p) [.Name x px, .Name y py] [] pos) (eIsX i sub) :=
  PE.imp (pe_callB call_isX hg hm (by decide +kernel) (pa_cons h0 (pa_cons h1 pa_nil hs2) hst) (by decide) (by decide) hst hpl) fun σ H Q q => by
    obtain ⟨Z, ρ, st, L, S, q⟩ := q
    unfold eIsX at q
    split at q
    · rename_i c fs er
      split at q
      · rename_i b eb
        obtain ⟨v0, ev, r⟩ := S.env.2 i _ er
        cases r with
        | x e1 e2 e3 e4 =>
          obtain ⟨a, C, dd, oe, vs, f1, f2, f3, f4, f5⟩ := hx
          rw [f1] at e1
          cases e1
          exact ⟨_, ev, _, _, _, oe, vs, _, _, v, cv, b, rfl, f2, f3, f4, f5, e3, hE.exc _ _ e2, hcv, hs _ _ _ e2 eb, q (.bl b) H L Fw.refl S.ok (.bl b)⟩
      · exact q.elim
    · exact q.elim
/-- e.f, e the caught exception -/
@[simp] def eXf (i : Nat) (f : Str) : Den := fun ρ st => match ρ[i]? with
  | some (some (.x _ fs)) => (match fs.lookup f with | some d => .ok d st | none => .stuck)
  | _ => .stuck
theorem RepF.look {Z : Zone} {H : Hp} {f : Str} : ∀ {fs : List (Str × D)} {vfs : List (Str × V)} {d : D}, RepF G Z H fs vfs → fs.lookup f = some d → ∃ v, vfs.lookup f = some v ∧ Rep G Z H d v
  | _, _, _, .nil, e => by simp at e
  | _, _, d, .cons (x := x) r t, e => by
    rw [List.lookup_cons] at e ⊢
    split at e
    · cases e
      exact ⟨_, rfl, r⟩
    · exact RepF.look t e
theorem SRep.x_inv {Z : Zone} {H : Hp} {L : List Addr} {c : Str} {fs : List (Str × D)} {v : V} (r : SRep G Z H L (.x c fs) v) : ∃ (a C : Addr) (dd : Option Addr) (vfs : List (Str × V)), v = .ref a ∧ G.exc = some (a, C, dd) ∧ G.cls c = some C ∧ XdAt Z H dd vfs ∧ RepF G Z H fs vfs := by
  cases r with
  | x e1 e2 e3 e4 => exact ⟨_, _, _, _, rfl, e1, e2, e3, e4⟩
theorem me_xf (i : Nat) {x f : Str} {px pos : Pos} (hx : HotX G X) (hE : XCls G X.K) (hno : ∀ c C, G.cls c = some C → PySem.W.findIn X.K (.ref C) f = some none) (h0 : PE X (.Name x px) (tVar i)) (hb : attributeBase (.Name x px) f X.env (eval (.Name x px) X.env) = eval (.Name x px) X.env := by rfl) :
    ME G W X (.Attribute (.Name x px) f pos) (eXf i f) := by
  refine ⟨fun pins s σ H Q I q => ?_⟩
  obtain ⟨Z, ρ, st, L, S, q⟩ := q
  unfold eXf at q
  split at q
  · rename_i c fs er
    split at q
    · rename_i d ed
      obtain ⟨v0, ev, r⟩ := S.env.2 i _ er
      obtain ⟨a1, C1, dd1, vfs, rfl, e1, e2, e3, e4⟩ := r.x_inv
      obtain ⟨a, C, dd, oe, vs, f1, f2, f3, f4, f5⟩ := hx
      rw [f1] at e1
      obtain ⟨rfl, rfl, rfl⟩ : a = a1 ∧ C = C1 ∧ dd = dd1 := by simpa using e1
      obtain ⟨v, el, rv⟩ := e4.look ed
      refine attr_of hb (thn (h0.run pins s σ H (fun x H1 => x = .ref a ∧ H1 = H) I ⟨_, ev, rfl, rfl⟩) fun u s1 hh => ?_)
      obtain ⟨x, H1, I1, rx, ex, eH⟩ := hh
      subst ex
      subst eH
      obtain rfl : u = Value.ref a := rx
      cases dd with
      | none =>
        have e3 : vfs = [] := e3
        subst e3
        cases el
      | some dd =>
        obtain ⟨ha, _⟩ := I1.pin (a, oe) (List.mem_append_left _ f2)
        have hx : ObjOk X.prog X.w H1 s1.heap dd (.xd vfs) := I1.hok dd _ e3.1
        obtain ⟨mA, hns, hr⟩ := hx
        obtain ⟨od, ho, hl⟩ := lookIn_ns hns
        obtain ⟨u, hu, ru⟩ := RelO.some_of (v := v) (o := mA f) (by rw [← el]; exact hr f)
        have T := hE.fld _ _ e2
        have J : PySem.W.InstAt s1.heap a oe C (some od) := ⟨ha, f3, by unfold PySem.W.notCls; rw [f5] <;> rfl, by rw [f4]; exact ho⟩
        exact PySem.HandSPX.exc_get I1.kIn J T.ga T.gg T.exC (PySem.W.findObj_own T.hdC (hno _ _ e2) rfl (by rw [hl, hu])) (handed_of ru) ⟨v, H1, I1.tok _, ru, q v H1 L Fw.refl S.ok rv⟩
    · exact q.elim
  · exact q.elim
end
end M
namespace M
open PySem PySem.Spec L2 L2H PyProof.Rows
/-! ### a def that is called in an except suite with the exception -/
structure FnHE (P : Program) (w : World) (K : PySem.W.Frag) (mg : Str → Option Value) (base : Heap) (CX : CXT) (k : Nat) (f : Addr) (fd : FuncData) (ps : List Str) (sp : (Addr × Obj) → Sp) : Prop where
  len : ∀ p vs H Q E, sp p vs H Q E → vs.length = ps.length
  run : ∀ (A : Around) (outer : List PySem.Env) (s : Shared) (H : Hp) (args : Args) (us : List Value) (vs : List V) (Q : VK) (E : XK) (p : Addr × Obj), RoomH k A → Hot1 A p → PinOk outer H s p → Env0 P w K mg base A outer s H → BindsTo s fd args (ps.zip us) → Vals vs us → sp p vs H Q E →
    codeAny (model P w) A (.call (.ref f) args) (CR CX outer P w H s Q E) s
theorem fn_ofHE {CX : CXT} {P : Program} {w : World} {K : PySem.W.Frag} {mg : Str → Option Value} {base : Heap} {k : Nat} {f : Addr} {name qual : Str} {params : Arguments} {body : List Stmt} {scope : Scope} {dV kV doc pm cdv ct oc : Value} {an od : Option Addr}
    {osl : Array (Option Value)} {N ps : List Str} {sp : (Addr × Obj) → Sp} (lk : K.lookup f = some ⟨oc, od, .func (PySem.W.fnOf name qual params body scope dV kV doc pm an cdv ct), osl⟩) (hcd : PySem.W.codeIn K cdv qual = true) (S : FnScope N ps scope)
    (len : ∀ p vs H Q E, sp p vs H Q E → vs.length = ps.length)
    (hbody : ∀ (A : Around) (outer : List PySem.Env) (s : Shared) (H : Hp) (vs : List V) (Q : VK) (E : XK) (p : Addr × Obj), Hot1 A p → RoomH k (A.deeper (envOfC qual scope s.heap.objs.size f cdv)) → sp p vs H Q E →
      ∃ t, PSs (cxH CX P w K mg base N qual scope f cdv A outer s H E p) body t ∧ t { nx := fun _ H' => Q .non H', rt := Q } (L2.start N vs) H) :
    FnHE P w K mg base CX (k + 1) f (PySem.W.fnOf name qual params body scope dV kV doc pm an cdv ct) ps sp := by
  refine ⟨len, fun A outer s H args us vs Q E p hr hot hpin e0 hb r hsp => ?_⟩
  have hl := len _ _ _ _ _ hsp
  have KX : K.In s.heap := e0.mod.kin.keeps fun b o e => (e0.bs b o e).1
  have lim : s.heap.NoLimit := e0.mod.nolimit.keeps fun b o e => (e0.bs b o e).1
  have hkind : ∀ y ∈ ps.zip us, scope.names.lookup y.1 = some .local ∨ (scope.names.lookup y.1 = some .cell ∧ ((cellsFrom (s.heap.objs.size + 1) scope.names []).lookup y.1).isSome = true) := fun ⟨n, v⟩ hy => by
    rcases S.par n (List.of_mem_zip hy).1 with q | q
    · exact .inl q
    · exact .inr ⟨q, PySem.W.cellsFrom_some _ _ _ (.inl q)⟩
  refine codeAny_call_function hr.depth (KX _ _ lk) rfl S.co S.gen rfl (PySem.W.codeRec_of KX hcd) (hb _ _ _ _ ?_)
  refine wpAny_newFunctionEnv_cells S.kind hkind fun env he s1 x => ?_
  subst he
  refine ⟨lim.keeps x.toInCall.keep, codeAny_func ?_⟩
  obtain ⟨t, ht, hq⟩ := hbody A outer s H vs Q E p hot (hr.deeper _) hsp
  have I : Inv (cxH CX P w K mg base N qual scope f cdv A outer s H E p) [] (L2.start N vs) H s1 := inv_startH S hpin e0 hl r x
  refine wpAny_mono (ht.run [] s1 (L2.start N vs) H _ I hq) (fun fl s' hs => ?_) fun e s' hs => hs
  have fin : ∀ {σ' : L2.St} {H' : Hp} {v : V} {u : Value}, Inv (cxH CX P w K mg base N qual scope f cdv A outer s H E p) [] σ' H' s' → RelV v u → Q v H' → CE outer P w H s Q u s' :=
    fun {σ' H' v u} J rv q => ⟨v, H', J.os, J.bare, J.base, J.hok, rv, q⟩
  cases fl with
  | ret u =>
    obtain ⟨v, σ', H', J, rv, q⟩ := hs
    exact fin J rv q
  | next =>
    obtain ⟨σ', H', J, q⟩ := hs
    exact fin (v := V.non) (u := Value.none) J rfl q
  | brk =>
    obtain ⟨_, _, _, q⟩ := hs
    exact False.elim q
  | cont =>
    obtain ⟨_, _, _, q⟩ := hs
    exact False.elim q
def spMX (G : Wd) (dn : FD) (p : Addr × Obj) : Sp := fun vs H Q E => ∃ (C : Addr) (c : Str) (fs : List (Str × D)) (vfs : List (Str × V)) (Z : Zone) (dvs : Array Value), vs = [.ref p.1] ∧ p.2.cls = .ref C ∧ p.2.data = .fields dvs ∧ G.cls c = some C ∧ (∀ a, Z a → H a ≠ none) ∧ TabZ G.T Z H ∧
  XdAt Z H p.2.dict vfs ∧ RepF G Z H fs vfs ∧ match dn [.x c fs] [] with
    | .ok d [] => ∀ v H', Fw Z [] [] H [] [] H' → TabZ G.T Z H' → Rep G Z H' d v → Q v H'
    | _ => False
section
variable {P : Program} {w : World} {K : PySem.W.Frag} {mg : Str → Option Value} {base : Heap} {G : Wd}
theorem fn_MH {x qual : Str} {s : Stmt} {f : Addr} {fd : FuncData} {N ps : List Str} {k : Nat} {fb : SDen} (F : Fun K x qual s f fd) (S : FnScope N ps (defScope s)) (hn : ps.length = 1) (hN : 1 ≤ N.length)
    (hbody : ∀ (cdv : Value) (A : Around) (outer : List PySem.Env) (sh : Shared) (H : Hp) (E : XK) (p : Addr × Obj) (C : Addr), RoomH k (A.deeper (envOfC qual (defScope s) sh.heap.objs.size f cdv)) →
      L2N.Takes (cxH (L2N.CX P w) P w K mg base N qual (defScope s) f cdv A outer sh H E p) (WD E) → PassesOwn (model P w) (A.deeper (envOfC qual (defScope s) sh.heap.objs.size f cdv)) (envOfC qual (defScope s) sh.heap.objs.size f cdv) (cxH (L2N.CX P w) P w K mg base N qual (defScope s) f cdv A outer sh H E p).xe →
      HotX (gx G p C) (cxH (L2N.CX P w) P w K mg base N qual (defScope s) f cdv A outer sh H E p) → MSs (gx G p C) (WD E) (cxH (L2N.CX P w) P w K mg base N qual (defScope s) f cdv A outer sh H E p) (defBody s) fb) :
    FnHE P w K mg base (L2N.CX P w) (k + 1) f fd ps (spMX G (dFn 1 N.length fb)) := by
  obtain ⟨oc, od, kV, doc, pm, an, cdv, ct, osl, rfl, lk, hcd⟩ := F.ex
  refine fn_ofHE lk hcd S (fun p vs H Q E h => by obtain ⟨C, c, fs, vfs, Z, dvs, rfl, _⟩ := h; exact hn.symm) fun A outer sh H vs Q E p hot hr hsp => ?_
  obtain ⟨C, c, fs, vfs, Z, dvs, rfl, hc, hd, hC, hz, ht, hx, hf, q⟩ := hsp
  refine ⟨_, hbody cdv A outer sh H E p C hr (L2N.takes_of rfl rfl rfl rfl) (passes_of rfl) ⟨p.1, C, p.2.dict, p.2, dvs, rfl, List.mem_singleton.mpr rfl, hc, rfl, hd⟩, ?_⟩
  have z0 : ∀ {a}, Zof Z [] [] a → Z a := fun h => zof_nil.mp h
  refine ⟨Z, ([.x c fs] : List M.S).map some ++ List.replicate (N.length - 1) none, [], [], ⟨StOk.nil_of hz ht, ?_⟩, ?_⟩
  · have hf2 : RepF (gx G p C) (Zof Z [] []) H fs vfs := (RepF.conv like_gx hf).mono fun a o e z => ⟨.of e, fun q => z (z0 q)⟩
    have hx2 : XdAt (Zof Z [] []) H p.2.dict vfs := hx.zone fun a z => z0 z
    have r1 : SRep (gx G p C) (Zof Z [] []) H [] (.x c fs) (.ref p.1) := SRep.x (G := gx G p C) rfl hC hx2 hf2
    exact env_start (G := gx G p C) (.cons r1 .nil) hN
  · unfold dFn at q
    rw [if_pos (by rfl)] at q
    revert q
    cases fb (([.x c fs] : List M.S).map some ++ List.replicate (N.length - 1) none) [] with
    | stuck => exact fun q => q.elim
    | brk ρ s => exact fun q => q.elim
    | cont ρ s => exact fun q => q.elim
    | next ρ s' =>
      intro q σ' H' L' f' S'
      unfold cutOff at q
      simp only [List.length_nil, List.take_zero, List.all_nil, if_true] at q
      obtain ⟨f2, e⟩ := f'.cut (StOk.nil_of (G' := G) hz ht)
      simp only [List.length_nil, List.take_zero] at f2
      exact q .non H' f2 (S'.ok.tb.zone fun a z => .inl z) .non
    | ret d s' =>
      intro q v H' L' f' o' r'
      unfold cutOff at q
      simp only [List.length_nil, List.take_zero, List.all_nil, if_true] at q
      obtain ⟨f2, e⟩ := f'.cut (StOk.nil_of (G' := G) hz ht)
      simp only [List.length_nil, List.take_zero] at f2
      exact q v H' f2 (o'.tb.zone fun a z => .inl z) ((r'.zone fun a z => .inl z).conv like_gx.symm)
    | exc c fs ρ s' =>
      intro q
      unfold cutOff at q
      simp only [List.length_nil, List.take_zero, List.all_nil, if_true] at q
end
end M
namespace M
open PySem PySem.Spec L2 LamX PyProof.Rows
/-! ### a lambda is made: what becomes of the heap -/
/-- from H to H1: the table at P may grow, a code object may be new -/
structure TabTo (P : Addr) (H H1 : Hp) : Prop where
  keep : ∀ b o, H b = some o → b ≠ P → H1 b = some o
  there : ∀ b, H b ≠ none → H1 b ≠ none
  tab : ∀ ps, H P = some (.tbl ps) → ∃ ps', H1 P = some (.tbl ps')
theorem TabTo.refl {P : Addr} {H : Hp} : TabTo P H H := ⟨fun _ _ e _ => e, fun _ e => e, fun ps e => ⟨ps, e⟩⟩
section
variable {X : Cx} {pins : List (Addr × Obj)} {σ : L2.St} {H : Hp} {s : Shared}
theorem lam_new {T : List (Addr × Str)} {c P : Addr} {Zz : Zone} {params : Arguments} {body : Expr} {scope : Scope} {pos : Pos} {E : Value → Shared → Prop} {Q : Value → Shared → Prop} (I : Inv X pins σ H s) (TB : TabB X.base X.mg c P) (hcode : X.env.code = .ref c)
    (hm : (P, X.env.qual ++ "<lambda>") ∈ T) (hu : ∀ p ∈ T, p.1 = P → p.2 = X.env.qual ++ "<lambda>") (hT : TabZ T Zz H) (hz : ∀ a, Zz a → H a ≠ none) (hdef : defaultsOf params X.env = ([], [])) (hfree : ∀ y ∈ scope.names, y.2 = .free → ∃ c, X.env.cells.lookup y.1 = some c)
    (h : ∀ (f c' : Addr) (pm ctv : Value) (H1 : Hp) (s' : Shared), Inv X pins σ H1 s' → TabTo P H H1 → TabZ T Zz H1 →
      s'.heap.get? f = some (PySem.W.kla_obj "<lambda>" (X.env.qual ++ "<lambda>") params body scope (cloFrom X.env.cells scope.names []) pm c' ctv) → H1 f = none → f ∉ frs X.stack → H1 c' = some (CodeO c' (X.env.qual ++ "<lambda>")) → ¬ Zz c' → Q (.ref f) s') :
    wpAny (model X.prog X.w) X.A (eval (.Lambda params body scope pos) X.env) Q E s := by
  obtain ⟨hPz, ps, hP, ht, ha⟩ := hT _ hm
  have bP : s.heap.BuiltinsAt X.mg P := TB.bm.keeps I.bk
  have hP' : s.heap.get? P = some { cls := .none, data := .fields ps } := I.hok P _ hP
  have out : ∀ f, s.heap.objs.size ≤ f → f ∉ frs X.stack := fun f hf z => (List.mem_cons.mp (I.stkSub _ z)).elim (fun e => Nat.lt_irrefl _ (Nat.lt_of_lt_of_le (e ▸ I.lt) hf)) (I.nofs hf)
  refine PySem.W.kla_eval hdef ?_
  cases hc : codeAmong pos ps.toList with
  | some cv =>
    obtain ⟨c', e, hco, hcz⟩ := ha pos cv hc
    subst e
    refine PySem.W.kla_makeFunctionHit (mg := X.mg) (c := c) (P := P) (ps := ps) (closure_ok hfree) I.ok.glob (I.mod.glob.keeps I.bk) hcode (TB.code.keeps I.bk) hP' ht hc bP fun ctv h' tk hx hsz => ?_
    exact h h'.objs.size c' _ ctv H _ (I.kept (t' := tk) fun b o e => Heap.get?_push_of_some _ (hx b o e)) .refl hT (Heap.get?_push_size _ rfl) (I.hok.fresh hsz) (out _ hsz) hco hcz
  | none =>
    refine PySem.W.kla_makeFunction (mg := X.mg) (c := c) (P := P) (ps := ps) (closure_ok hfree) I.ok.glob (I.mod.glob.keeps I.bk) hcode (TB.code.keeps I.bk) hP' ht hc TB.gP bP fun c' ctv h' tk hx hge hlt hrec htb => ?_
    obtain ⟨c2, oc, vs, t, e2, hoc, hd, hv⟩ := hrec
    cases e2
    have nC : H c' = none := I.hok.fresh hge
    have hsz : s.heap.objs.size ≤ h'.objs.size := Nat.le_trans hge (Nat.le_of_lt hlt)
    have J := inv_table (t' := tk) (more := #[rawInt pos.line, rawInt pos.col, .ref c']) (h' := h'.push (PySem.W.kla_obj "<lambda>" (X.env.qual ++ "<lambda>") params body scope (cloFrom X.env.cells scope.names []) ((X.mg "__name__").getD .none) c' ctv)) I hP
      (fun b o hb e => Heap.get?_push_of_some _ (hx b o hb e)) (Heap.get?_push_of_some _ htb) hge ⟨oc, vs, t, Heap.get?_push_of_some _ hoc, hd, hv⟩
    have nPc : P ≠ c' := ne_of_none hP nC
    have kp : ∀ b o, H b = some o → b ≠ P → upd (upd H P (.tbl (ps ++ #[rawInt pos.line, rawInt pos.col, .ref c']))) c' (CodeO c' (X.env.qual ++ "<lambda>")) b = some o := fun b o e n => by rw [upd_ne (ne_of_none e nC), upd_ne n]; exact e
    have atP : upd (upd H P (.tbl (ps ++ #[rawInt pos.line, rawInt pos.col, .ref c']))) c' (CodeO c' (X.env.qual ++ "<lambda>")) P = some (.tbl (ps ++ #[rawInt pos.line, rawInt pos.col, .ref c'])) := by rw [upd_ne nPc, upd_same]
    have czn : ¬ Zz c' := fun z => hz c' z nC
    have codeP : ∀ {c0 : Addr} {q : Str}, H c0 = some (CodeO c0 q) → c0 ≠ P := fun {c0 q} e z => by
      rw [z, hP] at e
      exact codeO_ne ps (Option.some.inj e).symm
    refine h h'.objs.size c' _ ctv _ _ J ⟨kp, fun b e => ?_, fun _ _ => ⟨_, atP⟩⟩ (fun p hp => ?_) (Heap.get?_push_size _ rfl) ?_ (out _ hsz) upd_same czn
    · cases e1 : H b with
      | none => exact absurd e1 e
      | some o =>
        by_cases hb : b = P
        · rw [hb, atP]; simp
        · rw [kp b o e1 hb]; simp
    · obtain ⟨z0, ps', a1, a2, a3⟩ := hT p hp
      by_cases hb : p.1 = P
      · refine ⟨z0, _, by rw [hb]; exact atP, ?_, fun p' cv hcv => ?_⟩
        · simpa using PySem.TriplesOk_snoc _ _ _ _ ht
        · have hcv : codeAmong p' (ps.toList ++ [rawInt pos.line, rawInt pos.col, .ref c']) = some cv := by simpa using hcv
          rcases among_app _ ht hcv with z | z
          · obtain ⟨c0, e1, e2, e3⟩ := ha p' cv z
            exact ⟨c0, e1, kp _ _ (by rw [hu p hp hb]; exact e2) (codeP e2), e3⟩
          · exact ⟨c', z, by rw [hu p hp hb]; exact upd_same, czn⟩
      · refine ⟨z0, ps', kp _ _ a1 hb, a2, fun p' cv hcv => ?_⟩
        obtain ⟨c0, e1, e2, e3⟩ := a3 p' cv hcv
        exact ⟨c0, e1, kp _ _ e2 (codeP e2), e3⟩
    · have n1 : h'.objs.size ≠ c' := Nat.ne_of_gt hlt
      have n2 : h'.objs.size ≠ P := Nat.ne_of_gt (Nat.lt_of_lt_of_le (Heap.lt_size hP') hsz)
      rw [upd_ne n1, upd_ne n2]
      exact I.hok.fresh hsz
end
section
variable {G : Wd} {Z : Zone} {L : List Addr} {st : Sto} {H H1 : Hp} {P : Addr}
theorem Fw.tab {ps : Array Value} (hz : ¬ Zof Z L st P) (hP : H P = some (.tbl ps)) (t : TabTo P H H1) : Fw Z L st H L st H1 := by
  obtain ⟨ps', h1⟩ := t.tab ps hP
  refine ⟨⟨[], by simp, by simp⟩, fun a o e _ => ?_, t.there, fun a o z e => t.keep a o e fun y => hz (.inl (y ▸ z)), fun n o' _ e l => ⟨o', e, l⟩⟩
  by_cases ha : a = P
  · subst ha
    rw [hP] at e
    cases e
    exact ⟨_, h1, rfl⟩
  · exact .of (t.keep a o e ha)
theorem StOk.tab {ps : Array Value} (S : StOk G Z L st H) (hz : ¬ Zof Z L st P) (hP : H P = some (.tbl ps)) (t : TabTo P H H1) (tz : TabZ G.T (Zof Z L st) H1) : StOk G Z L st H1 := by
  have f := Fw.tab hz hP t
  refine ⟨S.len, S.nd, fun n a o e1 e2 => ?_, fun a z => t.there a (S.z0 a z), S.zl, fun a m => t.there a (S.lh a m), tz⟩
  refine OOk.zk (fun b hb => ?_) f (fun l => ⟨n, o, e1, e2, l⟩) (S.obj n a o e1 e2)
  obtain ⟨u, e⟩ : ∃ u, H b = some u := by
    obtain ⟨n, o', e1, _⟩ := hb
    exact Option.ne_none_iff_exists'.mp (S.lh b (List.mem_of_getElem? e1))
  rw [e]
  exact t.keep b u e fun y => hz (.inr (y ▸ hb))
end
end M
namespace M
open PySem PySem.Spec L2 PyProof.Rows
/-! ### xs.count(y), xs.index(y) -/
def cntB (f : PyData → Bool) : List PyData → Nat
  | [] => 0 | d :: r => (if f d = true then 1 else 0) + cntB f r
def rCountD (K : PySem.W.Frag) : V → List V → Hp → VK → Prop := fun x xs H Q => ∃ (a : Addr) (y : V) (d : PyData) (ds : List PyData), x = V.ref a ∧ xs = [y] ∧ Dp K H (V.ref a) (.list ds) ∧ Dp K H y d ∧ SeqAt.shaped (.list ds) = true ∧ SeqAt.shaped d = true ∧
  Q (.int (ds.countP fun z => PyData.eqv z d : Nat)) H
section
variable {G : Wd} {W : WX} {X : Cx}
theorem mt_countD (hu : X.A.units + 65 < cLine) : MtR X "list.count" (rCountD X.K) := by
  intro pins s σ H x xs v us Q I rx rxs h
  obtain ⟨a, y, d, ds, rfl, rfl, hl, hy, sl, sd, q⟩ := h
  cases rx
  cases rxs with
  | cons ry rt =>
    rename_i uy ut
    cases rt
    obtain ⟨bs, r1⟩ := Dp.reads I d y uy hy ry
    have hxs : PyData.canLayAll0 ds = true := SeqAt.canLay_of_shaped sl
    have hroom : X.A.units + 1 + min (PyData.depthAll ds) d.depth < cLine := room_in_shaped sd hu
    cases hl with
    | lst hs ha =>
      obtain ⟨its, rv, ⟨⟨cls, dd, data, sls⟩, n, ho, hc, hdn, hdt⟩, hlen⟩ := I.list hs
      simp only at hc hdt
      subst hc hdt
      obtain ⟨as, h4⟩ := Dp.readsAll I ds _ its ha rv
      have hmap : its.map (SeqAt.readOf s.heap) = ds := SeqAt.readsAll_map ds its as hxs h4
      refine call_meets PySem.F.slot_list_count ⟨_, ho, rfl⟩ PySem.F.entry_list_count (PySem.F.args_list_count_2 _ _)
        (SeqAt.list_countAt a its.toArray n dd sls uy fun u => PyData.eqv (SeqAt.readOf s.heap u) d) ⟨ho, SeqAt.items_eqAt (vs := its.toArray) (show ReadsAll s.heap its.toArray.toList ds as from h4) r1 hxs (SeqAt.canLay_of_shaped sd) hroom, ?_⟩
      refine ⟨.int (ds.countP fun z => PyData.eqv z d : Nat), H, I.tok _, ⟨s.toks, ?_⟩, q⟩
      show Value.int ((its.countP fun u => PyData.eqv (SeqAt.readOf s.heap u) d : Nat) : Int) s.toks = _
      rw [← hmap, List.countP_map]
      rfl
def dCount (c d : D) : Option D := match c with
  | .lst ds => if (D.flat 60 d && D.flats 59 ds) = true then some (.int (ds.countP fun z => D.eqv z d : Nat)) else none
  | _ => none
def dIndex (c d : D) : Option D := match c with
  | .lst ds => if (D.flat 60 d && D.flats 59 ds) = true then (ds.findIdx? fun z => D.eqv z d).map fun j => .int (j : Nat) else none
  | _ => none
/-- o.m(e), o a list -/
@[simp] def eLm (g : D → D → Option D) (f h : Den) : Den := fun ρ st => (f ρ st).bind fun d st => match d with
  | .lst ds => (h ρ st).bind fun e st2 => match g (.lst ds) e with | some z => .ok z st2 | none => .stuck
  | _ => .stuck
theorem me_lm {g : D → D → Option D} {r : V → List V → Hp → VK → Prop} {id : String} {name : Str} {o e : Expr} {f h : Den} {apos cpos : Pos} (slot : Slot "list" name id) (hty : typeOf (.builtin id) = pure (.type "method_descriptor")) (hm : MtR X id r)
    (sm : ∀ Z H ds e x y z Q, In Z H → Rep G Z H (.lst ds) x → Rep G Z H e y → g (.lst ds) e = some z → (∀ v, Rep G Z H z v → Q v H) → r x [y] H Q) (ho : ME G W X o f) (he : ME G W X e h)
    (hbase : attributeBase o name X.env (eval o X.env) = eval o X.env := by rfl)
    (hfew : ((backTo cpos (starEach [e] X.env)).all (fun x => !x.1) && (backToKw cpos (keywordEach [] X.env)).all (fun x => x.1.isSome)
      && decide (([e] : List Expr).length + ([] : List Keyword).length + (if ([] : List Keyword).isEmpty then 0 else 1) < 30)) = true := by rfl)
    (hline : (apos.endLine == cpos.line) = true := by rfl) (hs : starEach [e] X.env = (false, eval e X.env) :: starEach [] X.env := by rfl) (hplain : (backTo cpos (starEach [] X.env)).any (·.1) = false := by rfl) :
    ME G W X (.Call (.Attribute o name apos) [e] [] cpos) (eLm g f h) :=
  PE.imp (pe_bm PySem.F.plainAttrs_list slot hty hm ho (pa_cons he pa_nil hs) hbase hfew hline hs hplain) fun σ H Q q => by
    obtain ⟨Z, ρ, st, L, S, q⟩ := q
    refine ⟨Z, ρ, st, L, S, PostR.bind q fun d st1 x H1 L1 e1 f1 o1 r1 q1 => ?_⟩
    cases d with
    | lst ds =>
      refine ⟨?_, Z, ρ, st1, L1, S.to f1 o1, PostR.bind q1 fun d2 st2 y H2 L2 e2 f2 o2 r2 q2 => ?_⟩
      · cases r1 with
        | lst r z h => exact .inl ⟨rfl, _, .inl r⟩
      · have r1' := r1.mono f2.keeps
        split at q2
        · rename_i z ez
          exact sm _ _ _ _ _ _ z _ o2.inn r1' r2 ez fun v rv => q2 v H2 L2 Fw.refl o2 rv
        · exact q2.elim
    | _ => exact q1.elim
theorem sm_count (hK : G.K = X.K) : ∀ Z H ds e x y z Q, In Z H → Rep G Z H (.lst ds) x → Rep G Z H e y → dCount (.lst ds) e = some z → (∀ v, Rep G Z H z v → Q v H) → rCountD X.K x [y] H Q := by
  intro Z H ds e x y z Q hi rx ry ez q
  simp only [dCount] at ez
  split at ez
  · rename_i hf
    rw [Bool.and_eq_true] at hf
    have hl : D.flat 60 (.lst ds) = true := hf.2
    cases ez
    have d1 := hK ▸ rx.dp hl
    have d2 := hK ▸ ry.dp hf.1
    have e1 : D.py (.lst ds) = .list (D.pys ds) := by unfold D.py; rfl
    rw [e1] at d1
    obtain ⟨a, rfl⟩ : ∃ a, x = .ref a := by cases rx with | lst r z h => exact ⟨_, rfl⟩
    refine ⟨a, y, e.py, D.pys ds, rfl, rfl, d1, d2, by rw [← e1]; exact py_shaped hl, py_shaped hf.1, ?_⟩
    have hc : ∀ l : List D, (D.pys l).countP (fun z => PyData.eqv z e.py) = l.countP fun z => D.eqv z e := by
      intro l
      induction l with
      | nil => rfl
      | cons z l ih => unfold D.pys; rw [List.countP_cons, List.countP_cons, ih]; rfl
    rw [hc ds]
    exact q _ (.int _)
  · cases ez
theorem pys_get : ∀ (l : List D) (i : Nat), (D.pys l)[i]? = l[i]?.map D.py
  | [], i => by simp [D.pys]
  | x :: l, 0 => by simp [D.pys]
  | x :: l, i + 1 => by simp only [D.pys, List.getElem?_cons_succ]; exact pys_get l i
theorem sm_index (hK : G.K = X.K) : ∀ Z H ds e x y z Q, In Z H → Rep G Z H (.lst ds) x → Rep G Z H e y → dIndex (.lst ds) e = some z → (∀ v, Rep G Z H z v → Q v H) → rIndexD X.K x [y] H Q := by
  intro Z H ds e x y z Q hi rx ry ez q
  simp only [dIndex] at ez
  split at ez
  · rename_i hf
    rw [Bool.and_eq_true] at hf
    have hl : D.flat 60 (.lst ds) = true := hf.2
    obtain ⟨j, hj, rfl⟩ := Option.map_eq_some_iff.mp ez
    obtain ⟨hjl, h1, h2⟩ := List.findIdx?_eq_some_iff_getElem.mp hj
    have d1 := hK ▸ rx.dp hl
    have d2 := hK ▸ ry.dp hf.1
    have e1 : D.py (.lst ds) = .list (D.pys ds) := by unfold D.py; rfl
    rw [e1] at d1
    obtain ⟨a, rfl⟩ : ∃ a, x = .ref a := by cases rx with | lst r z h => exact ⟨_, rfl⟩
    refine ⟨a, y, e.py, D.pys ds, j, ds[j].py, rfl, rfl, d1, d2, by rw [← e1]; exact py_shaped hl, py_shaped hf.1, by rw [pys_get, List.getElem?_eq_getElem hjl]; rfl, h1, fun m z' hm hz => ?_, q _ (.int _)⟩
    rw [pys_get, List.getElem?_eq_getElem (by omega)] at hz
    cases hz
    have := h2 m hm
    simpa [D.eqv] using this
  · cases ez
end
end M
/-! ### a lambda with defaults is made -/
namespace PySem.W
open PySem PySem.Spec PySem.Calls PyProof.Rows
abbrev dla_fn (name qual : Str) (params : Arguments) (body : Expr) (scope : Scope) (cl : List (Str × Addr)) (dV pm cdv ct : Value) : FuncData :=
  { kla_fn name qual params body scope cl pm cdv ct with defaults := dV }
abbrev dla_obj (name qual : Str) (params : Arguments) (body : Expr) (scope : Scope) (clos : List (Str × Addr)) (dV pm : Value) (c' : Addr) (ctv : Value) : Obj :=
  { cls := .type "function", data := .func (dla_fn name qual params body scope clos dV pm (.ref c') ctv) }
section
variable {M : Model} {A : Around} {E : Value → Shared → Prop} {s : Shared} {name qual : Str} {params : Arguments} {body : Expr} {scope : Scope} {env : Env} {c P : Addr} {ps : Array Value} {pos : Pos} {firstLine : Nat} {mg : Str → Option Value}
  {clos : List (Str × Addr)} {dV : Value} {Q : Value → Shared → Prop}
theorem dla_tail (hcl : closureFor scope env = pure clos) (hge0 : env.globals = mainGlobals) (hg : s.heap.Ns mainGlobals mg) (hcode : env.code = .ref c) (C : CodeHd s.heap c P) (hP : s.heap.get? P = some { cls := .none, data := .fields ps }) (ht : TriplesOk ps.toList)
    (hnf : codeAmong pos ps.toList = none) (hgP : mainGlobals ≠ P) (hb : s.heap.BuiltinsAt mg P)
    (h : ∀ c' ctv h' tk, Heap.ExtBut P s.heap h' → s.heap.objs.size ≤ c' → c' < h'.objs.size → h'.CodeRec (.ref c') qual → h'.get? P = some { cls := .none, data := .fields (ps ++ #[rawInt pos.line, rawInt pos.col, .ref c']) } →
      Q (.ref h'.objs.size) { s with heap := h'.push (dla_obj name qual params body scope clos dV ((mg "__name__").getD .none) c' ctv), toks := tk }) :
    wpAny M A (makeTail name qual params (.expr body) scope env dV .none none pos firstLine) Q E s := by
  obtain ⟨bm, ob, hbm, hne0, _, hneP, hbo, hcls, hdict, hdata⟩ := hb
  unfold makeTail
  rw [hcl, hge0]
  refine wpAny_bind (wpAny_pure ?_)
  cases clos with
  | nil =>
    simp only [List.isEmpty_nil, if_true]
    refine wpAny_bind (wpAny_pure (wpAny_bind (wpAny_functionCodeX hcode (C.code hP ht) (C.tab hP) hnf fun c' h' tk hx hge hlt _ hrec htb _ => ?_)))
    have hg' := hg.extBut hx hgP
    exact wpAny_bind (wpAny_builtinsFor hg' hbm hne0 (hx _ _ hneP hbo) hcls hdict hdata (wpAny_bind (wpAny_nsGet hg' (wpAny_bind (wpAny_pure (wpAny_newObj_type (h c' .none h' tk hx hge hlt hrec htb.2) (by size_fits)))))))
  | cons q r =>
    simp only [List.isEmpty_cons, Bool.false_eq_true, if_false]
    refine wpAny_bind (wpAny_newTextTuple ?_)
    refine wpAny_bind (wpAny_functionCodeX hcode ((C.keeps fun b o e => Heap.get?_push_of_some _ e).code (Heap.get?_push_of_some _ hP) ht) ((C.keeps fun b o e => Heap.get?_push_of_some _ e).tab (Heap.get?_push_of_some _ hP)) hnf fun c' h' tk hx hge hlt _ hrec htb _ => ?_)
    have hg' := (hg.push _).extBut hx hgP
    have hx' : Heap.ExtBut P s.heap h' := fun b o hb' e => hx b o hb' (Heap.get?_push_of_some _ e)
    exact wpAny_bind (wpAny_builtinsFor hg' hbm hne0 (hx' _ _ hneP hbo) hcls hdict hdata (wpAny_bind (wpAny_nsGet hg' (wpAny_bind (wpAny_pure (wpAny_newObj_type (h c' _ h' tk hx' (Nat.le_trans (by rw [Heap.size_push]; omega) hge) hlt hrec htb.2) (by size_fits)))))))
theorem dla_tailHit {cv : Value} (hcl : closureFor scope env = pure clos) (hge0 : env.globals = mainGlobals) (hg : s.heap.Ns mainGlobals mg) (hcode : env.code = .ref c) (C : CodeHd s.heap c P) (hP : s.heap.get? P = some { cls := .none, data := .fields ps }) (ht : TriplesOk ps.toList)
    (hf : codeAmong pos ps.toList = some cv) (hb : s.heap.BuiltinsAt mg P)
    (h : ∀ (ctv : Value) (h' : Heap) (tk : Tok), (∀ b o, s.heap.get? b = some o → h'.get? b = some o) → s.heap.objs.size ≤ h'.objs.size →
      Q (.ref h'.objs.size) { s with heap := h'.push { cls := .type "function", data := .func (dla_fn name qual params body scope clos dV ((mg "__name__").getD .none) cv ctv) }, toks := tk }) :
    wpAny M A (makeTail name qual params (.expr body) scope env dV .none none pos firstLine) Q E s := by
  obtain ⟨bm, ob, hbm, hne0, _, hneP, hbo, hcls, hdict, hdata⟩ := hb
  unfold makeTail
  rw [hcl, hge0]
  refine wpAny_bind (wpAny_pure ?_)
  cases clos with
  | nil =>
    simp only [List.isEmpty_nil, if_true]
    refine wpAny_bind (wpAny_pure (wpAny_bind (wpAny_functionCode_hit hcode (C.code hP ht) hf ?_)))
    exact wpAny_bind (wpAny_builtinsFor hg hbm hne0 hbo hcls hdict hdata (wpAny_bind (wpAny_nsGet hg (wpAny_bind (wpAny_pure (wpAny_newObj_type (h .none s.heap s.toks (fun _ _ e => e) (Nat.le_refl _)) (by size_fits)))))))
  | cons q r =>
    simp only [List.isEmpty_cons, Bool.false_eq_true, if_false]
    refine wpAny_bind (wpAny_newTextTuple (wpAny_bind (wpAny_functionCode_hit hcode ((C.keeps fun b o e => Heap.get?_push_of_some _ e).code (Heap.get?_push_of_some _ hP) ht) hf ?_)))
    refine wpAny_bind (wpAny_builtinsFor (hg.push _) hbm hne0 (Heap.get?_push_of_some _ hbo) hcls hdict hdata (wpAny_bind (wpAny_nsGet (hg.push _) ?_)))
    exact wpAny_bind (wpAny_pure (wpAny_newObj_type (h _ _ s.toks (fun b o e => Heap.get?_push_of_some _ e) (by rw [Heap.size_push]; omega)) (by size_fits)))
/-- lambda x=e: .. -/
theorem dla_eval {x1 : Sem Value} (hdef : defaultsOf params env = ([x1], [])) (h : wpAny M A x1 (fun v s1 => wpAny M A (newTextTuple [v]) (fun dv s2 => wpAny M A (makeTail "<lambda>" (env.qual ++ "<lambda>") params (.expr body) scope env dv .none none pos pos.line) Q E s2) E s1) E s) :
    wpAny M A (eval (.Lambda params body scope pos) env) Q E s := by
  rw [arm_eval_Lambda, hdef]
  show wpAny M A (do let dv ← evalAll [x1]; let kdv ← holding dv (evalAllOpt []); makeFunction "<lambda>" (env.qual ++ "<lambda>") params (.expr body) scope env dv kdv [] pos pos.line) Q E s
  refine wpAny_bind ?_
  simp only [evalAll]
  refine wpAny_bind (wpAny_mono h (fun v s1 h1 => ?_) fun _ _ z => z)
  refine wpAny_bind (wpAny_holding (wpAny_pure (wpAny_pure ?_)))
  refine wpAny_bind (wpAny_holding (wpAny_pure ?_))
  rw [makeFunction_eq]
  simp only [List.zip_nil_right, List.filterMap_nil, List.isEmpty_nil, List.isEmpty_cons, Bool.false_eq_true, if_true, if_false, pure_bind]
  exact wpAny_bind h1
end
end PySem.W
namespace M
open PySem PySem.Spec L2 LamX PyProof.Rows
/-! ### lambdas with parameters, with defaults -/
theorem lookup_nodup {β : Type} : ∀ {l : List (Str × β)} {x : Str} {b : β}, (l.map (·.1)).Nodup → (x, b) ∈ l → l.lookup x = some b
  | (k, v) :: r, x, b, hn, hm => by
    rw [List.lookup_cons]
    rcases List.mem_cons.mp hm with e | e
    · cases e
      simp
    · have hk : x ≠ k := fun z => by
        have := (List.nodup_cons.mp (show (k :: r.map (·.1)).Nodup from hn)).1
        exact this (List.mem_map.mpr ⟨(x, b), e, z⟩)
      have : (x == k) = false := by simpa using hk
      rw [this]
      exact lookup_nodup (List.nodup_cons.mp (show (k :: r.map (·.1)).Nodup from hn)).2 e
theorem zip_fst_sub : ∀ (ps : List Str) (us : List Value), ((ps.zip us).map (·.1)).Sublist ps
  | [], _ => by simp
  | _ :: _, [] => by simp
  | p :: ps, u :: us => by
    rw [List.zip_cons_cons, List.map_cons]
    exact (zip_fst_sub ps us).cons₂ p
theorem lookup_zip_rev {ps : List Str} {us : List Value} {j : Nat} {y : Str} {u : Value} (hn : ps.Nodup) (hp : ps[j]? = some y) (hu : us[j]? = some u) : (ps.zip us).reverse.lookup y = some u := by
  refine lookup_nodup ?_ ?_
  · rw [List.map_reverse]
    refine List.pairwise_reverse.mpr ?_
    have h2 : ((ps.zip us).map (·.1)).Nodup := hn.sublist (zip_fst_sub ps us)
    exact h2.imp fun h => Ne.symm h
  · refine List.mem_reverse.mpr ?_
    refine List.mem_iff_getElem?.mpr ⟨j, ?_⟩
    rw [List.getElem?_zip_eq_some]
    exact ⟨hp, hu⟩
section
variable {X : Cx} {pins : List (Addr × Obj)} {σ : L2.St} {H HZ : Hp} {s s1 : Shared}
theorem lam_tail {dV : Value} {T : List (Addr × Str)} {c P : Addr} {Zz : Zone} {params : Arguments} {body : Expr} {scope : Scope} {pos : Pos} {E : Value → Shared → Prop} {Q : Value → Shared → Prop} (I : Inv X pins σ H s) (TB : TabB X.base X.mg c P) (hcode : X.env.code = .ref c)
    (hm : (P, X.env.qual ++ "<lambda>") ∈ T) (hu : ∀ p ∈ T, p.1 = P → p.2 = X.env.qual ++ "<lambda>") (hT : TabZ T Zz H) (hz : ∀ a, Zz a → H a ≠ none) (hfree : ∀ y ∈ scope.names, y.2 = .free → ∃ c, X.env.cells.lookup y.1 = some c)
    (h : ∀ (f c' : Addr) (pm ctv : Value) (H1 : Hp) (s' : Shared), Inv X pins σ H1 s' → TabTo P H H1 → TabZ T Zz H1 → (∀ b o, b ≠ P → s.heap.get? b = some o → s'.heap.get? b = some o) → (∀ b o, H b = none → s.heap.get? b = some o → H1 b = none) →
      s'.heap.get? f = some (PySem.W.dla_obj "<lambda>" (X.env.qual ++ "<lambda>") params body scope (cloFrom X.env.cells scope.names []) dV pm c' ctv) → H1 f = none → f ∉ frs X.stack → H1 c' = some (CodeO c' (X.env.qual ++ "<lambda>")) → ¬ Zz c' → Q (.ref f) s') :
    wpAny (model X.prog X.w) X.A (makeTail "<lambda>" (X.env.qual ++ "<lambda>") params (.expr body) scope X.env dV .none none pos pos.line) Q E s := by
  obtain ⟨hPz, ps, hP, ht, ha⟩ := hT _ hm
  have bP : s.heap.BuiltinsAt X.mg P := TB.bm.keeps I.bk
  have hP' : s.heap.get? P = some { cls := .none, data := .fields ps } := I.hok P _ hP
  have out : ∀ f, s.heap.objs.size ≤ f → f ∉ frs X.stack := fun f hf z => (List.mem_cons.mp (I.stkSub _ z)).elim (fun e => Nat.lt_irrefl _ (Nat.lt_of_lt_of_le (e ▸ I.lt) hf)) (I.nofs hf)
  cases hc : codeAmong pos ps.toList with
  | some cv =>
    obtain ⟨c', e, hco, hcz⟩ := ha pos cv hc
    subst e
    refine PySem.W.dla_tailHit (mg := X.mg) (c := c) (P := P) (ps := ps) (closure_ok hfree) I.ok.glob (I.mod.glob.keeps I.bk) hcode (TB.code.keeps I.bk) hP' ht hc bP fun ctv h' tk hx hsz => ?_
    exact h h'.objs.size c' _ ctv H _ (I.kept (t' := tk) fun b o e => Heap.get?_push_of_some _ (hx b o e)) .refl hT (fun b o _ e => Heap.get?_push_of_some _ (hx b o e)) (fun b o e _ => e) (Heap.get?_push_size _ rfl) (I.hok.fresh hsz) (out _ hsz) hco hcz
  | none =>
    refine PySem.W.dla_tail (mg := X.mg) (c := c) (P := P) (ps := ps) (closure_ok hfree) I.ok.glob (I.mod.glob.keeps I.bk) hcode (TB.code.keeps I.bk) hP' ht hc TB.gP bP fun c' ctv h' tk hx hge hlt hrec htb => ?_
    obtain ⟨c2, oc, vs, t, e2, hoc, hd, hv⟩ := hrec
    cases e2
    have nC : H c' = none := I.hok.fresh hge
    have hsz : s.heap.objs.size ≤ h'.objs.size := Nat.le_trans hge (Nat.le_of_lt hlt)
    have J := inv_table (t' := tk) (more := #[rawInt pos.line, rawInt pos.col, .ref c']) (h' := h'.push (PySem.W.dla_obj "<lambda>" (X.env.qual ++ "<lambda>") params body scope (cloFrom X.env.cells scope.names []) dV ((X.mg "__name__").getD .none) c' ctv)) I hP
      (fun b o hb e => Heap.get?_push_of_some _ (hx b o hb e)) (Heap.get?_push_of_some _ htb) hge ⟨oc, vs, t, Heap.get?_push_of_some _ hoc, hd, hv⟩
    have nPc : P ≠ c' := ne_of_none hP nC
    have kp : ∀ b o, H b = some o → b ≠ P → upd (upd H P (.tbl (ps ++ #[rawInt pos.line, rawInt pos.col, .ref c']))) c' (CodeO c' (X.env.qual ++ "<lambda>")) b = some o := fun b o e n => by rw [upd_ne (ne_of_none e nC), upd_ne n]; exact e
    have atP : upd (upd H P (.tbl (ps ++ #[rawInt pos.line, rawInt pos.col, .ref c']))) c' (CodeO c' (X.env.qual ++ "<lambda>")) P = some (.tbl (ps ++ #[rawInt pos.line, rawInt pos.col, .ref c'])) := by rw [upd_ne nPc, upd_same]
    have czn : ¬ Zz c' := fun z => hz c' z nC
    have codeP : ∀ {c0 : Addr} {q : Str}, H c0 = some (CodeO c0 q) → c0 ≠ P := fun {c0 q} e z => by
      rw [z, hP] at e
      exact codeO_ne ps (Option.some.inj e).symm
    refine h h'.objs.size c' _ ctv _ _ J ⟨kp, fun b e => ?_, fun _ _ => ⟨_, atP⟩⟩ (fun p hp => ?_) (fun b o hb e => Heap.get?_push_of_some _ (hx b o hb e)) (fun b o e1 e2 => ?_) (Heap.get?_push_size _ rfl) ?_ (out _ hsz) upd_same czn
    · cases e1 : H b with
      | none => exact absurd e1 e
      | some o =>
        by_cases hb : b = P
        · rw [hb, atP]; simp
        · rw [kp b o e1 hb]; simp
    · obtain ⟨z0, ps', a1, a2, a3⟩ := hT p hp
      by_cases hb : p.1 = P
      · refine ⟨z0, _, by rw [hb]; exact atP, ?_, fun p' cv hcv => ?_⟩
        · simpa using PySem.TriplesOk_snoc _ _ _ _ ht
        · have hcv : codeAmong p' (ps.toList ++ [rawInt pos.line, rawInt pos.col, .ref c']) = some cv := by simpa using hcv
          rcases among_app _ ht hcv with z | z
          · obtain ⟨c0, e1, e2, e3⟩ := ha p' cv z
            exact ⟨c0, e1, kp _ _ (by rw [hu p hp hb]; exact e2) (codeP e2), e3⟩
          · exact ⟨c', z, by rw [hu p hp hb]; exact upd_same, czn⟩
      · refine ⟨z0, ps', kp _ _ a1 hb, a2, fun p' cv hcv => ?_⟩
        obtain ⟨c0, e1, e2, e3⟩ := a3 p' cv hcv
        exact ⟨c0, e1, kp _ _ e2 (codeP e2), e3⟩
    · have n1 : b ≠ c' := fun z => by
        rw [z] at e2
        exact Nat.lt_irrefl _ (Nat.lt_of_lt_of_le (Heap.lt_size e2) hge)
      have n2 : b ≠ P := fun z => by
        rw [z, hP] at e1
        cases e1
      rw [upd_ne n1, upd_ne n2]
      exact e1
    · have n1 : h'.objs.size ≠ c' := Nat.ne_of_gt hlt
      have n2 : h'.objs.size ≠ P := Nat.ne_of_gt (Nat.lt_of_lt_of_le (Heap.lt_size hP') hsz)
      rw [upd_ne n1, upd_ne n2]
      exact I.hok.fresh hsz
/-- what the evaluation of a lambda gives: a function that, called with m arguments, binds ps to them and then to vs -/
def LamMk (X : Cx) (T : List (Addr × Str)) (P : Addr) (params : Arguments) (body : Expr) (scope : Scope) (lpos : Pos) (ps : List Str) (m : Nat) (vs : List V) : Prop :=
  ∀ (Zz : Zone) (pins : List (Addr × Obj)) (σ : L2.St) (H : Hp) (s : Shared) (E : Value → Shared → Prop) (Q : Value → Shared → Prop), Inv X pins σ H s → TabZ T Zz H → (∀ a, Zz a → H a ≠ none) →
    (∀ (f c' : Addr) (dV pm ctv : Value) (H1 : Hp) (s' : Shared), Inv X pins σ H1 s' → TabTo P H H1 → TabZ T Zz H1 →
      s'.heap.get? f = some (PySem.W.dla_obj "<lambda>" (X.env.qual ++ "<lambda>") params body scope (cloFrom X.env.cells scope.names []) dV pm c' ctv) → H1 f = none → f ∉ frs X.stack → H1 c' = some (CodeO c' (X.env.qual ++ "<lambda>")) → ¬ Zz c' →
      (∀ (H2 : Hp) (s2 : Shared), Un (frs X.stack) [] H1 H2 s'.heap s2.heap → ∃ us : List Value, Vals vs us ∧ ∀ us0 : List Value, us0.length = m → BindsTo s2 (PySem.W.dla_fn "<lambda>" (X.env.qual ++ "<lambda>") params body scope (cloFrom X.env.cells scope.names []) dV pm (.ref c') ctv) ⟨us0, []⟩ (ps.zip (us0 ++ us))) →
      Q (.ref f) s') →
    wpAny (model X.prog X.w) X.A (eval (.Lambda params body scope lpos) X.env) Q E s
theorem lamMk_plain {T : List (Addr × Str)} {c P : Addr} {params : Arguments} {body : Expr} {scope : Scope} {lpos : Pos} {ps : List Str} {m : Nat} (TB : TabB X.base X.mg c P) (hcode : X.env.code = .ref c)
    (hm : (P, X.env.qual ++ "<lambda>") ∈ T) (hu : ∀ p ∈ T, p.1 = P → p.2 = X.env.qual ++ "<lambda>") (hfree : X.Ok → ∀ y ∈ scope.names, y.2 = .free → ∃ c, X.env.cells.lookup y.1 = some c) (hdef : defaultsOf params X.env = ([], []))
    (hbind : ∀ (q : Str) (cl : List (Str × Addr)) (pm cv ctv : Value) (us : List Value), us.length = m → bindArgs (PySem.W.kla_fn "<lambda>" q params body scope cl pm cv ctv) ⟨us, []⟩ = pure (ps.zip us)) :
    LamMk X T P params body scope lpos ps m [] := by
  intro Zz pins σ H s E Q I hT hz h
  refine PySem.W.kla_eval hdef ?_
  rw [makeFunction_eq]
  simp only [List.zip_nil_right, List.filterMap_nil, List.isEmpty_nil, if_true, pure_bind]
  refine lam_tail (dV := .none) I TB hcode hm hu hT hz (hfree I.ok) fun f c' pm ctv H1 s' I1 tt T1 _ _ hf hfn hfr hco hcz => ?_
  exact h f c' .none pm ctv H1 s' I1 tt T1 hf hfn hfr hco hcz fun H2 s2 un => ⟨[], .nil, fun us0 hl => by rw [List.append_nil]; exact .of_eq (hbind _ _ _ _ _ us0 hl)⟩
theorem lamMk_int {n : Int} {jd : Nat} {dp : Pos} {x : Str} {T : List (Addr × Str)} {c P : Addr} {params : Arguments} {body : Expr} {scope : Scope} {lpos : Pos} (TB : TabB X.base X.mg c P) (hcode : X.env.code = .ref c)
    (hm : (P, X.env.qual ++ "<lambda>") ∈ T) (hu : ∀ p ∈ T, p.1 = P → p.2 = X.env.qual ++ "<lambda>") (hfree : X.Ok → ∀ y ∈ scope.names, y.2 = .free → ∃ c, X.env.cells.lookup y.1 = some c) (hdef : defaultsOf params X.env = ([eval (.Constant (.int n) jd dp) X.env], []))
    (hbind : ∀ (q : Str) (cl : List (Str × Addr)) (pm cv ctv dV : Value), ∃ k : Option (Array Value) → Sem (List (Str × Value)), bindArgs (PySem.W.dla_fn "<lambda>" q params body scope cl dV pm cv ctv) ⟨[], []⟩ = seqItems? dV >>= k ∧ ∀ u, k (some #[u]) = pure [(x, u)]) :
    LamMk X T P params body scope lpos [x] 0 [.int n] := by
  intro Zz pins σ H s E Q I hT hz h
  refine PySem.W.dla_eval hdef (thn ((pe_int (i := n) (j := jd) (pos := dp)).run pins s σ H (fun v H1 => v = .int n ∧ H1 = H) I ⟨rfl, rfl⟩) fun u s1 ⟨v, H1, I1, r1, q1⟩ => ?_)
  obtain ⟨rfl, rfl⟩ := q1
  refine wpAny_newTextTuple ?_
  have out : ∀ f, s1.heap.objs.size ≤ f → f ∉ frs X.stack := fun f hf z => (List.mem_cons.mp (I1.stkSub _ z)).elim (fun e => Nat.lt_irrefl _ (Nat.lt_of_lt_of_le (e ▸ I1.lt) hf)) (I1.nofs hf)
  have hne : s1.heap.objs.size ≠ P := fun z => by
    obtain ⟨_, ps, hP, _⟩ := hT _ hm
    have := I1.hok.fresh (Nat.le_refl s1.heap.objs.size)
    rw [z] at this
    rw [this] at hP
    cases hP
  have I2 := I1.kept (t' := s1.toks) (h' := s1.heap.push { cls := .type "tuple", data := .seq [u].toArray }) fun b o e => Heap.get?_push_of_some _ e
  refine lam_tail (dV := .ref s1.heap.objs.size) I2 TB hcode hm hu hT hz (hfree I.ok) fun f c' pm ctv H2 s' I3 tt T1 kp kn hf hfn hfr hco hcz => ?_
  have hd0 : (s1.heap.push { cls := .type "tuple", data := .seq [u].toArray }).get? s1.heap.objs.size = some { cls := .type "tuple", data := .seq [u].toArray } := Heap.get?_push_size _ rfl
  have hd1 : s'.heap.get? s1.heap.objs.size = some { cls := .type "tuple", data := .seq [u].toArray } := kp _ _ hne hd0
  have hn1 : H2 s1.heap.objs.size = none := kn _ _ (I1.hok.fresh (Nat.le_refl _)) hd0
  refine h f c' (.ref s1.heap.objs.size) pm ctv H2 s' I3 tt T1 hf hfn hfr hco hcz fun H3 s3 un => ⟨[u], .cons r1 .nil, fun us0 hl => ?_⟩
  have e0 : us0 = [] := List.length_eq_zero_iff.mp hl
  subst e0
  obtain ⟨k, k1, k2⟩ := hbind (X.env.qual ++ "<lambda>") (cloFrom X.env.cells scope.names []) pm (.ref c') ctv (.ref s1.heap.objs.size)
  exact .of_defaults rfl (un.keep _ _ hd1 hn1 (out _ (Nat.le_refl _)) (fun z => nomatch (show s1.heap.objs.size ∈ ([] : List Addr) from z))) rfl k1 (k2 u)
/-- parameters, captured names and globals -/
structure LamP (sc : Scope) (ps : List Str) (scope : Scope) : Prop where
  kind : scope.kind = .function
  co : scope.isCoroutine = false
  gen : scope.isGenerator = false
  own : ∀ y ∈ scope.names, y.2 ≠ .cell ∧ (y.2 = .local → y.1 ∈ ps)
  free : ∀ y ∈ scope.names, y.2 = .free → sc.names.lookup y.1 = some .cell ∨ sc.names.lookup y.1 = some .free
  par : ∀ n ∈ ps, scope.names.lookup n = some .local
  nd : ps.Nodup
  no : scope.names.lookup ("" : Str) = none
def lamPB (sc : Scope) (ps : List Str) (scope : Scope) : Bool :=
  decide (scope.kind = .function) && !scope.isCoroutine && !scope.isGenerator && (scope.names.all fun y => !decide (y.2 = .cell) && (!decide (y.2 = .local) || decide (y.1 ∈ ps)) && (!decide (y.2 = .free) || decide (sc.names.lookup y.1 = some .cell) || decide (sc.names.lookup y.1 = some .free)))
   && (ps.all fun n => decide (scope.names.lookup n = some .local)) && decide ps.Nodup && decide (scope.names.lookup ("" : Str) = none)
theorem lamP_by {sc scope : Scope} {ps : List Str} (h : lamPB sc ps scope = true) : LamP sc ps scope := by
  unfold lamPB at h
  simp only [Bool.and_eq_true, Bool.or_eq_true, Bool.not_eq_true', decide_eq_true_eq, decide_eq_false_iff_not, List.all_eq_true] at h
  obtain ⟨⟨⟨⟨⟨⟨h1, h2⟩, h3⟩, h4⟩, h5⟩, h6⟩, h7⟩ := h
  refine ⟨h1, h2, h3, fun y hy => ⟨(h4 y hy).1.1, fun e => ?_⟩, fun y hy e => ?_, h5, h6, h7⟩
  · rcases (h4 y hy).1.2 with z | z
    · exact absurd e z
    · exact z
  · rcases (h4 y hy).2 with (z | z) | z
    · exact absurd e z
    · exact .inl z
    · exact .inr z
theorem LamP.has {ps : List Str} {scope : Scope} (L : LamP X.env.scope ps scope) (ok : X.Ok) : ∀ y ∈ scope.names, y.2 = .free → ∃ c, X.env.cells.lookup y.1 = some c := fun y hy e => by
  rcases L.free y hy e with k | k
  · exact ok.has _ (.inl k)
  · exact ok.has _ (.inr k)
abbrev hideN (ps N : List Str) : List Str := N.map (fun y => if y ∈ ps then ("" : Str) else y)
abbrev lamCxP (X : Cx) (A : Around) (outer : List PySem.Env) (s : Shared) (H : Hp) (E : XK) (scope : Scope) (NN : List Str) (f c' : Addr) : Cx := { lamCx X A outer s H E scope f c' with N := NN }
theorem lam_startP {A : Around} {outer : List PySem.Env} {E : XK} {scope : Scope} {ps NN : List Str} (hNN : NN = hideN ps X.N ++ ps) {us : List Value} {vs : List V} {f c' : Addr} {h₁ : Heap} {tk : Nat} (I : Inv X pins σ H s) (L : LamP X.env.scope ps scope) (e0 : Env0 X.prog X.w X.K X.mg X.base A outer s1 HZ) (hd : A.handled = none)
    (un : Un (frs X.stack) [] H HZ s.heap s1.heap) (hr : Vals vs us) (hl : vs.length = ps.length) (hns : h₁.Ns s1.heap.objs.size fun y => (ps.zip us).reverse.lookup y) (kp : ∀ b o, s1.heap.get? b = some o → h₁.get? b = some o) :
    Inv (lamCxP X A outer s1 HZ E scope NN f c') [] (σ ++ vs.map some) HZ { s1 with heap := h₁, toks := tk } := by
  have hfree := L.has I.ok
  have cm : ∀ {y c}, (cloFrom X.env.cells scope.names []).lookup y = some c → X.env.cells.lookup y = some c := fun {y c} e => by
    rcases cloFrom_mem (PySem.mem_of_lookup e) with hm | ⟨h1, h2⟩
    · cases hm
    · obtain ⟨c1, hc⟩ := hfree _ h1 rfl
      have hc : X.env.cells.lookup y = some c1 := hc
      have e2 : c = c1 := by
        rw [h2, hc] <;> rfl
      rw [e2]
      exact hc
  have look : ∀ {y}, scope.names.lookup y = some .free → ∃ c, (cloFrom X.env.cells scope.names []).lookup y = some c := fun {y} hl => by
    have hy : (y, NameKind.free) ∈ scope.names := PySem.mem_of_lookup hl
    exact mem_lookup (cloFrom_has (cells := X.env.cells) (acc := []) hy)
  have cellK : ∀ {c : Addr} {v : Option Value}, H c = none → s.heap.IsCell c v → h₁.IsCell c v := fun {c v} n ⟨o, ho, hd⟩ => by
    obtain ⟨sl, q⟩ := un.any ho n (by simp)
    exact ⟨_, kp _ _ q, hd⟩
  have noA : ∀ b : Addr, b ∉ (lamCxP X A outer s1 HZ E scope NN f c').ex := fun b z => absurd (show b ∈ ([] : List Addr) from z) (by simp)
  refine ⟨⟨e0.mod, L.kind, rfl, rfl, Nat.le_refl _, fun y z c e1 e2 => I.ok.inj y z c (cm e1) (cm e2), fun y hy => ?_, fun y c z _ => ?_, fun _ => hd, Around.frames_deeper e0.frames, .inr ⟨rfl, rfl⟩, fun b z => absurd z (noA b), e0.bs, e0.bsz, fun b _ _ => noA b,
      fun b z => absurd z (noA b), e0.funs, e0.frf⟩,
    rfl, e0.bare, Un.kept kp, ⟨_, hns, fun i y v e1 e2 e3 => ?_⟩, fun y c e => ?_, e0.hok.fresh (Nat.le_refl _), fun y c e => ?_, fun q hq => absurd (show q ∈ ([] : List (Addr × Obj)) ++ [] from hq) (by simp), e0.hok.kept kp, ?_⟩
  · have hy : scope.names.lookup y = some .cell ∨ scope.names.lookup y = some .free := hy
    rcases hy with hy | hy
    · exact absurd rfl (L.own _ (PySem.mem_of_lookup hy)).1
    · exact look hy
  · have z : false = true := z
    cases z
  · have e3 : Vis scope y := e3
    have e1 : NN[i]? = some y := e1
    rw [hNN] at e1
    by_cases hi : i < X.N.length
    · rw [List.getElem?_append_left (by simpa using hi), List.getElem?_map] at e1
      rw [List.getElem?_append_left (by rw [I.len]; exact hi)] at e2
      cases eN : X.N[i]? with
      | none => rw [eN] at e1; cases e1
      | some y0 =>
        rw [eN] at e1
        have e1 : (if y0 ∈ ps then ("" : Str) else y0) = y := Option.some.inj e1
        by_cases hy0 : y0 ∈ ps
        · rw [if_pos hy0] at e1
          subst e1
          unfold Vis at e3
          rw [L.no] at e3
          rcases e3 with z | z | z <;> cases z
        · rw [if_neg hy0] at e1
          subst e1
          rcases e3 with k | k | k
          · exact absurd ((L.own _ (PySem.mem_of_lookup k)).2 rfl) hy0
          · exact absurd rfl (L.own _ (PySem.mem_of_lookup k)).1
          · obtain ⟨m, hn, hl⟩ := I.loc
            have hvis : Vis X.env.scope y0 := (L.free _ (PySem.mem_of_lookup k) rfl).elim (fun k => .inr (.inl k)) (fun k => .inr (.inr k))
            obtain ⟨w', r, q⟩ := hl i y0 v eN e2 hvis
            obtain ⟨c2, h2⟩ := look k
            refine ⟨w', r, .inr ⟨.inr k, c2, h2, ?_⟩⟩
            have c1 := cm h2
            rcases q with ⟨k', _⟩ | ⟨_, c3, e', z⟩
            · have k' : X.env.scope.names.lookup y0 = some .local := k'
              rcases L.free _ (PySem.mem_of_lookup k) rfl with k2 | k2 <;> rw [show X.env.scope.names.lookup y0 = _ from k2] at k' <;> cases k'
            · rw [c1] at e'
              cases e'
              exact cellK (I.freeC y0 _ c1) z
    · have hlN : (hideN ps X.N).length = X.N.length := by simp
      rw [List.getElem?_append_right (by rw [hlN]; omega), hlN] at e1
      rw [List.getElem?_append_right (by rw [I.len]; omega), I.len, List.getElem?_map] at e2
      cases ev : vs[i - X.N.length]? with
      | none => rw [ev] at e2; cases e2
      | some v0 =>
        rw [ev] at e2
        cases e2
        obtain ⟨u, hu, rv⟩ := hr.get ev
        exact ⟨u, rv, .inl ⟨L.par _ (List.mem_of_getElem? e1), lookup_zip_rev L.nd e1 hu⟩⟩
  · obtain ⟨w', z⟩ := I.cell y c (cm e)
    exact ⟨w', cellK (I.freeC y c (cm e)) z⟩
  · obtain ⟨v, o, ho, hd⟩ := I.cell y c (cm e)
    exact un.free c o ho (I.freeC y c (cm e)) (by simp)
  · show (σ ++ vs.map some).length = NN.length
    rw [hNN]
    simp [I.len, hl]
/-- the context of its body; what it lets out is L2N's -/
abbrev lamNP (X : Cx) (A : Around) (outer : List PySem.Env) (s : Shared) (H : Hp) (E : XK) (scope : Scope) (NN : List Str) (f c' : Addr) : Cx :=
  (lamCxP X A outer s H E scope NN f c').tr [] fun e s' => wpAny (model X.prog X.w) (A.deeper (lamEnv X scope s.heap.objs.size f c')) (leaving (lamEnv X scope s.heap.objs.size f c') e) (fun _ s'' => L2N.CX X.prog X.w outer H s E e s'') (fun e' s'' => L2N.CX X.prog X.w outer H s E e' s'') s'
/-- the function itself is called, by whom it be -/
theorem lam_code {A : Around} {outer : List PySem.Env} {f c' : Addr} {dV pm ctv : Value} {params : Arguments} {body : Expr} {scope : Scope} {ps NN : List Str} {us0 us : List Value} {vs0 vs : List V} {k : Nat} {E : XK} {Q : VK} {tb : TE} (hNN : NN = hideN ps X.N ++ ps)
    (I : Inv X pins σ H s) (L : LamP X.env.scope ps scope) (at1 : s1.heap.get? f = some (PySem.W.dla_obj "<lambda>" (X.env.qual ++ "<lambda>") params body scope (cloFrom X.env.cells scope.names []) dV pm c' ctv))
    (e0 : Env0 X.prog X.w X.K X.mg X.base A outer s1 HZ) (un : Un (frs X.stack) [] H HZ s.heap s1.heap) (hc : HZ c' = some (CodeO c' (X.env.qual ++ "<lambda>"))) (hr : Room (k + 1) A)
    (hb : BindsTo s1 (PySem.W.dla_fn "<lambda>" (X.env.qual ++ "<lambda>") params body scope (cloFrom X.env.cells scope.names []) dV pm (.ref c') ctv) ⟨us0, []⟩ (ps.zip (us0 ++ us)))
    (r0 : Vals vs0 us0) (r : Vals vs us) (hl : vs0.length + vs.length = ps.length)
    (hbody : Room k (A.deeper (lamEnv X scope s1.heap.objs.size f c')) → PE (lamNP X A outer s1 HZ E scope NN f c') body tb) (ht : tb (σ ++ (vs0 ++ vs).map some) HZ Q) :
    codeAny (model X.prog X.w) A (.call (.ref f) ⟨us0, []⟩) (CR (L2N.CX X.prog X.w) outer X.prog X.w HZ s1 Q E) s1 := by
  obtain ⟨⟨oc, ovs, t, hoc, hdc, hvc⟩, _, _⟩ := e0.hok c' _ hc
  refine PySem.W.kla_callFunE hr.depth at1 rfl L.co L.gen rfl ⟨c', oc, ovs, t, rfl, hoc, hdc, hvc⟩ ?_
  have lim : s1.heap.NoLimit := e0.mod.nolimit.keeps fun b o e => (e0.bs b o e).1
  refine hb _ _ _ _ (wpAny_newFunctionEnv (fun y hy => (L.own y hy).1) (fun y hy => L.par _ (List.of_mem_zip hy).1) (fun h₁ hns hsb => ⟨lim.fresh _ hsb, ?_⟩) L.kind)
  show codeAny _ _ (.expr body (lamEnv X scope s1.heap.objs.size f c')) _ _
  have kp : ∀ b o, s1.heap.get? b = some o → h₁.get? b = some o := fun b o e => hsb.extBut b o (Nat.ne_of_lt (Heap.lt_size e)) (Heap.get?_push_of_some _ e)
  have rr : Vals (vs0 ++ vs) (us0 ++ us) := by
    clear hb hns hl ht
    induction r0 with
    | nil => exact r
    | cons a b ih => exact .cons a ih
  have J := lam_startP (E := E) (f := f) (c' := c') (h₁ := h₁) (tk := s1.toks + (ps.zip (us0 ++ us)).length) hNN I L e0 hr.hd un rr (by rw [List.length_append]; exact hl) hns kp
  have J2 := J.toTry (fun e s' => wpAny (model X.prog X.w) (A.deeper (lamEnv X scope s1.heap.objs.size f c')) (leaving (lamEnv X scope s1.heap.objs.size f c') e) (fun _ s'' => L2N.CX X.prog X.w outer HZ s1 E e s'') (fun e' s'' => L2N.CX X.prog X.w outer HZ s1 E e' s'') s')
  refine PySem.W.kla_codeExpr (wpAny_mono ((hbody (hr.deeper _)).run [] _ _ HZ Q J2 ht) (fun v s' hq => ?_) fun e s' hq => hq)
  obtain ⟨w', H', J', rv, q⟩ := hq
  exact ⟨w', H', J'.os, J'.bare, J'.base, J'.hok, rv, q⟩
end
end M
namespace M
open PySem PySem.Spec L2 L2H LamX PyProof.Rows
section
variable {X : Cx} {pins : List (Addr × Obj)} {σ : L2.St} {H : Hp} {s : Shared}
/-- a() : what the def got is called without arguments -/
theorem pe_actP {CXg : CXT} {Eg : XK} {Ng : List Str} {qg : Str} {sg : Scope} {g f c' : Addr} {cdg dV pm ctv : Value} {params : Arguments} {body : Expr} {scope : Scope} {ps NN : List Str} {vs : List V} {k i : Nat} {a : Str} {pn : List (Addr × Obj)} {xe : Value → Shared → Prop} {W : WX} {E : XK} {tb : TE} {p1 p2 : Pos}
    (hNN : NN = hideN ps X.N ++ ps) (I : Inv X pins σ H s) (L : LamP X.env.scope ps scope) (hf : s.heap.get? f = some (PySem.W.dla_obj "<lambda>" (X.env.qual ++ "<lambda>") params body scope (cloFrom X.env.cells scope.names []) dV pm c' ctv)) (hfn : H f = none) (hfr : f ∉ frs X.stack)
    (hbind : ∀ (H2 : Hp) (s2 : Shared), Un (frs X.stack) [] H H2 s.heap s2.heap → ∃ us : List Value, Vals vs us ∧ ∀ us0 : List Value, us0.length = 0 → BindsTo s2 (PySem.W.dla_fn "<lambda>" (X.env.qual ++ "<lambda>") params body scope (cloFrom X.env.cells scope.names []) dV pm (.ref c') ctv) ⟨us0, []⟩ (ps.zip (us0 ++ us)))
    (hl : vs.length = ps.length) (tk : L2N.Takes ((cxOf CXg X.prog X.w X.K X.mg X.base Ng qg sg g cdg X.A X.stack s H Eg).tr pn xe) W) (hW : ∀ (cls : Value) (d : Option Addr) (σ' : L2.St) (H' : Hp), σ'.length = Ng.length → E cls d H' → W cls d σ' H') (hr : Room (k + 1) (X.A.deeper (envOfC qg sg s.heap.objs.size g cdg)))
    (hbody : ∀ (A : Around) (outer : List PySem.Env) (s : Shared) (H : Hp), Room k (A.deeper (lamEnv X scope s.heap.objs.size f c')) → PE (lamNP X A outer s H E scope NN f c') body tb)
    (hN : Ng[i]? = some a) (hv : Vis sg a) (hd : (a == ("__debug__" : Str)) = false := by decide) (hcd : (a == ("__classdict__" : Str)) = false := by decide) :
    PE ((cxOf CXg X.prog X.w X.K X.mg X.base Ng qg sg g cdg X.A X.stack s H Eg).tr pn xe) (.Call (.Name a p1) [] [] p2)
      (fun σZ HZ Q => σZ[i]? = some (some (.ref f)) ∧ HZ c' = some (CodeO c' (X.env.qual ++ "<lambda>")) ∧ tb (σ ++ vs.map some) HZ Q) := by
  refine ⟨fun pinsZ sZ σZ HZ Q IZ h => ?_⟩
  obtain ⟨hs, hc, ht⟩ := h
  refine wpAny_Call_Name_kw (thn ((pe_var (pos := p1) (i := i) hN hv hd hcd).run pinsZ sZ σZ HZ (fun v H1 => v = .ref f ∧ H1 = HZ) IZ ⟨.ref f, hs, rfl, rfl⟩) fun u s1 ⟨v, H1, I1, r1, q1⟩ => ?_)
  obtain ⟨ev, eH⟩ := q1
  subst ev
  rw [eH] at I1
  obtain rfl : u = Value.ref f := r1
  have un : Un (frs X.stack) [] H HZ s.heap s1.heap := I1.base
  have at1 : s1.heap.get? f = some (PySem.W.dla_obj "<lambda>" (X.env.qual ++ "<lambda>") params body scope (cloFrom X.env.cells scope.names []) dV pm c' ctv) := un.keep f _ hf hfn hfr (fun z => nomatch (show f ∈ ([] : List Addr) from z))
  refine PySem.W.callWith_F0 ⟨_, _, _, _, at1⟩ ?_
  obtain ⟨us, ru, hb⟩ := hbind HZ s1 un
  have rc : codeAny (model X.prog X.w) (X.A.deeper (envOfC qg sg s.heap.objs.size g cdg)) (.call (.ref f) ⟨[], []⟩) (CR (L2N.CX X.prog X.w) (envOfC qg sg s.heap.objs.size g cdg :: X.stack) X.prog X.w HZ s1 Q E) s1 :=
    lam_code (us0 := []) (us := us) (vs0 := []) (vs := vs) hNN I L at1 I1.env0 un hc hr (hb [] rfl) .nil ru (by simpa using hl) (hbody _ _ s1 HZ) ht
  have hx : Passes (L2N.CX X.prog X.w) ((cxOf CXg X.prog X.w X.K X.mg X.base Ng qg sg g cdg X.A X.stack s H Eg).tr pn xe) E := fun _ σ _ _ e s' I c => tk e s' (L2N.XE.of_call I (fun cls d H' h => hW cls d σ H' I.len h) c)
  refine wpAny_call (codeAny_mono rc fun r s' hq => ?_)
  cases r with
  | error e => exact hx pinsZ σZ HZ s1 e s' I1 hq
  | ok fl =>
    cases fl with
    | ret u => exact I1.after hq
    | next => exact False.elim hq
    | brk => exact False.elim hq
    | cont => exact False.elim hq
end
theorem pe_callHE {X : Cx} {p : Addr × Obj} {k : Nat} {f : Addr} {fd : FuncData} {ps : List Str} {sp : (Addr × Obj) → Sp} {x : Str} {q pos : Pos} {e : Expr} {es : List Expr} {t : TA} (F : FnHE X.prog X.w X.K X.mg X.base (L2N.CX X.prog X.w) k f fd ps sp) (hr : RoomH k X.A) (hot : Hot1 X.A p) (hp : p ∈ X.pn) (hm : X.mg x = some (.ref f)) (hk : PySem.W.keepIn X.K (.ref f) = true) (hb : Binds X.K fd ps [])
    (ha : PA X (e :: es) t) (hg : Gl X x) (hdb : (x == ("__debug__" : Str)) = false) (he : starEach (e :: es) X.env = (false, eval e X.env) :: starEach es X.env := by rfl) (hpl : (backTo pos (starEach es X.env)).any (·.1) = false := by rfl) :
    PE X (.Call (.Name x q) (e :: es) [] pos) (fun σ H Q => t σ H fun vs H1 => sp p vs H1 Q fun _ _ _ => False) := by
  refine ⟨fun pins s σ H Q I h => ?_⟩
  refine wpAny_Call_Name_kw (ld_glob I hg hm ?_ hdb)
  refine PySem.W.callWith_K (h₀ := X.base) I.ok.mod.kin hk (thn (ha.run pos pins s σ H _ I h) fun us s1 ⟨vs, H1, I1, r, q⟩ => ⟨I1.kIn, ?_⟩) he hpl
  have hl : us.length = ps.length := by rw [← r.length]; exact F.len _ _ _ _ _ q
  have b := hb s1 us I1.kIn (by rw [List.append_nil]; exact hl)
  rw [List.append_nil] at b
  have P1 := I1.pin p (List.mem_append_left _ hp)
  have hpin : PinOk X.stack H1 s1 p := ⟨P1.1, P1.2.1, fun hm => (List.mem_cons.mp (I1.stkSub p.1 hm)).elim P1.2.2.1 P1.2.2.2.1, P1.2.2.2.2⟩
  refine wpAny_call (codeAny_mono (F.run X.A X.stack s1 H1 ⟨us, []⟩ us vs Q (fun _ _ _ => False) p hr hot hpin I1.env0 b r q) fun r s' hq => ?_)
  cases r with
  | error e =>
    obtain ⟨_, _, _, _, _, _, _, _, _, _, _, _, z⟩ := (show L2N.CX X.prog X.w X.stack H1 s1 (fun _ _ _ => False) e s' from hq)
    exact z.elim
  | ok fl =>
    cases fl with
    | ret u => exact I1.after hq
    | next => exact False.elim hq
    | brk => exact False.elim hq
    | cont => exact False.elim hq
/-- x(lambda: ..), x: try: return (w, call()) / except C as e: return ref(e) -/
def plainE (ρ : Env) : Env := ρ.map fun s => match s with | some (.p d) => some (.p d) | _ => none
@[simp] def eTold (w : Str) (sub : Str → Option Bool) (ref : FD) (ds : List D) (fe : Den) : Den := fun ρ st => match fe (plainE ρ ++ ds.map fun d => some (.p d)) [] with
  | .ok d [] => .ok (.tup [.str w, d]) st
  | .exc c fs [] => (match sub c with
    | some true => (match ref [.x c fs] [] with | .ok d [] => .ok d st | _ => .stuck)
    | _ => .stuck)
  | _ => .stuck
theorem plainE_ok {G : Wd} {Z : Zone} {H : Hp} {L : List Addr} {st : Sto} {ρ : Env} {σ : L2.St} (E : EnvOk G (Zof Z L st) H L ρ σ) : EnvOk G (Zof (Zof Z L st) [] []) H [] (plainE ρ) σ := by
  refine ⟨by unfold plainE; rw [List.length_map]; exact E.1, fun i s e => ?_⟩
  unfold plainE at e
  rw [List.getElem?_map] at e
  cases er : ρ[i]? with
  | none => rw [er] at e; cases e
  | some o =>
    rw [er] at e
    cases o with
    | none => cases e
    | some u =>
      cases u with
      | p d =>
        cases e
        obtain ⟨v, ev, r⟩ := E.2 i _ er
        cases r with
        | p r => exact ⟨v, ev, .p (r.zone fun a z => zof_nil.mp z)⟩
      | r n => cases e
      | x c fs => cases e
abbrev toldS (w a ce ee rf : Str) (j kt : Nat) (q1 q2 q3 p1 p2 p4 p5 p6 p7 p8 p9 p10 : Pos) : Stmt :=
  .Try [.Return (some (.Tuple [.Constant (.str w) j q1, .Call (.Name a p1) [] [] p2] kt q2)) q3] [.ExceptHandler (some (.Name ce p4)) (some ee) [.Return (some (.Call (.Name rf p5) [.Name ee p6] [] p7)) p8] p9] [] [] p10
theorem envOk_app {G : Wd} {Z : Zone} {H : Hp} {L : List Addr} {ρ : Env} {σ : L2.St} {ds : List D} {vs : List V} (E : EnvOk G Z H L ρ σ) (r : Reps G Z H ds vs) : EnvOk G Z H L (ρ ++ ds.map fun d => some (.p d)) (σ ++ vs.map some) := by
  have hl := r.length
  refine ⟨by simp [E.1, hl], fun i s e => ?_⟩
  by_cases hi : i < ρ.length
  · rw [List.getElem?_append_left hi] at e
    rw [List.getElem?_append_left (by rw [← E.1]; exact hi)]
    exact E.2 i s e
  · rw [List.getElem?_append_right (by omega), List.getElem?_map] at e
    rw [List.getElem?_append_right (by rw [← E.1]; omega), List.getElem?_map, ← E.1]
    cases ed : ds[i - ρ.length]? with
    | none => rw [ed] at e; cases e
    | some d =>
      rw [ed] at e
      cases e
      obtain ⟨v, ev, rv⟩ := r.get ed
      exact ⟨v, by rw [ev]; rfl, .p rv⟩
section
variable {G : Wd} {W : WX} {X : Cx}
theorem me_told {x a w ce ee rf : Str} {j kt : Nat} {q1 q2 q3 p1 p2 p4 p5 p6 p7 p8 p9 p10 : Pos} {g P CE fr : Addr} {k : Nat} {pg : Arguments} {sg : Scope} {kV doc pm cdv ct oc dV : Value} {an od : Option Addr} {osl : Array (Option Value)} {fdr : FuncData} {psr : List Str}
    {params : Arguments} {body : Expr} {scope : Scope} {lps NN : List Str} {lvs : List V} {ds : List D} {fe : Den} {refd : FD} {sub : Str → Option Bool} {p lpos pos : Pos} (hm : X.mg x = some (.ref g)) (hk : PySem.W.keepIn X.K (.ref g) = true)
    (lk : X.K.lookup g = some ⟨oc, od, .func (PySem.W.fnOf x x pg [toldS w a ce ee rf j kt q1 q2 q3 p1 p2 p4 p5 p6 p7 p8 p9 p10] sg dV kV doc pm an cdv ct), osl⟩) (hcg : PySem.W.codeIn X.K cdv x = true)
    (hb : L2.Binds X.K (PySem.W.fnOf x x pg [toldS w a ce ee rf j kt q1 q2 q3 p1 p2 p4 p5 p6 p7 p8 p9 p10] sg dV kV doc pm an cdv ct) [a] []) (Sg : FnScope [a, ee] [a] sg) (hva : Vis sg a) (hee : sg.names.lookup ee = some .local)
    (hce : sg.names.lookup ce = some .globalImplicit) (hrf : sg.names.lookup rf = some .globalImplicit) (hmc : X.mg ce = some (.ref CE)) (hmr : X.mg rf = some (.ref fr)) (hkr : PySem.W.keepIn X.K (.ref fr) = true) (hbr : L2.Binds X.K fdr psr [])
    (F : FnHE X.prog X.w X.K X.mg X.base (L2N.CX X.prog X.w) k fr fdr psr (spMX G refd)) (hs : ∀ c C b, G.cls c = some C → sub c = some b → PySem.W.exmOne X.K (.ref C) (.ref CE) = some b)
    (hmk : LamMk X G.T P params body scope lpos lps 0 lvs) (hll : lvs.length = lps.length) (hds : ∀ (Z : Zone) (H : Hp), Reps G Z H ds lvs) (hmT : (P, X.env.qual ++ "<lambda>") ∈ G.T) (hr : Room (k + 3) X.A) (hNN : NN = hideN lps X.N ++ lps) (Ls : LamP X.env.scope lps scope)
    (hbody : ∀ (A : Around) (outer : List PySem.Env) (s : Shared) (H : Hp) (E : XK) (f c' : Addr), Room k (A.deeper (lamEnv X scope s.heap.objs.size f c')) → L2N.Takes (lamNP X A outer s H E scope NN f c') (WD E) → ME G (WD E) (lamNP X A outer s H E scope NN f c') body fe)
    (hg : Gl X x := by rfl) (hdb : (x == ("__debug__" : Str)) = false := by decide) (hd : (a == ("__debug__" : Str)) = false := by decide) (hcd : (a == ("__classdict__" : Str)) = false := by decide)
    (hde : (ee == ("__debug__" : Str)) = false := by decide) (hce2 : (ee == ("__classdict__" : Str)) = false := by decide) (hdc : (ce == ("__debug__" : Str)) = false := by decide) (hdr : (rf == ("__debug__" : Str)) = false := by decide) :
    ME G W X (.Call (.Name x p) [.Lambda params body scope lpos] [] pos) (eTold w sub refd ds fe) := by
  refine ⟨fun pins s σ H Q I q => ?_⟩
  obtain ⟨Z, ρ, st, L, S, q⟩ := q
  obtain ⟨hPz, ps, hP, _⟩ := S.ok.tb _ hmT
  refine wpAny_Call_Name_kw (ld_glob I hg hm ?_ hdb)
  refine PySem.W.callWith_K (h₀ := X.base) I.ok.mod.kin hk ?_ (by rfl) (by rfl)
  show wpAny _ _ (spliced ((false, eval (.Lambda params body scope lpos) X.env) :: backTo pos (starEach [] X.env))) _ _ s
  refine Calls.spliced_cons (hmk _ _ _ _ _ _ _ I S.ok.tb S.ok.inn fun f c' dV' pm' ctv H1 s' I1 tt T1 hf hfn hfr hco hcz hbd => ?_)
  refine Calls.spliced_nil ⟨I1.kIn, ?_⟩
  have f1 : Fw Z L st H L st H1 := Fw.tab hPz hP tt
  have o1 : StOk G Z L st H1 := S.ok.tab hPz hP tt T1
  have S1 : Stt G Z ρ st L σ H1 := S.to f1 o1
  have zz : ∀ a, Zof (Zof Z L st) [] [] a → Zof Z L st a := fun a z => zof_nil.mp z
  have SE : Stt G (Zof Z L st) (plainE ρ ++ ds.map fun d => some (.p d)) [] [] (σ ++ lvs.map some) H1 := ⟨o1.empty, envOk_app (plainE_ok S1.env) (hds _ _)⟩
  have rc : codeAny (model X.prog X.w) X.A (.call (.ref g) ⟨[.ref f], []⟩) (CR C8.CX0 X.stack X.prog X.w H1 s' Q C8.E0) s' := by
    refine run_ofS (k := k + 2) (N := [a, ee]) (ps := [a]) (us := [.ref f]) (vs := [.ref f]) lk hcg Sg (hr.mono (by omega)) I1.env0 (hb s' [.ref f] I1.kIn rfl) (.cons rfl .nil) rfl fun hr' => ?_
    refine ⟨_, (pss_one (L2N.ps_try_as (X := (cxOf C8.CX0 X.prog X.w X.K X.mg X.base [a, ee] x sg g cdv X.A X.stack s' H1 C8.E0).nox) (i := 1) (c := .ref CE) (Wout := fun _ _ _ _ => False)
      (tb := fun W En σ' H' => ∃ Ech : XK, (∀ (cls : Value) (d : Option Addr) (σ2 : L2.St) (H2 : Hp), σ2.length = ([a, ee] : List Str).length → Ech cls d H2 → W cls d σ2 H2) ∧ σ'[0]? = some (some (.ref f)) ∧ H' c' = some (CodeO c' (X.env.qual ++ "<lambda>")) ∧ tM G (WD Ech) fe (σ ++ lvs.map some) H' fun v H2 => ([V.str w, v] : List V).length ≤ sizeLine ∧ ∀ q, H2 q = none → En.rt (.ref q) (upd H2 q (.tup [.str w, v])))
      (ts := fun a' cls d En σ' H' => σ'[1]? = some (some (.ref a')) ∧ ∃ (C : Addr) (c0 : Str) (fs : List (Str × M.D)) (vfs : List (Str × V)), cls = .ref C ∧ G.cls c0 = some C ∧ (∀ b, Zof Z L st b → H' b ≠ none) ∧ TabZ G.T (Zof Z L st) H' ∧
        XdAt (Zof Z L st) H' d vfs ∧ RepF G (Zof Z L st) H' fs vfs ∧ match refd [.x c0 fs] [] with
          | .ok dd [] => ∀ v H2, Fw (Zof Z L st) [] [] H' [] [] H2 → TabZ G.T (Zof Z L st) H2 → Rep G (Zof Z L st) H2 dd v → En.rt v H2
          | _ => False)
      rfl rfl Sg.nd rfl hee ⟨hce, hdc, .inl hmc⟩ takes0N (fun W pn xe tk _ => ?_) (fun a' oe cls d pn hz hfd => ?_))).nox, ?_⟩
    · refine ⟨fun pins s2 σ2 H2 En I2 h => ?_⟩
      obtain ⟨Ech, hW, h1, h2, h3⟩ := h
      have act := pe_actP (CXg := C8.CX0) (Eg := C8.E0) (i := 0) (E := Ech) (tb := tM G (WD Ech) fe) (k := k + 1) (p1 := p1) (p2 := p2) hNN I1 Ls hf hfn hfr hbd hll tk hW hr' (fun A outer s H hr2 => hbody A outer s H Ech f c' (hr2.mono (by omega)) (L2N.takes_of rfl rfl rfl rfl)) rfl hva hd hcd
      have hq := pss_one (ps_ret (pos := q3) (pe_tup (x1 := kt) (pos := q2) (pa_cons (pe_str (x := w) (j := j) (pos := q1)) (pa_cons act pa_nil rfl) rfl)))
      exact hq.run pins s2 σ2 H2 En I2 ⟨h1, h2, h3⟩
    · refine pss_one (PS.imp (ps_ret (pe_callHE (p := (a', oe)) F (by exact ⟨(hr'.mono (Nat.le_add_right k 2)).dp, (hr'.mono (Nat.le_add_right k 2)).un⟩) ⟨rfl, ?_⟩ List.mem_cons_self hmr hkr hbr (pa_cons (pe_var (i := 1) rfl (.inl hee) hde hce2) pa_nil rfl) hrf hdr rfl rfl)) fun En σ' H' h => ?_)
      · obtain ⟨vs, hv⟩ := hfd
        exact ⟨vs, hv, hz.2.2 vs hv⟩
      · obtain ⟨h1, C, c0, fs, vfs, e1, e2, e3, e4, e5, e6, e7⟩ := h
        obtain ⟨vs, hv⟩ := hfd
        refine ⟨_, h1, C, c0, fs, vfs, Zof Z L st, vs, rfl, hz.1.trans e1, hv, e2, e3, e4, ?_, e6, e7⟩
        show XdAt (Zof Z L st) H' oe.dict vfs
        rw [hz.2.1]
        exact e5
    · refine ⟨fun cls d H2 => ∃ (C : Addr) (c0 : Str) (fs : List (Str × M.D)) (vfs : List (Str × V)), cls = .ref C ∧ G.cls c0 = some C ∧ Fw (Zof Z L st) [] [] H1 [] [] H2 ∧ StOk G (Zof Z L st) [] [] H2 ∧ XdAt (Zof Z L st) H2 d vfs ∧ RepF G (Zof Z L st) H2 fs vfs ∧ fe (plainE ρ ++ ds.map fun d => some (.p d)) [] = .exc c0 fs [], ?_, rfl, hco, ?_⟩
      · rintro cls d σ2 H2 hlen ⟨C, c0, fs, vfs, rfl, e2, e3, e4, e5, e6, e7⟩
        simp only [eTold, e7] at q
        cases hsub : sub c0 with
        | none => rw [hsub] at q; exact q.elim
        | some b =>
          cases b with
          | false => rw [hsub] at q; exact q.elim
          | true =>
            rw [hsub] at q
            refine ⟨true, hs _ _ _ e2 hsub, fun _ a' ha' => ⟨?_, C, c0, fs, vfs, rfl, e2, e4.z0, e4.tb.zone fun a z => zof_nil.mpr z, e5, e6, ?_⟩, fun h => by cases h⟩
            · exact List.getElem?_set_self (by rw [hlen]; show 1 < 2; omega)
            · revert q
              dsimp only
              cases refd [.x c0 fs] [] with
              | stuck => exact fun q => q.elim
              | exc _ _ _ => exact fun q => q.elim
              | ok dd st2 =>
                cases st2 with
                | cons _ _ => exact fun q => q.elim
                | nil =>
                  intro q v H3 f3 t3 r3
                  have f13 := e3.trans f3
                  exact q v H3 L (f1.trans (Fw.fromEmpty o1 f13)) (o1.fromEmpty f13 (t3.zone zz)) r3
      · refine ⟨Zof Z L st, plainE ρ ++ ds.map (fun d => some (.p d)), [], [], SE, ?_⟩
        cases hfe : fe (plainE ρ ++ ds.map fun d => some (.p d)) [] with
        | stuck => simp only [eTold, hfe] at q; exact q
        | ok d st2 =>
          simp only [eTold, hfe] at q
          cases st2 with
          | cons _ _ => exact q.elim
          | nil =>
            intro v H2 L2 f2 o2 r2
            have := nil_of_len o2
            subst this
            refine ⟨by show 2 ≤ sizeLine; rw [sizeLine_eq]; omega, fun q0 hq0 => ?_⟩
            have g1 := f1.trans (Fw.fromEmpty o1 f2)
            have o3 := o1.fromEmpty f2 o2.tb
            have sm := same_new (o := .tup [.str w, v]) hq0
            have g2 : Fw Z L st H2 L st (upd H2 q0 (.tup [.str w, v])) := Fw.same sm
            exact q (.ref q0) _ L (g1.trans g2) (o3.same sm) (.tup (.inl upd_same) (o3.fresh_out hq0) (.cons (.str w) (.cons ((r2.zone fun a z => zof_nil.mpr z).mono g2.keeps) .nil)))
        | exc c0 fs st2 =>
          simp only [eTold, hfe] at q
          cases st2 with
          | cons _ _ => exact q.elim
          | nil =>
            intro H2 L2 C dd vfs f2 o2 hC hx hr
            have := nil_of_len o2
            subst this
            exact ⟨C, c0, fs, vfs, rfl, hC, f2, o2, hx.zone fun a z => zof_nil.mpr z, hr.mono fun a o e z => ⟨.of e, fun q => z (zof_nil.mpr q)⟩, rfl⟩
  refine wpAny_call (codeAny_mono rc fun r s2 hq => ?_)
  cases r with
  | error e => exact (show False from hq).elim
  | ok fl =>
    cases fl with
    | ret u => exact I1.after hq
    | next => exact False.elim hq
    | brk => exact False.elim hq
    | cont => exact False.elim hq
end
end M
namespace M
open PySem PySem.Spec L2 LamX PyProof.Rows
/-! ### defs that ask for repr: nothing is under way around them -/
structure FnG (P : Program) (w : World) (K : PySem.W.Frag) (mg : Str → Option Value) (base : Heap) (k : Nat) (f : Addr) (fd : FuncData) (ps : List Str) (sp : Sp) : Prop where
  len : ∀ vs H Q E, sp vs H Q E → vs.length = ps.length
  run : ∀ (A : Around) (outer : List PySem.Env) (s : Shared) (H : Hp) (args : Args) (us : List Value) (vs : List V) (Q : VK) (E : XK), Room k A → A.guards = some [] → Env0 P w K mg base A outer s H → BindsTo s fd args (ps.zip us) → Vals vs us → sp vs H Q E →
    codeAny (model P w) A (.call (.ref f) args) (CR (L2N.CX P w) outer P w H s Q E) s
structure MCalG (P : Program) (w : World) (K : PySem.W.Frag) (mg : Str → Option Value) (base : Heap) (G : Wd) (k : Nat) (x : Str) (n : Nat) (dn : FD) : Prop where
  ex : ∃ (f : Addr) (fd : FuncData) (ps : List Str), FnG P w K mg base k f fd ps (spM G n dn) ∧ mg x = some (.ref f) ∧ PySem.W.keepIn K (.ref f) = true ∧ Binds K fd ps []
section
variable {P : Program} {w : World} {K : PySem.W.Frag} {mg : Str → Option Value} {base : Heap} {G : Wd}
theorem FnG.mono {j k : Nat} {f : Addr} {fd : FuncData} {ps : List Str} {sp : Sp} (F : FnG P w K mg base j f fd ps sp) (h : j ≤ k) : FnG P w K mg base k f fd ps sp :=
  ⟨F.len, fun A outer s H args us vs Q E hr => F.run A outer s H args us vs Q E (hr.mono h)⟩
theorem fn_MG {x qual : Str} {s : Stmt} {f : Addr} {fd : FuncData} {N ps : List Str} {k n : Nat} {fb : SDen} (F : Fun K x qual s f fd) (S : FnScope N ps (defScope s)) (hn : ps.length = n) (hN : n ≤ N.length)
    (hbody : ∀ (cdv : Value) (A : Around) (outer : List PySem.Env) (sh : Shared) (H : Hp) (E : XK), Room k (A.deeper (PyProof.Rows.envOfC qual (defScope s) sh.heap.objs.size f cdv)) → (A.deeper (PyProof.Rows.envOfC qual (defScope s) sh.heap.objs.size f cdv)).guards = some [] →
      L2N.Takes (cxOf (L2N.CX P w) P w K mg base N qual (defScope s) f cdv A outer sh H E) (WD E) → PassesOwn (model P w) (A.deeper (PyProof.Rows.envOfC qual (defScope s) sh.heap.objs.size f cdv)) (PyProof.Rows.envOfC qual (defScope s) sh.heap.objs.size f cdv) (cxOf (L2N.CX P w) P w K mg base N qual (defScope s) f cdv A outer sh H E).xe →
      MSs G (WD E) (cxOf (L2N.CX P w) P w K mg base N qual (defScope s) f cdv A outer sh H E) (defBody s) fb) : FnG P w K mg base (k + 1) f fd ps (spM G n (dFn n N.length fb)) := by
  obtain ⟨oc, od, kV, doc, pm, an, cdv, ct, osl, rfl, lk, hcd⟩ := F.ex
  refine ⟨fun vs H Q E h => by rw [hn]; exact h.1, fun A outer sh H args us vs Q E hr hg e0 hb r hsp => ?_⟩
  exact run_ofS lk hcd S hr e0 hb r (by rw [hn]; exact hsp.1) fun hr' => ⟨_, hbody cdv A outer sh H E hr' hg (L2N.takes_of rfl rfl rfl rfl) (passes_of rfl), spM_body hN hsp⟩
theorem cal_MG {x : Str} {s : Stmt} {f : Addr} {fd : FuncData} {ps : List Str} {k n : Nat} {dn : FD} (F : Fun K x x s f fd) (h : FnG P w K mg base k f fd ps (spM G n dn)) (hm : mg x = some (.ref f)) (b : Binds K fd ps []) : MCalG P w K mg base G k x n dn := ⟨f, fd, ps, h, hm, F.kp, b⟩
end
section
variable {G : Wd} {W : WX} {X : Cx}
theorem pe_callG {k : Nat} {f : Addr} {fd : FuncData} {ps : List Str} {sp : Sp} {x : Str} {p pos : Pos} {e : Expr} {es : List Expr} {t : TA} {E : L2.St → XK} (F : FnG X.prog X.w X.K X.mg X.base k f fd ps sp) (hr : Room k X.A) (hgd : X.A.guards = some []) (hg : Gl X x) (hm : X.mg x = some (.ref f))
    (hk : PySem.W.keepIn X.K (.ref f) = true) (hb : Binds X.K fd ps []) (hx : ∀ σ, PassesAt (L2N.CX X.prog X.w) X σ (E σ)) (ha : PA X (e :: es) t) (hdb : (x == ("__debug__" : Str)) = false)
    (he : starEach (e :: es) X.env = (false, eval e X.env) :: starEach es X.env) (hpl : (backTo pos (starEach es X.env)).any (·.1) = false) : PE X (.Call (.Name x p) (e :: es) [] pos) (tCallS sp E t) := by
  refine ⟨fun pins s σ H Q I h => wpAny_Call_Name_kw (ld_glob I hg hm ?_ hdb)⟩
  refine PySem.W.callWith_K (h₀ := X.base) I.ok.mod.kin hk (thn (ha.run pos pins s σ H _ I h) fun us s1 hh => ?_) he hpl
  obtain ⟨vs, H1, I1, r, q⟩ := hh
  have b := hb s1 us I1.kIn (by rw [List.append_nil, ← r.length]; exact F.len _ _ _ _ q)
  rw [List.append_nil] at b
  refine ⟨I1.kIn, wpAny_call (codeAny_mono (F.run X.A X.stack s1 H1 ⟨us, []⟩ us vs Q (E σ) hr hgd I1.env0 b r q) fun r s' hq => ?_)⟩
  match r, hq with
  | .error e, hq => exact hx σ pins H1 s1 e s' I1 hq
  | .ok (.ret u), hq => exact I1.after hq
  | .ok .next, hq => exact False.elim hq
  | .ok .brk, hq => exact False.elim hq
  | .ok .cont, hq => exact False.elim hq
theorem me_callG {k : Nat} {x : Str} {n : Nat} {dn : FD} {p pos : Pos} {e : Expr} {es : List Expr} {f : DenL} (c : MCalG X.prog X.w X.K X.mg X.base G k x n dn) (hr : Room k X.A) (hgd : X.A.guards = some []) (tk : L2N.Takes X W) (ha : MA G W X (e :: es) f) (hg : Gl X x := by rfl)
    (hdb : (x == ("__debug__" : Str)) = false := by decide) (he : starEach (e :: es) X.env = (false, eval e X.env) :: starEach es X.env := by rfl) (hpl : (backTo pos (starEach es X.env)).any (·.1) = false := by rfl) :
    ME G W X (.Call (.Name x p) (e :: es) [] pos) (eCall n dn f) := by
  obtain ⟨fa, fd, ps, F, hm, kp, b⟩ := c.ex
  refine PE.imp (pe_callG (E := WE W) F hr hgd hg hm kp b (fun σ => L2N.passAt tk σ) ha hdb he hpl) fun σ H Q q => ?_
  obtain ⟨Z, ρ, st, L, S, q⟩ := q
  refine ⟨Z, ρ, st, L, S, PostR.bind q fun ds st1 vs H1 L1 ed f1 o1 r1 q1 => ?_⟩
  by_cases hn : ds.length = n
  · rw [if_pos hn] at q1
    exact me_call1 o1 r1 hn q1
  · rw [if_neg hn] at q1
    exact q1.elim
end
/-! ### repr of data -/
noncomputable def dRepr (d : D) : Option D := if (D.flat 60 d && d.py.showable) = true ∧ d.py.shown.length ≤ sizeLine then some (.str d.py.shown) else none
def dEqS : D → D → Option D
  | .str x, .str y => some (.bl (decide (x = y))) | _, _ => none
section
variable {G : Wd} {X : Cx}
def rReprD (K : PySem.W.Frag) : List V → Hp → VK → Prop := fun xs H Q => ∃ x d, xs = [x] ∧ Dp K H x d ∧ SeqAt.shaped d = true ∧ d.showable = true ∧ d.shown.length ≤ sizeLine ∧ Q (.str d.shown) H
theorem call_reprD (hgd : X.A.guards = some []) (hu : X.A.units + 65 < cLine) : CallR X (.builtin "repr") (rReprD X.K) := by
  intro pins s σ H xs us Q I r h
  obtain ⟨x, d, rfl, hx, hs, hw, hz, q⟩ := h
  obtain ⟨u, rfl, rx⟩ := vals1 r
  obtain ⟨as, rd⟩ := Dp.reads I d x u hx rx
  have hl : PyData.canLay0 d = true := SeqAt.canLay_of_shaped hs
  have hd : d.depth ≤ 64 := by
    unfold SeqAt.shaped at hs
    simp only [Bool.and_eq_true, decide_eq_true_eq] at hs
    exact hs.2
  cases rd with
  | none => exact PySem.P.repr_of_none ⟨.str _, H, I.tok _, ⟨_, rfl⟩, by simpa only [PyData.shown] using q⟩
  | bool b => exact PySem.P.repr_of_bool ⟨.str _, H, I.tok _, ⟨_, rfl⟩, by simpa only [PyData.shown] using q⟩
  | int i t => exact PySem.P.repr_of_int (by simpa [PyData.showable] using hw) ⟨.str _, H, I.tok _, ⟨_, rfl⟩, by simpa only [PyData.shown] using q⟩
  | str y t => exact PySem.P.repr_of_str ⟨.str _, H, I.tok _, ⟨_, rfl⟩, by simpa only [PyData.shown] using q⟩ (by simpa only [PyData.shown] using hz)
  | list e1 e2 e3 e4 =>
    exact repr_of_reads' (.list e1 e2 e3 e4) hw (PyData.noDict_hsm (PyData.hasDict_of_canLay _ hl)) hgd (by omega) (fun _ _ e => e) (fun h' u tk k => ⟨.str _, H, I.kept (t' := tk) k, ⟨_, rfl⟩, q⟩) hz
  | tuple e1 e2 e3 e4 =>
    exact repr_of_reads' (.tuple e1 e2 e3 e4) hw (PyData.noDict_hsm (PyData.hasDict_of_canLay _ hl)) hgd (by omega) (fun _ _ e => e) (fun h' u tk k => ⟨.str _, H, I.kept (t' := tk) k, ⟨_, rfl⟩, q⟩) hz
  | dict e1 e2 e3 e4 e5 => simp [PyData.canLay0] at hl
theorem sim_repr (hK : G.K = X.K) : SimC G dRepr (rReprD X.K) := fun Z H d x z Q i rx h q => by
  unfold dRepr at h
  split at h
  · rename_i hh
    obtain ⟨h1, h2⟩ := hh
    rw [Bool.and_eq_true] at h1
    cases h
    exact ⟨x, d.py, rfl, hK ▸ rx.dp h1.1, py_shaped h1.1, h1.2, h2, q _ H (Same.refl H) (.str _)⟩
  · cases h
theorem sim_eqS : Sim2 G dEqS rEq := fun Z H d e x y z Q i rx ry h q => by
  unfold dEqS at h
  split at h
  · cases h
    obtain rfl := rx.str'
    obtain rfl := ry.str'
    refine ⟨rfl, ?_⟩
    have := q (.bl _) H (Same.refl H) (.bl _)
    simpa using this
  · cases h
end
end M
namespace M
open PySem PySem.Spec L2 LamX PyProof.Rows
/-! ### the end of a law whose def asks for repr and makes lambdas -/
abbrev tab0 : Obj := { cls := .none, data := .fields #[] }
abbrev lst0 (vs : List Value) : Obj := { cls := .type "list", data := .seq vs.toArray }
/-- the heap at the law's call: the tables, and the script where it is no constant -/
noncomputable def hp0 (T : List Addr) (a : Addr) (own : Bool) (vs : List Value) (ns : List Int) : Hp := fun b =>
  if b ∈ T then some (.tbl #[]) else if b = a ∧ own = true then some (.frz (lst0 vs) (.lst (ns.map V.int))) else none
section
variable {P : Program} {w : World} {K : PySem.W.Frag} {mg mb : Str → Option Value} {k : Nat} {fa a : Addr} {cs : List (Addr × Addr)} {fd : FuncData} {x : Str} {sp : Sp} {s₁ : Shared} {vs : List Value} {ns : List Int} {T : List Addr} {own : Bool}
theorem hp0_T {b : Addr} (h : b ∈ T) : hp0 T a own vs ns b = some (.tbl #[]) := if_pos h
theorem hp0_cases (b : Addr) : (b ∈ T ∧ hp0 T a own vs ns b = some (.tbl #[])) ∨ (b ∉ T ∧ b = a ∧ own = true ∧ hp0 T a own vs ns b = some (.frz (lst0 vs) (.lst (ns.map V.int)))) ∨ (b ∉ T ∧ hp0 T a own vs ns b = none) := by
  by_cases h1 : b ∈ T
  · exact .inl ⟨h1, if_pos h1⟩
  · by_cases h2 : b = a ∧ own = true
    · exact .inr (.inl ⟨h1, h2.1, h2.2, (if_neg h1).trans (if_pos h2)⟩)
    · exact .inr (.inr ⟨h1, (if_neg h1).trans (if_neg h2)⟩)
/-- the promise of the law's def, at one heap -/
structure AtCall (P : Program) (w : World) (K : PySem.W.Frag) (mg : Str → Option Value) (k n : Nat) (x : Str) (fa : Addr) (h : Heap) : Prop where
  ex : ∃ (fd : FuncData) (cs : List (Addr × Addr)) (sp : Sp), (∀ p ∈ cs, h.get? p.2 = some tab0) ∧ (∀ p ∈ cs, K.lookup p.2 = none) ∧ (∀ p ∈ cs, PySem.W.CodeHd h p.1 p.2) ∧ (∀ (s : Shared) (u : Value), BindsTo s fd ⟨[u], []⟩ [(x, u)]) ∧
    (∀ (H : Hp) (a : Addr) (ns : List Int), ns.length ≤ n → (∀ z ∈ ns, Builtin.Int.intBits z ≤ 1048576) → (∀ p ∈ cs, H p.2 = some (.tbl #[])) → SqL K H a (ns.map V.int) → sp [.ref a] H (fun v _ => v = .bl true) fun _ _ _ => False) ∧
    ∀ base : Heap, K.In base → base.Ns mainGlobals mg → (∀ p ∈ cs, TabB base mg p.1 p.2) → FnG P w K mg base k fa fd [x] sp
theorem fin_key {H H' : Hp} {s' : Shared} (hT : ∀ b ∈ T, s₁.heap.get? b = some tab0) (hcT : ∀ b ∈ T, ∃ c, PySem.W.CodeHd s₁.heap c b) (ha : s₁.heap.get? a = some (lst0 vs)) (eH : H = hp0 T a own vs ns) (hok : HOk P w H s₁.heap) (un : Un (frs []) [] H H' s₁.heap s'.heap) (hok' : HOk P w H' s'.heap) : OldK s₁.heap s'.heap := by
  subst eH
  have far : ∀ b o, b ∉ T → s₁.heap.get? b = some o → s'.heap.get? b = some o := fun b o nb e => by
    rcases hp0_cases (T := T) (a := a) (own := own) (vs := vs) (ns := ns) b with ⟨h, _⟩ | ⟨_, _, _, z⟩ | ⟨_, z⟩
    · exact absurd h nb
    · have g1 : s₁.heap.get? b = some (lst0 vs) := (hok b _ z).1
      have g2 : s'.heap.get? b = some (lst0 vs) := (hok' b _ (un.frzs b _ _ z)).1
      rw [g1] at e
      cases e
      exact g2
    · exact un.keep b o e z (fun h => by cases h) (fun h => by cases h)
  have near : ∀ b ∈ T, ∃ more : Array Value, s'.heap.get? b = some { cls := .none, data := .fields more } := fun b hb => by
    obtain ⟨more, z⟩ := un.tbls b #[] (hp0_T hb)
    exact ⟨_, hok' b _ z⟩
  constructor
  · intro b o e
    by_cases hb : b ∈ T
    · obtain ⟨more, hm⟩ := near b hb
      obtain ⟨c, hc⟩ := hcT b hb
      rw [hT b hb] at e
      cases e
      exact .inr (.inl ⟨(hc.tab (hT b hb)).isCodeTable, rfl, #[], more, rfl, by rw [Array.empty_append]; exact hm⟩)
    · exact .inl (far b o hb e)
  · intro b o e
    by_cases hb : b ∈ T
    · obtain ⟨more, hm⟩ := near b hb
      exact ⟨_, hm⟩
    · exact ⟨o, far b o hb e⟩
theorem env_key (KX : K.In s₁.heap) (hns : s₁.heap.Ns mainGlobals mg) (hb : s₁.heap.Ns builtinsNs mb) (hbb : ∀ x : Str, x ≠ "__name__" → mb x = bootBuiltins x) (hlim : s₁.heap.NoLimit) (hg : s₁.gens = #[]) (hT : ∀ b ∈ T, s₁.heap.get? b = some tab0) (nT : ∀ b ∈ T, K.lookup b = none)
    (ha : s₁.heap.get? a = some (lst0 vs)) (ho : own = true → K.lookup a = none) (hok : HOk P w (hp0 T a own vs ns) s₁.heap) : Env0 P w K mg (hidT s₁.heap (hp0 T a own vs ns)) callerA [] s₁ (hp0 T a own vs ns) := by
  have away : ∀ {b : Addr} {o : Obj} {es : Array DictEntry} {ep : Nat}, s₁.heap.get? b = some o → o.data = .dict es ep → hp0 T a own vs ns b = none := fun {b o es ep} e d => by
    rcases hp0_cases (T := T) (a := a) (own := own) (vs := vs) (ns := ns) b with ⟨h, _⟩ | ⟨_, rfl, _, _⟩ | ⟨_, z⟩
    · rw [hT b h] at e
      cases e
      cases d
    · rw [ha] at e
      cases e
      cases d
    · exact z
  have ns2 : ∀ {b : Addr} {m : Str → Option Value}, s₁.heap.Ns b m → (hidT s₁.heap (hp0 T a own vs ns)).Ns b m := fun {b m} ⟨o, es, ep, e, d, r⟩ => ⟨o, es, ep, hidT_get e (away e d), d, r⟩
  have kin : K.In (hidT s₁.heap (hp0 T a own vs ns)) := fun b o e => hidT_get (KX b o e) (by
    rcases hp0_cases (T := T) (a := a) (own := own) (vs := vs) (ns := ns) b with ⟨h, _⟩ | ⟨_, rfl, h, _⟩ | ⟨_, z⟩
    · rw [nT b h] at e
      cases e
    · rw [ho h] at e
      cases e
    · exact z)
  have lm := hlim
  obtain ⟨mc, l1, l2⟩ := lm
  exact ⟨rfl, ⟨kin, ns2 hns, ⟨mb, ns2 hb, hbb⟩, ⟨mc, ns2 l1, l2⟩⟩, fun b o e => of_hidT e, Nat.le_of_eq (hidT_size _ _), trivial, fun b h => absurd (show b ∈ ([] : List Addr) from h) (by simp), hok, .of_eq hg⟩
theorem tab_key {p : Addr × Addr} (hns : s₁.heap.Ns mainGlobals mg) (hT : ∀ b ∈ T, s₁.heap.get? b = some tab0) (hp : p.2 ∈ T) (C : PySem.W.CodeHd s₁.heap p.1 p.2) (ha : s₁.heap.get? a = some (lst0 vs))
    (hbm : ∃ (bm : Addr) (ob : Obj), mg "__builtins__" = some (.ref bm) ∧ bm ≠ builtinsNs ∧ s₁.heap.get? bm = some ob ∧ ob.cls = .type "module" ∧ ob.dict = some builtinsNs ∧ ob.data = .plain) : TabB (hidT s₁.heap (hp0 T a own vs ns)) mg p.1 p.2 := by
  have away : ∀ {b : Addr} {o : Obj}, s₁.heap.get? b = some o → (∀ us n, o.data ≠ .seq us n) → o.data ≠ .fields #[] → hp0 T a own vs ns b = none := fun {b o} e d1 d2 => by
    rcases hp0_cases (T := T) (a := a) (own := own) (vs := vs) (ns := ns) b with ⟨h, _⟩ | ⟨_, rfl, _, _⟩ | ⟨_, z⟩
    · rw [hT b h] at e
      cases e
      exact absurd rfl d2
    · rw [ha] at e
      cases e
      exact absurd rfl (d1 _ _)
    · exact z
  obtain ⟨og, es, ep, eg, dg, _⟩ := hns
  have gP : mainGlobals ≠ p.2 := fun z => by
    rw [z, hT _ hp] at eg
    cases eg
    cases dg
  refine ⟨?_, ?_, gP⟩
  · obtain ⟨o, us, file, tf, flags, tg, inF, text, tt, e1, r1, r2, r3, more⟩ := C
    refine ⟨o, us, file, tf, flags, tg, inF, text, tt, hidT_get e1 (away e1 (fun us n z => ?_) fun z => ?_), r1, r2, r3, more⟩ <;> rw [r2] at z <;> cases z
    simp at r3
  · obtain ⟨bm, ob, b1, b2, b3, b4, b5, b6⟩ := hbm
    refine ⟨bm, ob, b1, b2, fun z => ?_, fun z => ?_, hidT_get b3 (away b3 (fun us n z => ?_) fun z => ?_), b4, b5, b6⟩
    · rw [z, eg] at b3
      cases b3
      rw [dg] at b6
      cases b6
    · rw [z, hT _ hp] at b3
      cases b3
      cases b6
    · rw [b6] at z
      cases z
    · rw [b6] at z
      cases z
theorem at_call {n : Nat} (KX : K.In s₁.heap) (hns : s₁.heap.Ns mainGlobals mg) (hb : s₁.heap.Ns builtinsNs mb) (hbb : ∀ x : Str, x ≠ "__name__" → mb x = bootBuiltins x) (hlim : s₁.heap.NoLimit) (hg : s₁.gens = #[])
    (hbm : ∃ (bm : Addr) (ob : Obj), mg "__builtins__" = some (.ref bm) ∧ bm ≠ builtinsNs ∧ s₁.heap.get? bm = some ob ∧ ob.cls = .type "module" ∧ ob.dict = some builtinsNs ∧ ob.data = .plain)
    (ha : s₁.heap.get? a = some (lst0 vs)) (hi : IntsAre vs ns) (hl : ns.length ≤ n) (hn : n ≤ sizeLine) (hbits : ∀ z ∈ ns, Builtin.Int.intBits z ≤ 1048576) (hr : Room k callerA) (F : AtCall P w K mg k n x fa s₁.heap) :
    codeAny (model P w) callerA (.call (.ref fa) ⟨[.ref a], []⟩) (fun r s' => r = .ok (.ret (.bool true)) ∧ OldK s₁.heap s'.heap ∧ s'.os = s₁.os ∧ AllBare s'.gens) s₁ := by
  obtain ⟨fd, cs, sp, f1, f2, f3, f4, f5, f6⟩ := F.ex
  have rv := vals_ints hi
  have lz : vs.length ≤ sizeLine := by rw [hi.length]; omega
  generalize hTT : cs.map (·.2) = TT
  have g1 : ∀ b ∈ TT, s₁.heap.get? b = some tab0 := fun b hb => by
    rw [← hTT] at hb
    obtain ⟨p, hp, rfl⟩ := List.mem_map.mp hb
    exact f1 p hp
  have g2 : ∀ b ∈ TT, K.lookup b = none := fun b hb => by
    rw [← hTT] at hb
    obtain ⟨p, hp, rfl⟩ := List.mem_map.mp hb
    exact f2 p hp
  have g3 : ∀ b ∈ TT, ∃ c, PySem.W.CodeHd s₁.heap c b := fun b hb => by
    rw [← hTT] at hb
    obtain ⟨p, hp, rfl⟩ := List.mem_map.mp hb
    exact ⟨_, f3 p hp⟩
  have g4 : ∀ p ∈ cs, p.2 ∈ TT := fun p hp => by rw [← hTT]; exact List.mem_map.mpr ⟨p, hp, rfl⟩
  have aT : a ∉ TT := fun z => by
    have e := g1 a z
    rw [ha] at e
    cases e
  obtain ⟨own, ho1, ho2⟩ : ∃ own : Bool, (own = true → K.lookup a = none) ∧ (own = false → ∃ o, K.lookup a = some o) := by
    cases h : K.lookup a with
    | none => exact ⟨true, fun _ => rfl, fun z => by cases z⟩
    | some o => exact ⟨false, fun z => by (cases z), fun _ => ⟨o, rfl⟩⟩
  have hok : HOk P w (hp0 TT a own vs ns) s₁.heap := fun b u z => by
    rcases hp0_cases (T := TT) (a := a) (own := own) (vs := vs) (ns := ns) b with ⟨h, z2⟩ | ⟨_, rfl, _, z2⟩ | ⟨_, z2⟩
    · rw [z2] at z
      cases z
      exact g1 b h
    · rw [z2] at z
      cases z
      exact ⟨ha, by rw [List.length_map, ← hi.length]; exact lz, vs, _, rv, ha⟩
    · rw [z2] at z
      cases z
  have hS : SqL K (hp0 TT a own vs ns) a (ns.map V.int) := by
    cases own with
    | true =>
      rcases hp0_cases (T := TT) (a := a) (own := true) (vs := vs) (ns := ns) a with ⟨h, _⟩ | ⟨_, _, _, z2⟩ | ⟨_, z2⟩
      · exact absurd h aT
      · exact .inl (.inr ⟨_, z2⟩)
      · exfalso
        unfold hp0 at z2
        rw [if_neg aT, if_pos ⟨rfl, rfl⟩] at z2
        cases z2
    | false =>
      obtain ⟨o, e⟩ := ho2 rfl
      have e2 := KX a o e
      rw [ha] at e2
      cases e2
      exact .inr ⟨_, vs.toArray, _, e, rfl, rfl, rfl, by rw [List.size_toArray]; exact lz, by simpa using rv⟩
  have e0 := env_key (mb := mb) KX hns hb hbb hlim hg g1 g2 ha ho1 hok
  refine codeAny_mono ((f6 _ e0.mod.kin e0.mod.glob fun p hp => tab_key hns g1 (g4 p hp) (f3 p hp) ha hbm).run callerA [] s₁ _ ⟨[.ref a], []⟩ [.ref a] [.ref a] _ _ hr rfl e0 (f4 s₁ (.ref a)) (.cons rfl .nil) (f5 _ a ns hl hbits (fun p hp => hp0_T (g4 p hp)) hS)) fun r s' h => ?_
  match r, h with
  | .error e, h =>
    obtain ⟨_, _, _, _, _, _, _, _, _, _, _, _, z⟩ := h
    exact z.elim
  | .ok .next, h => exact False.elim h
  | .ok .brk, h => exact False.elim h
  | .ok .cont, h => exact False.elim h
  | .ok (.ret u), h =>
    obtain ⟨v, H', os, bare, un, hok', ru, q⟩ := h
    have q : v = .bl true := q
    subst q
    obtain rfl : u = Value.bool true := ru
    exact ⟨rfl, fin_key g1 g3 ha rfl hok un hok', os, bare⟩
theorem walk_at {l : PySem.W.OpenLaw} {n k : Nat} {q : Program} {loose : List Str} {XP : (Str → Option Value) → Heap → Prop} {YP : World → Heap → Prop} {d : DefRec} {K : Params → PySem.W.Frag} {x : Str}
    (hn : l.most = some n) (hn2 : n ≤ sizeLine) (hdf : d.params.defaults = []) (hr : Room k callerA) (hY : ∀ (w : World) (h : Heap), YP w h → (K w.params).In h)
    (F : ∀ (w : World) (mg mb : Str → Option Value) (mean : ExcName → Option Value) (fa : Addr) (h : Heap), PyProof.Rows.Top q (PySem.W.looseW q loose) mean mg mb h → (K w.params).In h → mg d.name = some (.ref fa) → AtCall l.prog w (K w.params) mg k n x fa h) :
    PySem.W.WalkO q loose XP YP l.row.toRowW d [] (fun f vs => PySem.call f vs) :=
  Att.attach_callB hn hdf fun w s₀ s₁ mg mb fa o pm cd doc a vs ns G Y ho hd hcd hmg hobj hints hlen hbits hg =>
    at_call (hY w _ Y) G.T.g G.T.b G.T.builtins G.T.nolimit hg G.T.bmain hobj hints hlen hn2 hbits hr (F w mg mb _ fa _ G.T (hY w _ Y) hmg)
/-- a def's code object and its table -/
theorem tab_at {K : PySem.W.Frag} {q : Program} {loose : List Str} {mean : ExcName → Option Value} {mg mb : Str → Option Value} {h : Heap} {x : Str} {c P : Addr} (T : PyProof.Rows.Top q loose mean mg mb h) (X : K.In h) (hr : ((PyProof.Rows.recsOf q).find? (fun e => e.name == x)).isSome = true) (ht : PySem.W.tabIn K x = some (c, P)) :
    PySem.W.CodeHd h c P ∧ h.get? P = some tab0 := by
  obtain ⟨d, hd⟩ := Option.isSome_iff_exists.mp hr
  exact PySem.W.tab_of T X hd ht
theorem tab_out {K : PySem.W.Frag} {h : Heap} {P : Addr} (X : K.In h) (hT : h.get? P = some tab0) (nt : PySem.W.noTabs K = true) : K.lookup P = none := by
  cases e : K.lookup P with
  | none => rfl
  | some o =>
    have e2 := X _ _ e
    rw [hT] at e2
    cases e2
    have h2 := List.all_eq_true.mp nt (P, tab0) (PySem.W.mem_of_lookupK e)
    exact absurd (show false = true from h2) Bool.false_ne_true
end
end M
namespace M
open PySem PySem.Spec PyProof.Rows L2
/-! ### dicts written as displays, lists made by list(..) -/
section
variable {G : Wd} {W : WX} {X : Cx} {pos : Pos}
theorem me_dic0 : ME G W X (.Dict [] [] pos) (eC (.dic [])) := PE.imp pe_dnewK fun σ H Q q => by
  obtain ⟨Z, ρ, st, L, S, q⟩ := q
  intro p hp
  have sm := same_new (o := .dK []) hp
  exact q (.ref p) _ L (Fw.same sm) (S.ok.same sm) (.dK (.inl upd_same) (S.ok.fresh_out hp) .nil)
/-- {"x": i} -/
theorem me_dic1 {x : Str} {i : Int} {j1 j2 : Nat} {p1 p2 : Pos} : ME G W X (.Dict [some (.Constant (.str x) j1 p1)] [.Constant (.int i) j2 p2] pos) (eC (.dic [(.str x, .int i)])) :=
  PE.imp (pe_disp (pps_cons pe_str pe_int pps_nil) rfl rfl (by simp) (by simp)) fun σ H Q q => by
    obtain ⟨Z, ρ, st, L, S, q⟩ := q
    intro p hp
    have sm := same_new (o := .dK [(.inr x, .int i)]) hp
    have eu : upd (upd H p (.dK [])) p (.dK (mergeK [] [(.inr x, V.int i)])) = upd H p (.dK [(.inr x, .int i)]) := by
      funext b
      by_cases hb : b = p
      · rw [hb, upd_same, upd_same]
        rfl
      · rw [upd_ne hb, upd_ne hb, upd_ne hb]
    refine ⟨upd_same, [(.inr x, .int i)], rfl, by simp, ?_⟩
    rw [eu]
    exact q (.ref p) _ L (Fw.same sm) (S.ok.same sm) (.dK (.inl upd_same) (S.ok.fresh_out hp) (.str (.int i) .nil))
end
end M
namespace M
open PySem PySem.Spec PyProof.Rows L2
/-! ### a list of one's own made by list(..), by sorted(..) -/
def lstO : D → Option (List D)
  | .lst ds => some ds | .tup ds => some ds | _ => none
def srtO : D → Option (List D)
  | .lst ds => (dInts ds).map fun ns => (sortI ns).map .int | _ => none
@[simp] def nOf (g : D → Option (List D)) (f : Den) : M.Env → Sto → Res O := fun ρ st => (f ρ st).bind fun d st => match g d with | some ds => .ok (.lst ds) st | none => .stuck
section
variable {G : Wd} {W : WX} {X : Cx} {e : Expr} {p pos : Pos} {f : Den}
def SimO (G : Wd) (g : D → Option (List D)) (r : List V → Hp → VK → Prop) : Prop := ∀ Z H d x ds Q, In Z H → View G Z H d x → g d = some ds →
  (∀ q vs, H q = none → Reps G Z H ds vs → Q (.ref q) (upd H q (.lst vs))) → r [x] H Q
theorem mn_of {g : D → Option (List D)} {r : List V → Hp → VK → Prop} {e0 : Expr} (hc : ∀ {ta : TA}, PA X [e] ta → PE X e0 (tCB r ta)) (s : SimO G g r) (ha : MV G W X e f) (hs : starEach [e] X.env = (false, eval e X.env) :: starEach [] X.env := by rfl) :
    MN G W X e0 (nOf g f) := by
  refine PE.imp (hc (pa_cons ha pa_nil hs)) fun σ H Q q => ?_
  obtain ⟨Z, ρ, st, L, S, q⟩ := q
  refine ⟨Z, ρ, st, L, S, ?_⟩
  unfold nOf at q
  revert q
  cases f ρ st with
  | stuck => exact fun q => q
  | exc c fs s => exact fun q => q
  | ok d st1 =>
    intro q x H1 L1 f1 o1 r1
    have q : match (match g d with | some ds => .ok (.lst ds) st1 | none => .stuck : Res O) with
      | .ok o st' => ∀ p H' L', FwN G Z L st H L' st' H' p → OOk G (Zof (fun a => Z a ∨ a = p) L' st') H' L' p o → Q (.ref p) H'
      | .exc c fs st' => ExP G Z L st H c fs st' fun cv dd H' => W cv dd σ H'
      | .stuck => False := q
    cases eg : g d with
    | none => rw [eg] at q; exact q.elim
    | some ds =>
      rw [eg] at q
      exact s _ _ _ _ ds _ o1.inn r1 eg fun p vs hp rv => q p _ L1 (FwN.mk_new f1 o1 hp) ⟨vs, upd_same, rv.mono (keeps_new hp)⟩
theorem simo_list (hK : G.K = X.K) : SimO G lstO (fun xs H Q => ∃ p ys, xs = [.ref p] ∧ (SqL X.K H p ys ∨ SqT X.K H p ys) ∧ ∀ l, H l = none → Q (.ref l) (upd H l (.lst ys))) := fun Z H d x ds Q i rx h q => by
  unfold lstO at h
  split at h
  · cases h
    obtain ⟨a, vs, rfl, ha, ra⟩ := rx.list
    exact ⟨a, vs, rfl, .inl (.inl ha), fun l hl => q l vs hl ra⟩
  · cases h
    obtain ⟨a, vs, rfl, ha, ra⟩ := rx.tup
    exact ⟨a, vs, rfl, .inr (hK ▸ ha), fun l hl => q l vs hl ra⟩
  · cases h
theorem mn_list (hK : G.K = X.K) (hm : X.mg "list" = none) (ha : MV G W X e f) (hg : Gl X "list" := by rfl) (hs : starEach [e] X.env = (false, eval e X.env) :: starEach [] X.env := by rfl) (hpl : (backTo pos (starEach [] X.env)).any (·.1) = false := by rfl) : MN G W X (.Call (.Name "list" p) [e] [] pos) (nOf lstO f) :=
  mn_of (fun h => pe_callTy call_list_of hg hm (by decide +kernel) h (by decide) (by decide) hs hpl) (simo_list hK) ha hs
theorem simo_sorted : SimO G srtO (rSortedI X.K) := fun Z H d x ds Q i rx h q => by
  unfold srtO at h
  split at h
  · obtain ⟨ns, h1, rfl⟩ := Option.map_eq_some_iff.mp h
    obtain ⟨a, vs, rfl, ha, ra⟩ := rx.list
    have e := ra.ofInts h1
    subst e
    refine ⟨a, ns, rfl, .inl ha, fun ns' p hp hs hn => ?_⟩
    rw [sorted_uniq (hp.trans (sortI_perm ns).symm) hs (sortI_sorted ns)]
    exact q p _ hn (reps_ints _)
  · cases h
theorem mn_sorted (hm : X.mg "sorted" = none) (ha : MV G W X e f) (hg : Gl X "sorted" := by rfl) (hs : starEach [e] X.env = (false, eval e X.env) :: starEach [] X.env := by rfl) (hpl : (backTo pos (starEach [] X.env)).any (·.1) = false := by rfl) : MN G W X (.Call (.Name "sorted" p) [e] [] pos) (nOf srtO f) :=
  mn_of (fun h => pe_callB cr_sortedI hg hm (by decide +kernel) h (by decide) (by decide) hs hpl) simo_sorted ha hs
end
end M
namespace M
open PySem PySem.Spec L2 LamX PyProof.Rows
/-! ### a def whose code object is known by its address -/
structure FunC (K : PySem.W.Frag) (x qual : Str) (st : Stmt) (f : Addr) (fd : FuncData) (c : Addr) : Prop where
  ex : ∃ (oc : Value) (od : Option Addr) (kV doc pm : Value) (an : Option Addr) (ct : Value) (osl : Array (Option Value)),
    fd = PySem.W.fnOf x qual (defArgs st) (defBody st) (defScope st) .none kV doc pm an (.ref c) ct ∧ K.lookup f = some ⟨oc, od, .func fd, osl⟩ ∧ PySem.W.codeIn K (.ref c) qual = true
  kp : PySem.W.keepIn K (.ref f) = true
section
variable {P : Program} {w : World} {K : PySem.W.Frag} {mg : Str → Option Value} {base : Heap} {G : Wd} {x qual : Str} {s : Stmt} {f : Addr} {fd : FuncData} {c : Addr} {N ps : List Str} {k n : Nat} {fb : SDen}
theorem FunC.fn (F : FunC K x qual s f fd c) : Fun K x qual s f fd := by
  obtain ⟨oc, od, kV, doc, pm, an, ct, osl, e, lk, hcd⟩ := F.ex
  exact ⟨⟨oc, od, kV, doc, pm, an, .ref c, ct, osl, e, lk, hcd⟩, F.kp⟩
theorem funC_mk {oc : Value} {od an : Option Addr} {osl : Array (Option Value)} {kV doc pm ct : Value} (l : K.lookup f = some ⟨oc, od, .func (PySem.W.fnOf x qual (defArgs s) (defBody s) (defScope s) .none kV doc pm an (.ref c) ct), osl⟩)
    (hc : PySem.W.codeIn K (.ref c) qual = true) (k : PySem.W.keepIn K (.ref f) = true) : FunC K x qual s f (PySem.W.fnOf x qual (defArgs s) (defBody s) (defScope s) .none kV doc pm an (.ref c) ct) c := ⟨⟨oc, od, kV, doc, pm, an, ct, osl, rfl, l, hc⟩, k⟩
theorem fn_MGc (F : FunC K x qual s f fd c) (S : FnScope N ps (defScope s)) (hn : ps.length = n) (hN : n ≤ N.length)
    (hbody : ∀ (A : Around) (outer : List PySem.Env) (sh : Shared) (H : Hp) (E : XK), Room k (A.deeper (PyProof.Rows.envOfC qual (defScope s) sh.heap.objs.size f (.ref c))) → (A.deeper (PyProof.Rows.envOfC qual (defScope s) sh.heap.objs.size f (.ref c))).guards = some [] →
      L2N.Takes (cxOf (L2N.CX P w) P w K mg base N qual (defScope s) f (.ref c) A outer sh H E) (WD E) → PassesOwn (model P w) (A.deeper (PyProof.Rows.envOfC qual (defScope s) sh.heap.objs.size f (.ref c))) (PyProof.Rows.envOfC qual (defScope s) sh.heap.objs.size f (.ref c)) (cxOf (L2N.CX P w) P w K mg base N qual (defScope s) f (.ref c) A outer sh H E).xe →
      MSs G (WD E) (cxOf (L2N.CX P w) P w K mg base N qual (defScope s) f (.ref c) A outer sh H E) (defBody s) fb) : FnG P w K mg base (k + 1) f fd ps (spM G n (dFn n N.length fb)) := by
  obtain ⟨oc, od, kV, doc, pm, an, ct, osl, rfl, lk, hcd⟩ := F.ex
  refine ⟨fun vs H Q E h => by rw [hn]; exact h.1, fun A outer sh H args us vs Q E hr hg e0 hb r hsp => ?_⟩
  exact run_ofS lk hcd S hr e0 hb r (by rw [hn]; exact hsp.1) fun hr' => ⟨_, hbody A outer sh H E hr' hg (L2N.takes_of rfl rfl rfl rfl) (passes_of rfl), spM_body hN hsp⟩
end
/-! ### told(lambda: ..), by name -/
structure MTold (P : Program) (w : World) (K : PySem.W.Frag) (mg : Str → Option Value) (base : Heap) (G : Wd) (k : Nat) (x : Str) (w0 : Str) (sub : Str → Option Bool) (refd : FD) : Prop where
  ex : ∃ (a ce ee rf : Str) (j kt : Nat) (q1 q2 q3 p1 p2 p4 p5 p6 p7 p8 p9 p10 : Pos) (g CE fr : Addr) (pg : Arguments) (sg : Scope) (kV doc pm cdv ct oc dV : Value) (an od : Option Addr) (osl : Array (Option Value)) (fdr : FuncData) (psr : List Str),
    (mg x = some (.ref g) ∧ PySem.W.keepIn K (.ref g) = true ∧ K.lookup g = some ⟨oc, od, .func (PySem.W.fnOf x x pg [toldS w0 a ce ee rf j kt q1 q2 q3 p1 p2 p4 p5 p6 p7 p8 p9 p10] sg dV kV doc pm an cdv ct), osl⟩ ∧ PySem.W.codeIn K cdv x = true ∧
      L2.Binds K (PySem.W.fnOf x x pg [toldS w0 a ce ee rf j kt q1 q2 q3 p1 p2 p4 p5 p6 p7 p8 p9 p10] sg dV kV doc pm an cdv ct) [a] [] ∧ FnScope [a, ee] [a] sg) ∧
    (Vis sg a ∧ sg.names.lookup ee = some .local ∧ sg.names.lookup ce = some .globalImplicit ∧ sg.names.lookup rf = some .globalImplicit ∧ mg ce = some (.ref CE) ∧ mg rf = some (.ref fr) ∧ PySem.W.keepIn K (.ref fr) = true ∧ L2.Binds K fdr psr []) ∧
    (FnHE P w K mg base (L2N.CX P w) k fr fdr psr (spMX G refd) ∧ (∀ c C b, G.cls c = some C → sub c = some b → PySem.W.exmOne K (.ref C) (.ref CE) = some b)) ∧
    (a == ("__debug__" : Str)) = false ∧ (a == ("__classdict__" : Str)) = false ∧ (ee == ("__debug__" : Str)) = false ∧ (ee == ("__classdict__" : Str)) = false ∧ (ce == ("__debug__" : Str)) = false ∧ (rf == ("__debug__" : Str)) = false
section
variable {P : Program} {w : World} {K : PySem.W.Frag} {mg : Str → Option Value} {base : Heap} {G : Wd} {k : Nat}
theorem told_mk {x w0 a ce ee rf : Str} {j kt : Nat} {q1 q2 q3 p1 p2 p4 p5 p6 p7 p8 p9 p10 : Pos} {s : Stmt} {g CE fr : Addr} {fd fdr : FuncData} {psr : List Str} {sub : Str → Option Bool} {refd : FD} (F : Fun K x x s g fd) (hm : mg x = some (.ref g))
    (hs : defBody s = [toldS w0 a ce ee rf j kt q1 q2 q3 p1 p2 p4 p5 p6 p7 p8 p9 p10]) (b : L2.Binds K fd [a] []) (Sg : FnScope [a, ee] [a] (defScope s)) (hva : Vis (defScope s) a) (hee : (defScope s).names.lookup ee = some .local)
    (hce : (defScope s).names.lookup ce = some .globalImplicit) (hrf : (defScope s).names.lookup rf = some .globalImplicit) (hmc : mg ce = some (.ref CE)) (hmr : mg rf = some (.ref fr)) (hkr : PySem.W.keepIn K (.ref fr) = true) (hbr : L2.Binds K fdr psr [])
    (R : FnHE P w K mg base (L2N.CX P w) k fr fdr psr (spMX G refd)) (he : ∀ c C b, G.cls c = some C → sub c = some b → PySem.W.exmOne K (.ref C) (.ref CE) = some b)
    (h1 : (a == ("__debug__" : Str)) = false := by decide) (h2 : (a == ("__classdict__" : Str)) = false := by decide) (h3 : (ee == ("__debug__" : Str)) = false := by decide) (h4 : (ee == ("__classdict__" : Str)) = false := by decide) (h5 : (ce == ("__debug__" : Str)) = false := by decide) (h6 : (rf == ("__debug__" : Str)) = false := by decide) :
    MTold P w K mg base G k x w0 sub refd := by
  obtain ⟨oc, od, kV, doc, pm, an, cdv, ct, osl, rfl, lk, hcd⟩ := F.ex
  rw [hs] at lk b
  exact ⟨a, ce, ee, rf, j, kt, q1, q2, q3, p1, p2, p4, p5, p6, p7, p8, p9, p10, g, CE, fr, _, _, kV, doc, pm, cdv, ct, oc, .none, an, od, osl, fdr, psr, ⟨hm, F.kp, lk, hcd, b, Sg⟩, ⟨hva, hee, hce, hrf, hmc, hmr, hkr, hbr⟩, ⟨R, he⟩, h1, h2, h3, h4, h5, h6⟩
end
section
variable {G : Wd} {W : WX} {X : Cx}
theorem me_toldM {x w0 : Str} {k : Nat} {P : Addr} {params : Arguments} {body : Expr} {scope : Scope} {lps NN : List Str} {lvs : List V} {ds : List D} {fe : Den} {refd : FD} {sub : Str → Option Bool} {p lpos pos : Pos} (m : MTold X.prog X.w X.K X.mg X.base G k x w0 sub refd)
    (hmk : LamMk X G.T P params body scope lpos lps 0 lvs) (hll : lvs.length = lps.length) (hds : ∀ (Z : Zone) (H : Hp), Reps G Z H ds lvs) (hmT : (P, X.env.qual ++ "<lambda>") ∈ G.T) (hr : Room (k + 3) X.A) (hNN : NN = hideN lps X.N ++ lps) (Ls : LamP X.env.scope lps scope)
    (hbody : ∀ (A : Around) (outer : List PySem.Env) (s : Shared) (H : Hp) (E : XK) (f c' : Addr), Room k (A.deeper (lamEnv X scope s.heap.objs.size f c')) → L2N.Takes (lamNP X A outer s H E scope NN f c') (WD E) → ME G (WD E) (lamNP X A outer s H E scope NN f c') body fe)
    (hg : Gl X x := by rfl) (hdb : (x == ("__debug__" : Str)) = false := by decide) : ME G W X (.Call (.Name x p) [.Lambda params body scope lpos] [] pos) (eTold w0 sub refd ds fe) := by
  obtain ⟨a, ce, ee, rf, j, kt, q1, q2, q3, p1, p2, p4, p5, p6, p7, p8, p9, p10, g, CE, fr, pg, sg, kV, doc, pm, cdv, ct, oc, dV, an, od, osl, fdr, psr, ⟨g1, g2, g3, g4, g5, g6⟩, ⟨k1, k2, k3, k4, k5, k6, k7, k8⟩, ⟨l1, l2⟩, h1, h2, h3, h4, h5, h6⟩ := m.ex
  exact me_told g1 g2 g3 g4 g5 g6 k1 k2 k3 k4 k5 k6 k7 k8 l1 l2 hmk hll hds hmT hr hNN Ls hbody hg hdb h1 h2 h3 h4 h5 h6
end
/-! ### classes -/
/-- the row of a table that tells whether a class is below another one -/
def subT (l : List (Str × Bool)) (c : Str) : Option Bool := l.lookup c
/-- the same of the classes' addresses: bs, one answer a class -/
def kitAll (K : PySem.W.Frag) (D : Value) : List (Str × Addr) → List (Str × Bool) → Bool
  | [], [] => true
  | (c, C) :: r, (c', b) :: r' => decide (c = c') && decide (PySem.W.kitOne K (.ref C) D = some b) && kitAll K D r r'
  | _, _ => false
theorem kitAll_ok {K : PySem.W.Frag} {D : Value} : ∀ {cl : List (Str × Addr)} {l : List (Str × Bool)}, kitAll K D cl l = true → ∀ c C b, cl.lookup c = some C → subT l c = some b → PySem.W.kitOne K (.ref C) D = some b
  | [], _, _, c, C, b, h, _ => by cases h
  | (c0, C0) :: r, [], h, _, _, _, _, _ => by cases h
  | (c0, C0) :: r, (c1, b1) :: r', h, c, C, b, h1, h2 => by
    unfold kitAll at h
    rw [Bool.and_eq_true, Bool.and_eq_true] at h
    obtain ⟨⟨e1, e2⟩, e3⟩ := h
    have e1 := of_decide_eq_true e1
    subst e1
    unfold subT at h2
    rw [List.lookup_cons] at h1 h2
    cases hb : c == c0 with
    | true =>
      rw [hb] at h1 h2
      cases h1
      cases h2
      exact of_decide_eq_true e2
    | false =>
      rw [hb] at h1 h2
      exact kitAll_ok e3 c C b h1 h2
def exmAll (K : PySem.W.Frag) (D : Value) : List (Str × Addr) → Bool
  | [] => true
  | (_, C) :: r => decide (PySem.W.exmOne K (.ref C) D = some true) && exmAll K D r
theorem exmAll_ok {K : PySem.W.Frag} {D : Value} : ∀ {cl : List (Str × Addr)}, exmAll K D cl = true → ∀ c C b, cl.lookup c = some C → (fun _ => some true : Str → Option Bool) c = some b → PySem.W.exmOne K (.ref C) D = some b
  | [], _, c, C, b, h, _ => by cases h
  | (c0, C0) :: r, h, c, C, b, h1, h2 => by
    unfold exmAll at h
    rw [Bool.and_eq_true] at h
    rw [List.lookup_cons] at h1
    cases hb : c == c0 with
    | true =>
      rw [hb] at h1
      cases h1
      cases h2
      exact of_decide_eq_true h.1
    | false =>
      rw [hb] at h1
      exact exmAll_ok h.2 c C b h1 h2
def excB (K : PySem.W.Frag) (D : Addr) : Bool := decide (PySem.W.findIn K (.ref D) "__getattribute__" = some (some (.builtin "BaseException.__getattribute__"))) && decide (PySem.W.findIn K (.ref D) "__getattr__" = some none) &&
  decide (PySem.W.subIn K (.ref D) (.type "BaseException") = some true) && PySem.W.hasDictIn K D && decide (PySem.W.findIn K (.ref D) "__class__" = some (some (.builtin "object.__class__"))) &&
  decide (PySem.W.specialIn K (.builtin "object.__class__") "__get__" = some (some (.builtin "getset_descriptor.__get__"))) && decide (PySem.W.takesIn K (.builtin "object.__class__") = some true) && decide (PySem.W.mroIn K D (.type "object") = some true)
theorem excB_ok {K : PySem.W.Frag} {D : Addr} (h : excB K D = true) : ExcC K D ∧ XfC K D := by
  unfold excB at h
  simp only [Bool.and_eq_true, decide_eq_true_eq] at h
  obtain ⟨⟨⟨⟨⟨⟨⟨h1, h2⟩, h3⟩, h4⟩, h5⟩, h6⟩, h7⟩, h8⟩ := h
  exact ⟨⟨h1, h2, h3, h4, h5, h6, h7, h8⟩, ⟨h1, h2, h3, h4⟩⟩
def excAll (K : PySem.W.Frag) : List (Str × Addr) → Bool
  | [] => true
  | (_, C) :: r => excB K C && excAll K r
theorem excAll_ok {K : PySem.W.Frag} : ∀ {cl : List (Str × Addr)}, excAll K cl = true → ∀ c C, cl.lookup c = some C → ExcC K C ∧ XfC K C
  | [], _, c, C, h => by cases h
  | (c0, C0) :: r, h, c, C, h1 => by
    unfold excAll at h
    rw [Bool.and_eq_true] at h
    rw [List.lookup_cons] at h1
    cases hb : c == c0 with
    | true =>
      rw [hb] at h1
      cases h1
      exact excB_ok h.1
    | false =>
      rw [hb] at h1
      exact excAll_ok h.2 c C h1
def noAll (K : PySem.W.Frag) (f : Str) : List (Str × Addr) → Bool
  | [] => true
  | (_, C) :: r => decide (PySem.W.findIn K (.ref C) f = some none) && noAll K f r
theorem noAll_ok {K : PySem.W.Frag} {f : Str} : ∀ {cl : List (Str × Addr)}, noAll K f cl = true → ∀ c C, cl.lookup c = some C → PySem.W.findIn K (.ref C) f = some none
  | [], _, c, C, h => by cases h
  | (c0, C0) :: r, h, c, C, h1 => by
    unfold noAll at h
    rw [Bool.and_eq_true] at h
    rw [List.lookup_cons] at h1
    cases hb : c == c0 with
    | true =>
      rw [hb] at h1
      cases h1
      exact of_decide_eq_true h.1
    | false =>
      rw [hb] at h1
      exact noAll_ok h.2 c C h1
end M
namespace M
open PySem PySem.Spec L2 NdefX PyProof.Rows
/-! ### own exception classes of the text, from what is read off the frame -/
def supB (K : PySem.W.Frag) (C fI cda : Addr) (qual : Str) (fs : List Str) : Bool :=
  decide (PySem.W.findIn K (.ref C) "__setattr__" = some (some (.builtin "object.__setattr__"))) && decide (PySem.W.subIn K (.ref C) (.type "BaseException") = some true) && decide (PySem.W.typeIn K (.ref C) = some (.type "type")) && PySem.W.keepIn K (.ref C) &&
  decide (PySem.W.findIn K (.ref C) "__init__" = some (some (.ref fI))) && decide (PySem.W.typeIn K (.ref fI) = some (.type "function")) && PySem.W.codeIn K (.ref cda) qual &&
  decide (PySem.W.ks_superIn K C C "__init__" = some (some (.builtin "ValueError.__init__"))) && decide (PySem.W.mroIn K C (.ref C) = some true) && decide (PySem.W.subIn K (.ref C) (.type "ValueError") = some true) && decide (PySem.W.nsIn K PySem.cStatics "thirdparty.any" = some none) &&
  fs.all fun f => decide (PySem.W.findIn K (.ref C) f = some none)
section
variable {P : Program} {w : World} {K : PySem.W.Frag} {mg : Str → Option Value} {base : Heap} {G : Wd} {k : Nat} {c : Str} {C fI cc cda NC : Addr} {qual nm q : Str} {s : Stmt} {bs bm sub : List Value} {sn : List Str} {ab : Bool} {col : Option Bool} {dd : Option Addr} {k0 k1 k2 k3 k5 : Option Value}
  {oc kV doc pm ct ccl cl : Value} {od an cdd cld : Option Addr} {osl ccs csl : Array (Option Value)} {fvs : Array Value} {file : Str} {tf : Tok} {fs : List Str}
structure SupK (P : Program) (K : PySem.W.Frag) (mg : Str → Option Value) (C fI cc cda : Addr) (qual : Str) (s : Stmt) (fs : List Str) : Prop where
  sup : SupC P K mg C fI cc cda "__init__" qual (defArgs s) (defBody s) (defScope s)
  no : ∀ f ∈ fs, PySem.W.findIn K (.ref C) f = some none
theorem supK_mk (o : K.lookup C = some (excClassObj nm q C NC bs bm true sn sub ab col dd k0 k1 k2 k3 k5 "ValueError.__new__")) (v : PySem.HandSPX.refsVE bm = true)
    (l : K.lookup fI = some ⟨oc, od, .func (PySem.W.ksFn "__init__" qual (defArgs s) (defBody s) (defScope s) .none kV doc pm an (.ref cda) ct cc), osl⟩)
    (lc : K.lookup cda = some ⟨ccl, cdd, .fields fvs, ccs⟩) (fi : fvs[2]? = some (.str file tf)) (fe : ((P.main.file : Str) == file) = true) (ce : K.lookup cc = some ⟨cl, cld, .cell (some (.ref C)), csl⟩) (b : supB K C fI cda qual fs = true)
    (hsup : mg "super" = none) (htop : (P.main.scope.names.lookup ("super" : Str)).isSome = false) : SupK P K mg C fI cc cda qual s fs := by
  unfold supB at b
  simp only [Bool.and_eq_true, decide_eq_true_eq, List.all_eq_true] at b
  obtain ⟨⟨⟨⟨⟨⟨⟨⟨⟨⟨⟨b1, b2⟩, b3⟩, b4⟩, b5⟩, b6⟩, b7⟩, b8⟩, b9⟩, b10⟩, b11⟩, b12⟩ := b
  exact ⟨⟨⟨⟨nm, q, NC, bs, bm, sn, sub, ab, col, dd, k0, k1, k2, k3, k5, o, v⟩, b1, b2, b3, b4⟩, b5, b6, ⟨oc, kV, doc, pm, ct, an, od, osl, l⟩, b7, ⟨ccl, cdd, fvs, ccs, file, tf, lc, fi, fe⟩, ⟨cl, cld, csl, ce⟩, b8, b11, b9, b10, hsup, htop⟩, b12⟩
section
variable {p0 p1 p2 p3 p4 p5 q1 q2 q3 q4 r1 r2 r3 r4 : Pos} {msg f1 f2 x1 x2 : Str} {j : Nat} {ar : Arg} {pl : PySem.Env → Sem Bool}
theorem mexc1 (F : SupK P K mg C fI cc cda qual s [f1]) (hm : mg c = some (.ref C)) (hG : G.cls c = some C) (hs : defBody s = [supS p0 p1 p2 p3 p4 p5 msg j, fldS f1 x1 q1 q2 q3 q4]) (S : NScope ["self", x1, "__class__"] ["self", x1] ["__class__"] (defScope s))
    (hp : ((defArgs s).posonlyargs ++ (defArgs s).args).head? = some ar) (har : ar.arg = "self") (hks : (defScope s).names.lookup ("super" : Str) = some .globalImplicit)
    (hb : ∀ (kV doc pm ctv : Value) (an : Option Addr) (us : List Value), us.length = (["self", x1] : List Str).length → bindArgs (PySem.W.ksFn "__init__" qual (defArgs s) (defBody s) (defScope s) .none kV doc pm an (.ref cda) ctv cc) ⟨us, []⟩ = pure ((["self", x1] : List Str).zip us))
    (he : SupEv p0 p1 p2 p3 p4 msg j pl) (hi : ∀ env : PySem.Env, env.scope = defScope s → interactive env = false) (hs1 : FldSw (defScope s) f1 x1 q1 q2 q3 q4) (hd1 : (x1 == ("__debug__" : Str)) = false) (hc1 : (x1 == ("__classdict__" : Str)) = false) :
    MExc P w K mg base G (k + 1) c 1 [(f1, 0)] := by
  obtain ⟨F, no⟩ := F
  have iC := F.iC
  have tI := F.tI
  have T := F.T
  rw [hs] at F hb
  exact ⟨⟨C, fI, T, iC, tI, ini1 F S hp har hks hb he hi hs1 (no f1 (by simp)) hd1 hc1, hm, hG⟩, by omega⟩
theorem mexc2 (F : SupK P K mg C fI cc cda qual s [f1, f2]) (hm : mg c = some (.ref C)) (hG : G.cls c = some C) (hs : defBody s = [supS p0 p1 p2 p3 p4 p5 msg j, fldS f1 x1 q1 q2 q3 q4, fldS f2 x2 r1 r2 r3 r4]) (S : NScope ["self", x1, x2, "__class__"] ["self", x1, x2] ["__class__"] (defScope s))
    (hp : ((defArgs s).posonlyargs ++ (defArgs s).args).head? = some ar) (har : ar.arg = "self") (hks : (defScope s).names.lookup ("super" : Str) = some .globalImplicit)
    (hb : ∀ (kV doc pm ctv : Value) (an : Option Addr) (us : List Value), us.length = (["self", x1, x2] : List Str).length → bindArgs (PySem.W.ksFn "__init__" qual (defArgs s) (defBody s) (defScope s) .none kV doc pm an (.ref cda) ctv cc) ⟨us, []⟩ = pure ((["self", x1, x2] : List Str).zip us))
    (he : SupEv p0 p1 p2 p3 p4 msg j pl) (hi : ∀ env : PySem.Env, env.scope = defScope s → interactive env = false) (hs1 : FldSw (defScope s) f1 x1 q1 q2 q3 q4) (hs2 : FldSw (defScope s) f2 x2 r1 r2 r3 r4) (hd1 : (x1 == ("__debug__" : Str)) = false) (hc1 : (x1 == ("__classdict__" : Str)) = false)
    (hd2 : (x2 == ("__debug__" : Str)) = false) (hc2 : (x2 == ("__classdict__" : Str)) = false) : MExc P w K mg base G (k + 1) c 2 [(f2, 1), (f1, 0)] := by
  obtain ⟨F, no⟩ := F
  have iC := F.iC
  have tI := F.tI
  have T := F.T
  rw [hs] at F hb
  exact ⟨⟨C, fI, T, iC, tI, ini2 F S hp har hks hb he hi hs1 hs2 (no f1 (by simp)) (no f2 (by simp)) hd1 hc1 hd2 hc2, hm, hG⟩, by omega⟩
end
end
end M
namespace M
open PySem PySem.Spec L2 L2H LamX PyProof.Rows
theorem hu65H {k : Nat} {A : Around} (r : RoomH k A) : A.units + 65 < cLine := by have := r.un; omega
theorem hu64H {k : Nat} {A : Around} (r : RoomH k A) : A.units + 64 < cLine := by have := r.un; omega
theorem FnHE.mono {P : Program} {w : World} {K : PySem.W.Frag} {mg : Str → Option Value} {base : Heap} {CX : CXT} {j k : Nat} {f : Addr} {fd : FuncData} {ps : List Str} {sp : (Addr × Obj) → Sp} (F : FnHE P w K mg base CX j f fd ps sp) (h : j ≤ k) : FnHE P w K mg base CX k f fd ps sp :=
  ⟨F.len, fun A outer s H args us vs Q E p hr => F.run A outer s H args us vs Q E p (hr.mono h)⟩
section
variable {G : Wd} {W : WX} {X : Cx}
theorem me_told0 {x w0 : Str} {k : Nat} {c P : Addr} {params : Arguments} {body : Expr} {scope : Scope} {NN : List Str} {fe : Den} {refd : FD} {sub : Str → Option Bool} {p lpos pos : Pos} (m : MTold X.prog X.w X.K X.mg X.base G k x w0 sub refd)
    (TB : TabB X.base X.mg c P) (hcode : X.env.code = .ref c) (hmT : (P, X.env.qual ++ "<lambda>") ∈ G.T) (hu : ∀ p ∈ G.T, p.1 = P → p.2 = X.env.qual ++ "<lambda>") (hr : Room (k + 3) X.A) (Ls : LamP X.env.scope [] scope) (hdef : defaultsOf params X.env = ([], []))
    (hbind : ∀ (q : Str) (cl : List (Str × Addr)) (pm cv ctv : Value) (us : List Value), us.length = 0 → bindArgs (PySem.W.kla_fn "<lambda>" q params body scope cl pm cv ctv) ⟨us, []⟩ = pure (([] : List Str).zip us)) (hNN : NN = hideN [] X.N ++ [])
    (hbody : ∀ (A : Around) (outer : List PySem.Env) (s : Shared) (H : Hp) (E : XK) (f c' : Addr), Room k (A.deeper (lamEnv X scope s.heap.objs.size f c')) → L2N.Takes (lamNP X A outer s H E scope NN f c') (WD E) → ME G (WD E) (lamNP X A outer s H E scope NN f c') body fe)
    (hg : Gl X x := by rfl) (hdb : (x == ("__debug__" : Str)) = false := by decide) : ME G W X (.Call (.Name x p) [.Lambda params body scope lpos] [] pos) (eTold w0 sub refd [] fe) :=
  me_toldM m (lamMk_plain TB hcode hmT hu (fun ok => Ls.has ok) hdef hbind) rfl (fun _ _ => .nil) hmT hr hNN Ls hbody hg hdb
theorem me_toldI {x w0 x0 : Str} {k : Nat} {n : Int} {jd : Nat} {dp : Pos} {c P : Addr} {params : Arguments} {body : Expr} {scope : Scope} {NN : List Str} {fe : Den} {refd : FD} {sub : Str → Option Bool} {p lpos pos : Pos} (m : MTold X.prog X.w X.K X.mg X.base G k x w0 sub refd)
    (TB : TabB X.base X.mg c P) (hcode : X.env.code = .ref c) (hmT : (P, X.env.qual ++ "<lambda>") ∈ G.T) (hu : ∀ p ∈ G.T, p.1 = P → p.2 = X.env.qual ++ "<lambda>") (hr : Room (k + 3) X.A) (Ls : LamP X.env.scope [x0] scope) (hdef : defaultsOf params X.env = ([eval (.Constant (.int n) jd dp) X.env], []))
    (hbind : ∀ (q : Str) (cl : List (Str × Addr)) (pm cv ctv dV : Value), ∃ k : Option (Array Value) → Sem (List (Str × Value)), bindArgs (PySem.W.dla_fn "<lambda>" q params body scope cl dV pm cv ctv) ⟨[], []⟩ = seqItems? dV >>= k ∧ ∀ u, k (some #[u]) = pure [(x0, u)]) (hNN : NN = hideN [x0] X.N ++ [x0])
    (hbody : ∀ (A : Around) (outer : List PySem.Env) (s : Shared) (H : Hp) (E : XK) (f c' : Addr), Room k (A.deeper (lamEnv X scope s.heap.objs.size f c')) → L2N.Takes (lamNP X A outer s H E scope NN f c') (WD E) → ME G (WD E) (lamNP X A outer s H E scope NN f c') body fe)
    (hg : Gl X x := by rfl) (hdb : (x == ("__debug__" : Str)) = false := by decide) : ME G W X (.Call (.Name x p) [.Lambda params body scope lpos] [] pos) (eTold w0 sub refd [.int n] fe) :=
  me_toldM m (lamMk_int TB hcode hmT hu (fun ok => Ls.has ok) hdef hbind) rfl (fun _ _ => .cons (.int n) .nil) hmT hr hNN Ls hbody hg hdb
end
end M
namespace M
open PySem PySem.Spec L2 PyProof.Rows
open AutoSeq1 (wpAny_loadPart')
/-! ### enumerate(t), t a tuple -/
abbrev enumO (it : Addr) : Obj := { cls := .type "enumerate", data := .fields #[.none, .bool false, .ref it, rawInt 0, .none, .none] }
abbrev titO (l : Addr) : Obj := { cls := .type "tuple_iterator", data := .fields #[.ref l, .int 0 0] }
theorem meets_enumT (l : Addr) (items : Array Value) (n : Nat) (dct : Option Addr) (sl : Array (Option Value)) :
    Meets (Builtin.«enumerate.__new__» ⟨[.type "enumerate", .ref l], []⟩) (fun _ R s => s.heap.get? l = some { cls := .type "tuple", dict := dct, data := .seq items n, slots := sl } ∧
      R (.ok (.ret (.ref (s.heap.push (titO l)).objs.size))) { s with heap := (s.heap.push (titO l)).push (enumO s.heap.objs.size) }) :=
  .of_wp fun prog w A R s h => by
    obtain ⟨hp, g, d, tk, os⟩ := s
    obtain ⟨hl, h⟩ := h
    have hsub := sub_enumerate
    have hT : Heap.IsTuple (Shared.heap ⟨hp, g, d, tk, os⟩) l items := ⟨_, hl, rfl, n, rfl⟩
    wp_walk using wpAny_loadPart' hl
    refine wpAny_stack_any fun st => wpAny_pure ?_
    split
    · rename_i c _ _ _ _ _
      cases (c == Value.type "enumerate")
      · wp_walk using wpAny_loadPart' hl, wpAny_pyIter_tuple hT
        exact ⟨_, rfl, h⟩
      · wp_walk using wpAny_loadPart' hl, wpAny_pyIter_tuple hT
        exact ⟨_, rfl, h⟩
    · wp_walk using wpAny_loadPart' hl, wpAny_pyIter_tuple hT
      exact ⟨_, rfl, h⟩
section
variable {prog : Program} {w : World} {A : Around} {E : Value → Shared → Prop} {s : Shared}
theorem call_enumT {l : Addr} {items : Array Value} {Q : Value → Shared → Prop} (hL : s.heap.IsTuple l items)
    (h : ∀ h', IsEnum h' (s.heap.objs.size + 1) s.heap.objs.size 0 .none → h'.IsTupleIter s.heap.objs.size l 0 → h'.objs.size = s.heap.objs.size + 2 → (∀ b o, s.heap.get? b = some o → h'.get? b = some o) → Q (.ref (s.heap.objs.size + 1)) { s with heap := h' }) :
    wpAny (model prog w) A (call (.type "enumerate") [.ref l]) Q E s := by
  obtain ⟨⟨c, dct, dt, sl⟩, hl, hc, n, hd⟩ := hL
  simp only at hc hd
  subst hc hd
  refine callType_new PySem.F.called_enumerate (by decide) (PySem.F.typeCall_enumerate_1 _) (PySem.F.newCall_enumerate_1 _) (fun obj => PySem.F.args_object_init_2 obj _) PySem.F.entry_enumerate_new (meets_enumT l items n dct sl) ⟨hl, ?_⟩
  have hz : (s.heap.push (titO l)).objs.size = s.heap.objs.size + 1 := Heap.size_push ..
  show _ ∧ _
  rw [hz]
  have he : IsEnum ((s.heap.push (titO l)).push (enumO s.heap.objs.size)) (s.heap.objs.size + 1) s.heap.objs.size 0 .none := by
    have := Heap.get?_push_size (s.heap.push (titO l)) (o := enumO s.heap.objs.size) rfl
    rw [hz] at this
    exact this
  exact ⟨⟨_, he, rfl⟩, h _ he ⟨_, Heap.get?_push_of_some _ (Heap.get?_push_size _ rfl), rfl, rfl⟩ (by rw [Heap.size_push, hz]) fun b o x => Heap.get?_push_of_some _ (Heap.get?_push_of_some _ x)⟩
end
/-- the tuple at a, each item in a new pair -/
def IteT (K : PySem.W.Frag) (a : Addr) : It :=
  ⟨fun i H => ∃ (xs : List V) (x : V), SqT K H a xs ∧ xs[i]? = some x, fun i H v H' => ∃ T x, v = .ref T ∧ H T = none ∧ H' = upd H T (.tup [.int (i : Nat), x]) ∧ ∀ xs, SqT K H a xs → xs[i]? = some x, fun i H => ∃ xs : List V, SqT K H a xs ∧ xs.length ≤ i⟩
theorem turn_enumT {P : Program} {w : World} {K : PySem.W.Frag} {elts : List Expr} {kk : Nat} {tpos : Pos} (a e it : Addr) (hai : a ≠ it) :
    Turn P w K (.Tuple elts kk tpos) (IteT K a) [e, it] e (fun i h => (∃ old, IsEnum h e it ((i : Nat) : Int) old) ∧ h.IsTupleIter it a i ∧ e ≠ it ∧ a ≠ e) where
  mem := by simp
  obj := fun i h st b hb => by
    obtain ⟨⟨old, he⟩, ⟨o, ho, hc, hd⟩, _⟩ := st
    rcases (by simpa using hb : b = e ∨ b = it) with z | z
    · rw [z]; exact ⟨_, he, fun v q => nomatch q⟩
    · rw [z]; exact ⟨o, ho, fun v q => by rw [hd] at q; cases q⟩
  keep := fun i h h' st k => by
    obtain ⟨⟨old, he⟩, hi, hne, hae⟩ := st
    exact ⟨⟨old, k e (by simp) _ he⟩, hi.at fun o q => k it (by simp) o q, hne, hae⟩
  item := by
    intro X hP hw hK hc i pins s σ H E I hf st hg
    subst hP hw hK
    obtain ⟨⟨old, he⟩, hit, hne, hae⟩ := st
    obtain ⟨xs, x, hq, hx⟩ := hg
    obtain ⟨its, rv, p, hz⟩ := I.tuple hq
    obtain ⟨u, hu, ru⟩ := rv.get hx
    have hel : e < s.heap.objs.size := Heap.lt_size he
    have hil : it < s.heap.objs.size := by obtain ⟨_, q, _⟩ := hit; exact Heap.lt_size q
    have hi : i < its.toArray.size := by
      have := (List.getElem?_eq_some_iff.mp hu).1
      simpa using this
    refine wpAny_pyNext_enum_itemD (Draws.tuple (prog := X.prog) (w := X.w) (A := X.A.in1) (I.ok.hd hc) it a hai its.toArray) he ⟨hit, show s.heap.IsTuple a its.toArray from p⟩ hi hne (by simp; exact ⟨hne, Ne.symm hae⟩) fun v h' tk hv ho st' hT hsz hk => ?_
    have hv : its.toArray[i]? = some v := hv
    obtain rfl : v = u := by
      rw [List.getElem?_toArray, hu] at hv
      exact (Option.some.inj hv).symm
    refine ⟨_, rfl, wpAny_letOwnedTupleGo_enum (s := { s with heap := h', toks := tk + 1 }) ho fun h'' he' sb => ?_⟩
    have hT2 : h''.get? s.heap.objs.size = some { cls := .type "tuple", data := .seq #[.int i tk, v] } := (sb.2 _ (Nat.ne_of_gt hel)).trans hT
    have new : ObjOk X.prog X.w (upd H s.heap.objs.size (.tup [.int (i : Nat), x])) h'' s.heap.objs.size (.tup [.int (i : Nat), x]) :=
      ⟨by show 2 ≤ sizeLine; rw [sizeLine_eq]; decide, [.int i tk, v], .cons ⟨_, rfl⟩ (.cons ru .nil), ⟨_, hT2, rfl, _, rfl⟩⟩
    have I1 : Inv X pins σ (upd H s.heap.objs.size (.tup [.int (i : Nat), x])) { s with heap := h'', toks := tk + 1 } :=
      I.turnedNew (ch := [e, it]) (fun b ob hb q => (sb.2 b (fun z => hb (by simp [z]))).trans (hk b ob (fun z => hb (by simp [z])) (fun z => hb (by simp [z])) q)) hf (Nat.le_refl _) new
    refine ⟨.ref s.heap.objs.size, _, I1, rfl, ⟨_, x, rfl, I.hok.fresh (Nat.le_refl _), rfl, fun ys hy => by rw [I.tuple_inj hy hq]; exact hx⟩, ⟨⟨v, ?_⟩, st'.1.at fun o q => (sb.2 it (Ne.symm hne)).trans q, hne, hae⟩, fun b hb => ?_⟩
    · have e1 : ((i + 1 : Nat) : Int) = (i : Int) + 1 := by omega
      rw [e1]; exact he'
    · have hb' : b < s.heap.objs.size := by
        rcases (by simpa using hb : b = e ∨ b = it) with z | z
        · rw [z]; exact hel
        · rw [z]; exact hil
      rw [upd_ne (Nat.ne_of_lt hb')]
      exact (hf b hb).1
  done := by
    intro X hP hw hK hc i pins s σ H E I hf st hg
    subst hP hw hK
    obtain ⟨⟨old, he⟩, hit, hne, hae⟩ := st
    obtain ⟨xs, hq, hx⟩ := hg
    obtain ⟨its, rv, p, hz⟩ := I.tuple hq
    obtain ⟨f0, f1, f2, f3, f4, f5⟩ := hf it (by simp)
    have hl := rv.length
    have hT : s.TypeIs (.ref e) "enumerate" := ⟨_, he, rfl⟩
    unfold pyNext
    refine wpAny_bind (wpAny_attempt (wpAny_callSpecial?_slot (name := Str.ofString "__next__") hT PySem.F.slot_enumerate_next (wpAny_call_entry PySem.F.slot_enumerate_next hT PySem.F.entry_enumerate_next ?_ (PySem.F.args_enumerate_next_1 _))))
    show wpAny _ _ (field (.ref e) 2 >>= _) _ _ _
    refine wpAny_bind (wpAny_field he rfl (x := .ref it) rfl ?_)
    refine wpAny_bind (wpAny_nextOf_tuple_end (I.ok.hd hc) hit (show s.heap.IsTuple a its.toArray from p) (by simp; omega) fun h' y eb hy => ?_)
    obtain ⟨o, ho, hcl⟩ := hy
    refine wpAny_bind (wpAny_isInstance (T := "StopIteration") (b := true) ⟨o, ho, hcl⟩ isSubtype_stop ?_)
    exact wpAny_pure ⟨rfl, I.turned (t' := s.toks) (fun b o hb q => eb b o hb q) f0 f1 f3 f4 f5⟩
  self := fun A i s Q E st h => by
    obtain ⟨⟨_, he⟩, _⟩ := st
    exact wpAny_pyIter_enum he h
def iEnumA (K : PySem.W.Frag) (ta : TA) : TI := fun σ H R => ta σ H fun vs H1 => ∃ a xs, vs = [.ref a] ∧ ((SqL K H1 a xs ∧ R (Ite K a) H1) ∨ (SqT K H1 a xs ∧ R (IteT K a) H1))
theorem pi_enumA {X : Cx} {e : Expr} {ta : TA} {p pos tpos : Pos} {elts : List Expr} {kk : Nat} (hg : Gl X "enumerate") (hm : X.mg "enumerate" = none) (ha : PA X [e] ta) (hs : starEach [e] X.env = [(false, eval e X.env)] := by rfl) :
    PI X (.Tuple elts kk tpos) (.Call (.Name "enumerate" p) [e] [] pos) (iEnumA X.K ta) := by
  refine ⟨fun pins s σ H R I h => ?_⟩
  refine Call_ (ld_blt I hg hm boot_enumerate (PyProof.Rows.callWith_type1 (thn (ha.run pos pins s σ H _ I h) fun us s1 hh => ?_) hs rfl))
  obtain ⟨vs, H1, I1, r1, a, xs, rfl, q⟩ := hh
  cases r1 with
  | cons r rr =>
    cases rr
    cases r
    have fr : ∀ b, b ∈ [s1.heap.objs.size + 1, s1.heap.objs.size] → FpOk X pins H1 b := fun b hb => by
      have hle : s1.heap.objs.size ≤ b := by
        rcases (by simpa using hb : b = s1.heap.objs.size + 1 ∨ b = s1.heap.objs.size) with z | z <;> omega
      exact I1.fpOk hle (I1.hok.fresh hle)
    rcases q with ⟨hq, q⟩ | ⟨hq, q⟩
    · obtain ⟨its, rv, p', hz⟩ := I1.list hq
      refine call_enumerate_list p'.isList fun h' he hit hsz hk => wpAny_pyIter_enum he ?_
      exact ⟨s1.heap.objs.size + 1, [s1.heap.objs.size + 1, s1.heap.objs.size], _, _, H1, rfl, I1.kept (t' := s1.toks) hk, turn_enum a (s1.heap.objs.size + 1) s1.heap.objs.size, ⟨⟨.none, he⟩, hit, Nat.succ_ne_self _⟩, fr, q⟩
    · obtain ⟨its, rv, p', hz⟩ := I1.tuple hq
      have p2 : s1.heap.IsTuple a its.toArray := p'
      have hal : a < s1.heap.objs.size := by obtain ⟨o, ho, _⟩ := p2; exact Heap.lt_size ho
      refine call_enumT p2 fun h' he hit hsz hk => wpAny_pyIter_enum he ?_
      exact ⟨s1.heap.objs.size + 1, [s1.heap.objs.size + 1, s1.heap.objs.size], _, _, H1, rfl, I1.kept (t' := s1.toks) hk, turn_enumT a (s1.heap.objs.size + 1) s1.heap.objs.size (Nat.ne_of_lt hal), ⟨⟨.none, he⟩, hit, Nat.succ_ne_self _, Nat.ne_of_lt (Nat.lt_succ_of_lt hal)⟩, fr, q⟩
section
variable {G : Wd} {W : WX} {X : Cx}
@[simp] def iEnumD (f : Den) : DenL := fun ρ st => (f ρ st).bind fun d st => match d with | .lst xs => .ok (enumL 0 xs) st | .tup xs => .ok (enumL 0 xs) st | _ => .stuck
theorem enumL_none : ∀ {l : List D} {n i : Nat} {d : D}, (enumL n l)[i]? = some d → ∃ a, l[i]? = some a ∧ d = .tup [.int (n + i : Nat), a]
  | [], n, i, d, h => by simp [enumL] at h
  | x :: l, n, 0, d, h => by simp [enumL] at h; exact ⟨x, rfl, by simpa using h.symm⟩
  | x :: l, n, i + 1, d, h => by
    simp only [enumL, List.getElem?_cons_succ] at h ⊢
    obtain ⟨a, h1, h2⟩ := enumL_none h
    exact ⟨a, h1, by rw [h2, show n + 1 + i = n + (i + 1) by omega]⟩
theorem mi_enum {a : Expr} {f : Den} {p pos tpos : Pos} {elts : List Expr} {kk : Nat} (hK : G.K = X.K) (hm : X.mg "enumerate" = none) (ha : ME G W X a f) (hg : Gl X "enumerate" := by rfl) (hs1 : starEach [a] X.env = (false, eval a X.env) :: starEach [] X.env := by rfl)
    (hs : starEach [a] X.env = [(false, eval a X.env)] := by rfl) : MI G W X (.Tuple elts kk tpos) (.Call (.Name "enumerate" p) [a] [] pos) (iEnumD f) := PI.imp (pi_enumA hg hm (pa_cons ha pa_nil hs1) hs) fun σ H R q => by
  obtain ⟨Z, ρ, st, L, S, q⟩ := q
  refine ⟨Z, ρ, st, L, S, PostI.bind q fun d st1 x H1 L1 e f1 o1 r1 q1 => ?_⟩
  split at q1
  · rename_i xs
    obtain ⟨a, vs, rfl, h1, hz, h2⟩ := r1.rdLst
    refine ⟨a, vs, rfl, .inl ⟨.inl h1, q1 _ H1 L1 Fw.refl o1 fun i Z3 L3 st3 H3 hz3 f3 o3 => ?_⟩⟩
    have hq : SqL X.K H3 a vs := .inl ((f3.keepsZ hz3).rd h1 hz (.inl ⟨_, rfl⟩)).1
    refine ⟨fun hi => ?_, fun d hd => ?_⟩
    · rw [enumL_len, h2.length] at hi
      exact ⟨vs, hq, by omega⟩
    · obtain ⟨da, e1, rfl⟩ := enumL_none hd
      obtain ⟨va, k1, k2⟩ := h2.get e1
      refine ⟨⟨vs, va, hq, k1⟩, fun x H' hy => ?_⟩
      obtain ⟨T, xa, rfl, nT, rfl, j1⟩ := hy
      have j1 := j1 vs hq
      rw [k1] at j1
      cases j1
      rw [Nat.zero_add]
      exact ⟨same_new nT, new_tup o3.inn (.cons (.int _) (.cons (k2.mono (f3.keepsZ hz3)) .nil)) nT⟩
  · rename_i xs
    obtain ⟨a, vs, rfl, h1, h2⟩ := r1.rdTup
    refine ⟨a, vs, rfl, .inr ⟨hK ▸ tupOn (Fw.refl (Z := Z)).keeps h1, q1 _ H1 L1 Fw.refl o1 fun i Z3 L3 st3 H3 hz3 f3 o3 => ?_⟩⟩
    have hq : SqT X.K H3 a vs := hK ▸ tupOn (f3.keepsZ hz3) h1
    refine ⟨fun hi => ?_, fun d hd => ?_⟩
    · rw [enumL_len, h2.length] at hi
      exact ⟨vs, hq, by omega⟩
    · obtain ⟨da, e1, rfl⟩ := enumL_none hd
      obtain ⟨va, k1, k2⟩ := h2.get e1
      refine ⟨⟨vs, va, hq, k1⟩, fun x H' hy => ?_⟩
      obtain ⟨T, xa, rfl, nT, rfl, j1⟩ := hy
      have j1 := j1 vs hq
      rw [k1] at j1
      cases j1
      rw [Nat.zero_add]
      exact ⟨same_new nT, new_tup o3.inn (.cons (.int _) (.cons (k2.mono (f3.keepsZ hz3)) .nil)) nT⟩
  · exact q1.elim
end
end M
namespace M
open PySem PySem.Spec L2
/-! ### a list of lists of one's own -/
theorem RowsAt.len {L : List Addr} {ns : List Nat} {as : List Addr} (r : RowsAt L ns as) : as.length = ns.length := by
  have h := congrArg List.length r
  simpa using h
theorem RowsAt.get {L : List Addr} {ns : List Nat} {as : List Addr} (r : RowsAt L ns as) {i n : Nat} {b : Addr} (h1 : ns[i]? = some n) (h2 : as[i]? = some b) : L[n]? = some b := by
  have h := congrArg (fun l => l[i]?) r
  simp only [List.getElem?_map, h1, h2, Option.map_some] at h
  exact (Option.some.inj h).symm
theorem RowsAt.app {L : List Addr} {ns : List Nat} {as : List Addr} (r : RowsAt L ns as) {n : Nat} {b : Addr} (h : L[n]? = some b) : RowsAt L (ns ++ [n]) (as ++ [b]) := by
  unfold RowsAt at *
  rw [List.map_append, List.map_append, r, List.map_singleton, List.map_singleton, h]
def compNL (g : GD) (ft : DenB) (fe : Env → Sto → Res O) (ρ : Env) : List D → Sto → Res (List Nat)
  | [], st => .ok [] st
  | x :: xs, st => match g x ρ with
    | none => .stuck
    | some ρ1 => match ft ρ1 st with
      | .ok true st => (match fe ρ1 st with
        | .ok o st => (compNL g ft fe ρ xs (st ++ [o])).bind fun ns st' => .ok (st.length :: ns) st'
        | _ => .stuck)
      | .ok false st => compNL g ft fe ρ xs st
      | _ => .stuck
@[simp] noncomputable def eCompN (fi : DenL) (g : GD) (ft : DenB) (fe : Env → Sto → Res O) (vs : List Nat) : Env → Sto → Res O := fun ρ st => (fi ρ st).bind fun items st => if items.length ≤ sizeLine then (compNL g ft fe (wipeE ρ vs) items st).bind fun ns st => .ok (.rows ns) st else .stuck
def rowsAt (i : Nat) (ρ : Env) (st : Sto) : Option (List Nat) := match ρ[i]? with
  | some (some (.r n)) => (match st[n]? with | some (.rows ns) => some ns | _ => none)
  | _ => none
def lstN (m : Nat) (st : Sto) : Option (List D) := match st[m]? with | some (.lst ds) => some ds | _ => none
def rowNo (a : D) (o : Option (List Nat)) : Option Nat := match o with
  | some ns => (match a with | .int j => atI ns j | _ => none)
  | none => none
def cellN (o : Option (List D)) (b : D) : Option D := match o with
  | some ds => (match b with | .int k => atI ds k | _ => none)
  | none => none
/-- x[a][b], x a list of lists of one's own -/
@[simp] def eIx2 (i : Nat) (f h : Den) : Den := fun ρ st => match rowsAt i ρ st with
  | none => .stuck
  | some _ => (f ρ st).bind fun a st => match rowNo a (rowsAt i ρ st) with
    | none => .stuck
    | some m => (h ρ st).bind fun b st => match cellN (lstN m st) b with
      | some d => .ok d st
      | none => .stuck
def setRow (m : Nat) (b d : D) (ρ : Env) (st : Sto) : SRes := match lstN m st with
  | some ds => (match b with | .int z => (match ixN ds.length z with | some q => .next ρ (st.set m (.lst (ds.set q d))) | none => .stuck) | _ => .stuck)
  | none => .stuck
/-- x[a][b] = e -/
@[simp] def sSetIx2 (i : Nat) (f h fe : Den) : SDen := fun ρ st => sOf fe (fun d ρ st => match rowsAt i ρ st with
  | none => .stuck
  | some _ => sOf f (fun a ρ st => match rowNo a (rowsAt i ρ st) with
    | none => .stuck
    | some m => sOf h (fun b ρ st => setRow m b d ρ st) ρ st) ρ st) ρ st
def frzAll : List Nat → Sto → Sto
  | [], st => st
  | m :: ns, st => frzAll ns (match (st[m]?).bind thaw with | some d => st.set m (.frz d) | none => st)
def frozen (st : Sto) : List Nat → Option (List D)
  | [] => some []
  | m :: ns => match st[m]? with | some (.frz d) => (frozen st ns).map fun ds => d :: ds | _ => none
/-- the whole told as data: from here on none of it is changed -/
@[simp] def eVarR (i : Nat) : Den := fun ρ st => match ρ[i]? with
  | some (some (.r n)) => (match rowsAt i ρ st with
    | some ns => (match rowsAt i ρ (frzAll ns st) with
      | some ms => (match frozen (frzAll ns st) ms with
        | some ds => .ok (.lst ds) ((frzAll ns st).set n (.frz (.lst ds)))
        | none => .stuck)
      | none => .stuck)
    | none => .stuck)
  | _ => .stuck
section
variable {G : Wd} {W : WX} {X : Cx} {Z Z' : Zone} {H H' : Hp} {L L' : List Addr} {st st' : Sto} {tg e : Expr} {pos : Pos}
structure CInvN (G : Wd) (Z : Zone) (p : Addr) (L1 : List Addr) (st1 : Sto) (H1 : Hp) (items : List D) (i : Nat) (acc : List Nat) (L' : List Addr) (st' : Sto) (H' : Hp) : Prop where
  le : i ≤ items.length
  fw : Fw Z L1 st1 H1 L' st' H'
  ok : StOk G (Zp Z p) L' st' H'
  at_ : ∃ as : List Addr, H' p = some (.lst (as.map V.ref)) ∧ RowsAt L' acc as
  len : acc.length ≤ i
theorem compN_core {fi : DenL} {gm : GD} {g : TG} {ft : DenB} {fe : Env → Sto → Res O} {vs : List Nat} (hg : GSim G g gm vs) {σ : St} {H : Hp} {Q : VK} (q : tMN G W (eCompN fi gm ft fe vs) σ H Q) : tLc (tMI G W fi) g (tMB G W0 ft) (tMN G W0 fe) vs σ H Q := by
  obtain ⟨Z, ρ, st, L, S, q⟩ := q
  refine ⟨Z, ρ, st, L, S, ?_⟩
  have qq : match fi ρ st with
    | .ok items st1 => (match (if items.length ≤ sizeLine then (compNL gm ft fe (wipeE ρ vs) items st1).bind fun ds st => .ok (.rows ds) st else .stuck : Res O) with
      | .ok o st' => ∀ p H' L', FwN G Z L st H L' st' H' p → OOk G (Zof (fun a => Z a ∨ a = p) L' st') H' L' p o → Q (.ref p) H'
      | .exc c fs st' => ExP G Z L st H c fs st' fun cv dd H' => W cv dd σ H'
      | .stuck => False)
    | .exc c fs st' => ExP G Z L st H c fs st' fun cv dd H' => W cv dd σ H'
    | .stuck => False := by
    revert q
    unfold eCompN
    cases fi ρ st <;> exact fun q => q
  clear q
  revert qq
  cases ei : fi ρ st with
  | stuck => exact fun q => q
  | exc c fs st1 => exact fun q => q
  | ok items st1 =>
    intro q J H1 L1 f1 o1 hy p hp
    have q : match (if items.length ≤ sizeLine then (compNL gm ft fe (wipeE ρ vs) items st1).bind fun ds st => .ok (.rows ds) st else .stuck : Res O) with
      | .ok o st' => ∀ p H' L', FwN G Z L st H L' st' H' p → OOk G (Zof (fun a => Z a ∨ a = p) L' st') H' L' p o → Q (.ref p) H'
      | .exc c fs st' => ExP G Z L st H c fs st' fun cv dd H' => W cv dd σ H'
      | .stuck => False := q
    by_cases hz : items.length ≤ sizeLine
    · rw [if_pos hz] at q
      have S1 := S.to f1 o1
      obtain ⟨C, hC0⟩ : ∃ C, compNL gm ft fe (wipeE ρ vs) items st1 = C := ⟨_, rfl⟩
      rw [hC0] at q
      have noExc : ∀ (items : List D) (st : Sto) c fs st', compNL gm ft fe (wipeE ρ vs) items st ≠ .exc c fs st' := by
        intro items
        induction items with
        | nil => intro st c fs st' h; cases h
        | cons d r ih =>
          intro st c fs st' h
          unfold compNL at h
          split at h
          · cases h
          · split at h
            · split at h
              · rename_i d2 st2 _
                cases hr : compNL gm ft fe (wipeE ρ vs) r (st2 ++ [d2]) with
                | ok ds st3 => rw [hr] at h; cases h
                | exc c2 fs2 st3 => exact ih _ _ _ _ hr
                | stuck => rw [hr] at h; cases h
              · cases h
            · exact ih _ _ _ _ h
            · cases h
      cases hC1 : C with
      | stuck => rw [hC1] at q; exact q.elim
      | exc c fs st' => exact absurd (hC0.trans hC1) (noExc _ _ _ _ _)
      | ok all stE =>
      rw [hC1] at q hC0
      have q : ∀ p H' L', FwN G Z L st H L' stE H' p → OOk G (Zof (fun a => Z a ∨ a = p) L' stE) H' L' p (.rows all) → Q (.ref p) H' := q
      refine ⟨fun i m H' => ∃ acc L' st', m = items.length - i ∧ CInvN G Z p L1 st1 H1 items i acc L' st' H' ∧ (compNL gm ft fe (wipeE ρ vs) (items.drop i) st').bind (fun ds st => .ok (acc ++ ds) st) = .ok all stE, ⟨items.length, [], L1, st1, by simp, ⟨Nat.zero_le _, Fw.same (same_new hp), o1.enter hp, ⟨[], upd_same, rfl⟩, Nat.le_refl _⟩, ?_⟩, ?_⟩
      · rw [List.drop_zero, hC0]
        rfl
      · rintro i m H' ⟨acc, L', st', rfl, I, hC⟩
        have hzz : ∀ a, Zp Z p a → Z a ∨ H1 a = none := fun a z => z.elim .inl fun e => .inr (by rw [e]; exact hp)
        obtain ⟨ys, yi⟩ := hy i (Zp Z p) L' st' H' hzz I.fw I.ok
        by_cases hi : i < items.length
        · obtain ⟨d, hd⟩ : ∃ d, items[i]? = some d := ⟨_, List.getElem?_eq_getElem hi⟩
          obtain ⟨go, hyl⟩ := yi d hd
          have hdrop : items.drop i = d :: items.drop (i + 1) := by
            rw [List.drop_eq_getElem_cons hi]
            rw [List.getElem?_eq_getElem hi] at hd
            cases hd
            rfl
          rw [hdrop] at hC
          unfold compNL at hC
          refine .inr ⟨go, fun H2 => ∃ acc L' st', CInvN G Z p L1 st1 H1 items (i + 1) acc L' st' H2 ∧ (compNL gm ft fe (wipeE ρ vs) (items.drop (i + 1)) st').bind (fun ds st => .ok (acc ++ ds) st) = .ok all stE, fun H2 ⟨acc, L', st', I2, h2⟩ => ⟨_, by omega, acc, L', st', rfl, I2, h2⟩, fun x H2 hyx => ?_⟩
          obtain ⟨sm, rx⟩ := hyl x H2 hyx
          have k2 : Keeps (Zof (Zp Z p) L' st') (Zof (Zp Z p) L' st') H' H2 := Same.keeps sm
          have ok2 : StOk G (Zp Z p) L' st' H2 := I.ok.same sm
          have fw2 : Fw Z L1 st1 H1 L' st' H2 := I.fw.trans (Fw.same sm)
          have E2 : EnvOk G (Zof (Zp Z p) L' st') H2 L' (wipeE ρ vs) (wipe σ vs) := by
            have a2 : EnvOk G (Zof (Zp Z p) L' st') H2 L' ρ σ := ⟨S1.env.1, fun i s e => by
              obtain ⟨v, e2, r⟩ := S1.env.2 i s e
              refine ⟨v, e2, ?_⟩
              cases r with
              | p r => exact .p (r.mono (fw2.keepsZ hzz))
              | r e3 => exact .r (I.fw.get e3)
              | x y1 y2 y3 y4 => exact .x y1 y2 (y3.mono (fw2.keepsZ hzz)) (y4.mono (fw2.keepsZ hzz))⟩
            exact a2.wipe vs
          cases eg : gm d (wipeE ρ vs) with
          | none => rw [eg] at hC; cases hC
          | some ρ1 =>
            rw [eg] at hC
            refine hg _ _ _ _ _ _ _ ρ1 _ E2 rx eg fun σ2 E3 w2 => ⟨w2.trans (wipe_wipe σ vs), Zp Z p, ρ1, st', L', ⟨ok2, E3⟩, ?_⟩
            have hC : (match ft ρ1 st' with
              | .ok true st => (match fe ρ1 st with
                | .ok o st => (compNL gm ft fe (wipeE ρ vs) (items.drop (i + 1)) (st ++ [o])).bind fun ns st' => .ok (st.length :: ns) st'
                | _ => .stuck)
              | .ok false st => compNL gm ft fe (wipeE ρ vs) (items.drop (i + 1)) st
              | _ => .stuck : Res (List Nat)).bind (fun ds st => .ok (acc ++ ds) st) = .ok all stE := hC
            cases et : ft ρ1 st' with
            | stuck => rw [et] at hC; cases hC
            | exc c fs st3 => rw [et] at hC; cases hC
            | ok b st3 =>
              rw [et] at hC
              intro b' H3 L3 f3 o3 rb
              have rb : b = b' := rb
              subst rb
              have fw3 : Fw Z L1 st1 H1 L3 st3 H3 := fw2.trans (f3.zone fun a z => .inl z)
              obtain ⟨ws, hw, rw_⟩ := I.at_
              have hw3 : H3 p = some (.lst (ws.map V.ref)) := f3.zk p _ (.inr rfl) (sm _ _ hw)
              have rw3 : RowsAt L3 acc ws := rw_.mono fun _ _ e => f3.get e
              cases b with
              | false =>
                exact ⟨acc, L3, st3, ⟨hi, fw3, o3, ⟨ws, hw3, rw3⟩, Nat.le_succ_of_le I.len⟩, hC⟩
              | true =>
                have SS : Stt G (Zp Z p) ρ1 st3 L3 σ2 H3 := ⟨o3, E3.mono f3⟩
                refine ⟨Zp Z p, ρ1, st3, L3, SS, ?_⟩
                have hC : (match fe ρ1 st3 with
                  | .ok o st => (compNL gm ft fe (wipeE ρ vs) (items.drop (i + 1)) (st ++ [o])).bind fun ns st' => .ok (st.length :: ns) st'
                  | _ => .stuck : Res (List Nat)).bind (fun ds st => .ok (acc ++ ds) st) = .ok all stE := hC
                cases ee : fe ρ1 st3 with
                | stuck => rw [ee] at hC; cases hC
                | exc c fs st4 => rw [ee] at hC; cases hC
                | ok y st4 =>
                  rw [ee] at hC
                  intro v H4 L4 f4 ook
                  obtain ⟨f5, o5, e5⟩ := alloc SS f4 ook
                  have fw4 : Fw Z L1 st1 H1 (L4 ++ [v]) (st4 ++ [y]) H4 := fw3.trans (f5.zone fun a z => .inl z)
                  have hw4 : H4 p = some (.lst (ws.map V.ref)) := f5.zk p _ (.inr rfl) hw3
                  have rw4 : RowsAt (L4 ++ [v]) acc ws := rw3.mono fun _ _ e => f5.get e
                  have hl := rw4.len
                  have hv : (L4 ++ [v])[st4.length]? = some v := by
                    rw [← f4.ok.len, List.getElem?_append_right (Nat.le_refl _)]
                    simp
                  refine ⟨ws.map V.ref, hw4, by rw [List.length_map]; have := I.len; omega, acc ++ [st4.length], L4 ++ [v], st4 ++ [y], ⟨hi, Fw.own hp fw4, o5.own, ⟨ws ++ [v], by rw [List.map_append]; exact upd_same, rw4.app hv⟩, ?_⟩, ?_⟩
                  · rw [List.length_append, List.length_singleton]
                    have := I.len; omega
                  · have hC : ((compNL gm ft fe (wipeE ρ vs) (items.drop (i + 1)) (st4 ++ [y])).bind fun ns st' => .ok (st4.length :: ns) st').bind (fun ds st => .ok (acc ++ ds) st) = .ok all stE := hC
                    rw [← hC]
                    cases compNL gm ft fe (wipeE ρ vs) (items.drop (i + 1)) (st4 ++ [y]) with
                    | ok ds st5 => simp only [Res.bind, List.append_assoc, List.singleton_append]
                    | exc c fs st5 => rfl
                    | stuck => rfl
        · have e : i = items.length := by have := I.le; omega
          subst e
          rw [List.drop_length] at hC
          have hC : Res.ok (acc ++ []) st' = .ok all stE := hC
          rw [List.append_nil] at hC
          cases hC
          refine .inl ⟨ys (Nat.le_refl _), q p H' L' ⟨f1.trans I.fw, I.ok, ?_⟩ I.at_⟩
          cases qh : H p with
          | none => rfl
          | some o => exact absurd hp (f1.there p (by rw [qh]; simp))
    · rw [if_neg hz] at q
      exact q.elim
theorem mn_compN {elt iter : Expr} {ifs : List Expr} {scope : Scope} {own : List (Str × Nat)} {fi : DenL} {gm : GD} {ft : DenB} {fe : Env → Sto → Res O} {g : TG} (hc : X.calm = true) (hN : X.N.Nodup) (hi : MI G W X tg iter fi) (ok : BlkOk X.N X.env.scope scope own) (hsim : GSim G g gm (own.map (·.2)))
    (hg : ∀ (s : Shared) (H : Hp) (C : Addr) (cl : List (Str × Addr)) (fp : List Addr), PG (X.blk s H scope (compEnvC scope cl C X.env) fp) tg g) (ht : ∀ (s : Shared) (H : Hp) (C : Addr) (cl : List (Str × Addr)) (fp : List Addr), MTs G W0 (X.blk s H scope (compEnvC scope cl C X.env) fp) ifs ft)
    (he : ∀ (s : Shared) (H : Hp) (C : Addr) (cl : List (Str × Addr)) (fp : List Addr), MN G W0 (X.blk s H scope (compEnvC scope cl C X.env) fp) elt fe) (hs : ∀ x, foldedSetIterable iter X.env x = pure x := by intro _; rfl) :
    MN G W X (.ListComp elt [⟨tg, iter, ifs, 0⟩] scope pos) (eCompN fi gm ft fe (own.map (·.2))) :=
  PE.imp (pe_lc hc hN hi ok hg ht he hs) fun σ H Q q => compN_core hsim q
theorem ms_newCompN {elt iter : Expr} {ifs : List Expr} {scope : Scope} {own : List (Str × Nat)} {fi : DenL} {gm : GD} {ft : DenB} {fe : Env → Sto → Res O} {g : TG} {y : Str} {py spos : Pos} (i : Nat) (hc : X.calm = true) (hN : X.N.Nodup) (hi : MI G W X tg iter fi) (ok : BlkOk X.N X.env.scope scope own) (hsim : GSim G g gm (own.map (·.2)))
    (hg : ∀ (s : Shared) (H : Hp) (C : Addr) (cl : List (Str × Addr)) (fp : List Addr), PG (X.blk s H scope (compEnvC scope cl C X.env) fp) tg g) (ht : ∀ (s : Shared) (H : Hp) (C : Addr) (cl : List (Str × Addr)) (fp : List Addr), MTs G W0 (X.blk s H scope (compEnvC scope cl C X.env) fp) ifs ft)
    (he : ∀ (s : Shared) (H : Hp) (C : Addr) (cl : List (Str × Addr)) (fp : List Addr), MN G W0 (X.blk s H scope (compEnvC scope cl C X.env) fp) elt fe)
    (hsw : swapsWith (.ListComp elt [⟨tg, iter, ifs, 0⟩] scope pos) (some (.Name y py)) spos.line X.env = pure true) (hy : X.N[i]? = some y := by rfl) (hyl : X.env.scope.names.lookup y = some .local := by rfl) (hs : ∀ x, foldedSetIterable iter X.env x = pure x := by intro _; rfl) :
    MS G W X (.Assign [.Name y py] (.ListComp elt [⟨tg, iter, ifs, 0⟩] scope pos) spos) (sNew i (eCompN fi gm ft fe (own.map (·.2)))) :=
  PS.imp (ps_setLc hc hN hy hyl hsw hi ok hg ht he hs) fun E σ H q => compN_core hsim (newS q)
theorem rowsAt_some {i : Nat} {ρ : Env} {σ : St} {ns : List Nat} (S : Stt G Z ρ st L σ H) (e : rowsAt i ρ st = some ns) : ∃ n a as, ρ[i]? = some (some (.r n)) ∧ σ[i]? = some (some (.ref a)) ∧ L[n]? = some a ∧ st[n]? = some (.rows ns) ∧ H a = some (.lst (as.map V.ref)) ∧ RowsAt L ns as := by
  unfold rowsAt at e
  split at e
  · rename_i m er
    split at e
    · rename_i es eo
      cases e
      obtain ⟨v, ev, r⟩ := S.env.2 i _ er
      cases r with
      | r r =>
        obtain ⟨as, h1, h2⟩ := S.ok.obj _ _ _ r eo
        exact ⟨_, _, as, er, ev, r, eo, h1, h2⟩
    · cases e
  · cases e
theorem rows_atI {L : List Addr} {ns : List Nat} {as : List Addr} (r : RowsAt L ns as) {j : Int} {m : Nat} (h : atI ns j = some m) : ∃ b, atI (as.map V.ref) j = some (.ref b) ∧ L[m]? = some b := by
  unfold atI at h ⊢
  obtain ⟨k, h1, h2⟩ := Option.bind_eq_some_iff.mp h
  rw [List.length_map, r.len, h1]
  have hk : k < as.length := by rw [r.len]; exact (List.getElem?_eq_some_iff.mp h2).1
  obtain ⟨b, hb⟩ : ∃ b, as[k]? = some b := ⟨_, List.getElem?_eq_getElem hk⟩
  refine ⟨b, ?_, r.get h2 hb⟩
  show (as.map V.ref)[k]? = _
  rw [List.getElem?_map, hb]; rfl
theorem lstN_some {m : Nat} {b : Addr} {ds : List D} (S : StOk G Z L st H) (h : L[m]? = some b) (e : lstN m st = some ds) : st[m]? = some (.lst ds) ∧ ∃ vs, H b = some (.lst vs) ∧ Reps G (Zof Z L st) H ds vs := by
  unfold lstN at e
  split at e
  · rename_i es eo
    cases e
    exact ⟨eo, S.obj _ _ _ h eo⟩
  · cases e
theorem rowNo_some {a : D} {o : Option (List Nat)} {m : Nat} (h : rowNo a o = some m) : ∃ j ns, a = .int j ∧ o = some ns ∧ atI ns j = some m := by
  unfold rowNo at h
  split at h
  · split at h
    · exact ⟨_, _, rfl, rfl, h⟩
    · cases h
  · cases h
/-- x[a] in a list of lists: the list itself, for what looks at it at once -/
theorem row_core {i : Nat} {f : Den} {σ : St} {H : Hp} {R : VK} {α β : Type} {RR : Zone → Hp → α → β → Prop} {Z : Zone} {ρ : Env} {st : Sto} {L : List Addr} {k : Nat → Sto → Res α} {ns : List Nat} {Q : β → Hp → Prop} (S : Stt G Z ρ st L σ H) (e0 : rowsAt i ρ st = some ns)
    (q : PostR G Z W RR σ L st H ((f ρ st).bind fun a st => match rowNo a (rowsAt i ρ st) with | none => .stuck | some m => k m st) Q)
    (hk : ∀ m b st1 H1 L1, Fw Z L st H L1 st1 H1 → StOk G Z L1 st1 H1 → L1[m]? = some b → PostR G Z W RR σ L1 st1 H1 (k m st1) Q → R (.ref b) H1) :
    tOp (rIxL X.K) (tVar i) (tM G W f) σ H R := by
  obtain ⟨n, a, as, er, ev, e1, e2, h1, h2⟩ := rowsAt_some S e0
  refine ⟨.ref a, ev, Z, ρ, st, L, S, PostR.bind q fun d st1 y H1 L1 ed f1 o1 r1 q1 => ?_⟩
  cases em : rowNo d (rowsAt i ρ st1) with
  | none => rw [em] at q1; exact q1.elim
  | some m =>
    rw [em] at q1
    obtain ⟨j, ms, rfl, eo, ej⟩ := rowNo_some em
    obtain ⟨n2, a2, as2, er2, ev2, g1, g2, k1, k2⟩ := rowsAt_some (S.to f1 o1) eo
    rw [ev] at ev2
    cases ev2
    obtain ⟨b, hb, hL⟩ := rows_atI k2 ej
    exact ⟨a, _, j, _, rfl, r1.int', .inl (.inl k1), hb, hk m b st1 H1 L1 f1 o1 hL q1⟩
theorem me_ix2 {x : Str} {i : Nat} {ea eb : Expr} {f h : Den} {p p1 pos : Pos} (hv : PE X (.Name x p) (tVar i)) (ha : ME G W X ea f) (hb : ME G W X eb h) (hs1 : PlainIx ea := by intro _ _; rfl) (hs2 : PlainIx eb := by intro _ _; rfl) :
    ME G W X (.Subscript (.Subscript (.Name x p) ea p1) eb pos) (eIx2 i f h) :=
  PE.imp (pe_ix ix_list (pe_ix ix_list hv ha hs1) hb hs2) fun σ H Q q => by
    obtain ⟨Z, ρ, st, L, S, q⟩ := q
    unfold eIx2 at q
    cases e0 : rowsAt i ρ st with
    | none => rw [e0] at q; exact q.elim
    | some ns =>
      rw [e0] at q
      refine row_core (k := fun m st => (h ρ st).bind fun b st => match cellN (lstN m st) b with | some d => .ok d st | none => .stuck) S e0 q fun m b st1 H1 L1 f1 o1 hL q1 => ?_
      refine ⟨Z, ρ, st1, L1, S.to f1 o1, PostR.bind q1 fun d st2 y H2 L2 ed f2 o2 r2 q2 => ?_⟩
      unfold cellN at q2
      split at q2
      · rename_i d' ed'
        split at ed'
        · rename_i ds el
          split at ed'
          · rename_i k
            obtain ⟨_, vs, k1, k2⟩ := lstN_some o2 (f2.get hL) el
            obtain ⟨v, hv, rv⟩ := k2.atI ed'
            exact ⟨b, vs, k, v, rfl, r2.int', .inl (.inl k1), hv, q2 v H2 L2 Fw.refl o2 rv⟩
          · cases ed'
        · cases ed'
      · exact q2.elim
theorem ms_setix2 {x : Str} {i : Nat} {ea eb : Expr} {f h fe : Den} {p p1 spos : Pos} (hv : PE X (.Name x p) (tVar i)) (ha1 : ME G W X ea f) (hb : ME G W X eb h) (he : ME G W X e fe) (hs1 : PlainIx ea := by intro _ _; rfl)
    (hs : swapsWithSole [.Subscript (.Subscript (.Name x p) ea p1) eb spos] e pos.line X.env = pure false := by rfl) (hw : swappedStores [.Subscript (.Subscript (.Name x p) ea p1) eb spos] e X.env = pure none := by rfl)
    (ha : ∀ v, assign (.Subscript (.Subscript (.Name x p) ea p1) eb spos) X.env v = (do
      let ov ← holding [v] (eval (.Subscript (.Name x p) ea p1) X.env)
      let iv ← holding [v, ov] (eval eb X.env)
      standAt spos
      holding [v, ov, iv] (setItem ov iv v)
      release [v, ov, iv] []) := by intro _; rfl)
    (h1 : (assignEach [.Subscript (.Subscript (.Name x p) ea p1) eb spos] X.env).map (·.2) = [assign (.Subscript (.Subscript (.Name x p) ea p1) eb spos) X.env] := by rfl) :
    MS G W X (.Assign [.Subscript (.Subscript (.Name x p) ea p1) eb spos] e pos) (sSetIx2 i f h fe) := PS.imp (ps_asg he (pg_sub (pe_ix ix_list hv ha1 hs1) hb set_list ha) hs hw h1) fun E σ H q => by
  obtain ⟨Z, ρ, st, L, S, q⟩ := q
  refine ⟨Z, ρ, st, L, S, PostR.bindS S q fun d st1 v H1 L1 ed f1 S1 r1 q1 => ?_⟩
  have q1 : PostS G Z W L1 st1 H1 (match rowsAt i ρ st1 with
    | none => .stuck
    | some _ => sOf f (fun a ρ st => match rowNo a (rowsAt i ρ st) with
      | none => .stuck
      | some m => sOf h (fun b ρ st => setRow m b d ρ st) ρ st) ρ st1) E := q1
  cases e0 : rowsAt i ρ st1 with
  | none => rw [e0] at q1; exact q1.elim
  | some ns =>
    rw [e0] at q1
    obtain ⟨n, a, as, er, ev, g1, g2, k1, k2⟩ := rowsAt_some S1 e0
    refine ⟨.ref a, ev, Z, ρ, st1, L1, S1, PostR.bindS S1 q1 fun ja st2 y H2 L2 ej f2 S2 r2 q2 => ?_⟩
    have p2 : PostS G Z W L2 st2 H2 (match rowNo ja (rowsAt i ρ st2) with
      | none => .stuck
      | some m => sOf h (fun b ρ st => setRow m b d ρ st) ρ st2) E := q2
    cases em : rowNo ja (rowsAt i ρ st2) with
    | none => rw [em] at p2; exact p2.elim
    | some m =>
      rw [em] at p2
      clear q2
      obtain ⟨j, ms, rfl, eo, ej'⟩ := rowNo_some em
      obtain ⟨n2, a2, as2, er2, ev2, l1, l2, m1, m2⟩ := rowsAt_some S2 eo
      rw [ev] at ev2
      cases ev2
      obtain ⟨b, hb', hL⟩ := rows_atI m2 ej'
      refine ⟨a, _, j, _, rfl, r2.int', .inl (.inl m1), hb', Z, ρ, st2, L2, S2, PostR.bindS S2 p2 fun jb st3 z H3 L3 ejb f3 S3 r3 q3' => ?_⟩
      have q3 : PostS G Z W L3 st3 H3 (setRow m jb d ρ st3) E := q3'
      clear q3'
      unfold setRow at q3
      split at q3
      · rename_i ds el
        obtain ⟨u1, vs, u2, u3⟩ := lstN_some S3.ok (f3.get hL) el
        split at q3
        · rename_i w
          split at q3
          · rename_i t et
            refine ⟨b, vs, w, t, rfl, r3.int', u2, by rw [← u3.length]; exact et, ?_⟩
            have rd := (r1.mono f2.keeps).mono f3.keeps
            have g1' := f3.get hL
            have fws : Keeps (Zof Z L3 st3) (Zof Z L3 (st3.set m (.lst (ds.set t d)))) H3 (upd H3 b (.lst (vs.set t v))) := fun c u e z => by
              have la : Live L3 st3 b := ⟨m, _, g1', u1, rfl⟩
              have ne : c ≠ b := fun q => z (.inr (q ▸ la))
              refine ⟨.of (by rw [upd_ne ne]; exact e), fun q => ?_⟩
              rcases q with q | ⟨j, u2, j1, j2, j3⟩
              · exact z (.inl q)
              · rcases getElem?_set_cases j2 with ⟨rfl, rfl, _⟩ | ⟨_, h⟩
                · rw [g1'] at j1; exact ne (Option.some.inj j1).symm
                · exact z (.inr ⟨j, u2, j1, h, j3⟩)
            obtain ⟨fw, ok⟩ := wr (o' := .lst (ds.set t d)) (ho := .lst (vs.set t v)) S3.ok g1' u1 rfl ⟨_, upd_same, Reps.set (rd.mono fws) t (u3.mono fws)⟩ rfl
            exact q3 σ _ L3 fw (S3.to fw ok)
          · exact q3.elim
        · exact q3.elim
      · exact q3.elim
theorem frzAll_ok : ∀ {ns : List Nat} {st : Sto}, StOk G Z L st H → StOk G Z L (frzAll ns st) H ∧ Fw Z L st H L (frzAll ns st) H
  | [], st, S => ⟨S, Fw.refl⟩
  | m :: ns, st, S => by
    unfold frzAll
    cases e : (st[m]?).bind thaw with
    | none => exact frzAll_ok S
    | some d =>
      obtain ⟨o, eo, et⟩ := Option.bind_eq_some_iff.mp e
      have f : Fw Z L st H L (st.set m (.frz d)) H := Fw.setN S eo fun z => nomatch z
      obtain ⟨h1, h2⟩ := frzAll_ok (ns := ns) (S.freeze eo et)
      exact ⟨h1, f.trans h2⟩
theorem frozen_ok (S : StOk G Z L st H) : ∀ {ns : List Nat} {as : List Addr} {ds : List D}, RowsAt L ns as → frozen st ns = some ds → Reps G (Zof Z L st) H ds (as.map V.ref)
  | [], [], ds, _, h => by cases h; exact .nil
  | [], _ :: _, _, r, _ => nomatch r
  | _ :: _, [], _, r, _ => nomatch r
  | n :: ns, a :: as, ds, r, h => by
    have r : some a :: as.map some = L[n]? :: ns.map fun n => L[n]? := r
    obtain ⟨r1, r2⟩ := List.cons.inj r
    unfold frozen at h
    split at h
    · rename_i d ed
      obtain ⟨es, h1, rfl⟩ := Option.map_eq_some_iff.mp h
      exact .cons (S.obj n a _ r1.symm ed) (frozen_ok S (show RowsAt L ns as from r2) h1)
    · cases h
theorem me_varR (i : Nat) {x : Str} {pos : Pos} (h : PE X (.Name x pos) (tVar i)) : ME G W X (.Name x pos) (eVarR i) :=
  PE.imp h fun σ H Q q => by
    obtain ⟨Z, ρ, st, L, S, q⟩ := q
    unfold eVarR at q
    cases e0 : rowsAt i ρ st with
    | none => rw [e0] at q; split at q <;> exact q.elim
    | some ns =>
      rw [e0] at q
      obtain ⟨n, a, as, er, ev, g1, g2, k1, k2⟩ := rowsAt_some S e0
      rw [er] at q
      obtain ⟨o1, f1⟩ := frzAll_ok (ns := ns) S.ok
      have S1 := S.to f1 o1
      cases e1 : rowsAt i ρ (frzAll ns st) with
      | none => simp only [e1] at q; exact q.elim
      | some ms =>
        simp only [e1] at q
        obtain ⟨n2, a2, as2, er2, ev2, l1, l2, m1, m2⟩ := rowsAt_some S1 e1
        rw [er] at er2; cases er2
        rw [ev] at ev2; cases ev2
        cases e2 : frozen (frzAll ns st) ms with
        | none => simp only [e2] at q; exact q.elim
        | some ds =>
          simp only [e2] at q
          have f2 : Fw Z L (frzAll ns st) H L ((frzAll ns st).set n (.frz (.lst ds))) H := Fw.setN o1 l2 fun z => nomatch z
          have hl : n < (frzAll ns st).length := (List.getElem?_eq_some_iff.mp l2).1
          have rr := (frozen_ok o1 m2 e2).mono f2.keeps
          have za : ¬ Zof Z L ((frzAll ns st).set n (.frz (.lst ds))) a := fun z => by
            rcases z with z | ⟨j, u, j1, j2, j3⟩
            · exact o1.zl a (List.mem_of_getElem? l1) z
            · have := nodup_at o1.nd j1 l1
              subst this
              rw [List.getElem?_set_self hl] at j2
              cases j2
              cases j3
          have rep : Rep G (Zof Z L ((frzAll ns st).set n (.frz (.lst ds)))) H (.lst ds) (.ref a) := .lst (.inl m1) za rr
          have o2 : StOk G Z L ((frzAll ns st).set n (.frz (.lst ds))) H := by
            refine ⟨by simpa using o1.len, o1.nd, fun m b o' e1 e2 => ?_, o1.z0, o1.zl, o1.lh, o1.tb.mono fun b o q z => ⟨q, (f2.keeps b o q z).2⟩⟩
            rcases getElem?_set_cases e2 with ⟨rfl, rfl, _⟩ | ⟨_, h⟩
            · rw [l1] at e1; cases e1
              exact rep
            · exact (o1.obj m b o' e1 h).mono f2 rfl
          exact ⟨_, ev, q _ H L (f1.trans f2) o2 rep⟩
end
end M
namespace M
open PySem PySem.Spec L2
/-! ### list(range(n)) ; the rest of a body that is never come to -/
noncomputable def rgB (lo n : Int) : Bool := @decide (0 ≤ lo ∧ lo ≤ 16777216 ∧ 0 ≤ n ∧ n ≤ 16777216) (Classical.propDecidable _)
theorem rgB_ok {lo n : Int} (h : rgB lo n = true) : RgOk lo n := by
  unfold rgB at h
  have h := @of_decide_eq_true _ (Classical.propDecidable _) h
  exact RgOk.of_le h.1 h.2.2.2 h.2.1 h.2.2.1
theorem rgB_of {lo n : Int} (h0 : 0 ≤ lo) (h1 : lo ≤ 16777216) (h2 : 0 ≤ n) (h3 : n ≤ 16777216) : rgB lo n = true := by
  unfold rgB
  exact @decide_eq_true _ (Classical.propDecidable _) ⟨h0, h1, h2, h3⟩
noncomputable def rgO (d : D) : Option O := match d with | .int n => if rgB 0 n = true then some (.lst (rngL 0 n.toNat)) else none | _ => none
@[simp] noncomputable def nRg1 (f : Den) : Env → Sto → Res O := fun ρ st => (f ρ st).bind fun d st => match rgO d with | some o => .ok o st | none => .stuck
theorem rngL_map : ∀ (n : Nat) (lo : Int), rngL lo n = (List.range n).map fun i => D.int (lo + (i : Nat)) := fun n lo => by
  apply List.ext_getElem?
  intro i
  by_cases hi : i < n
  · rw [rngL_get n lo i hi, List.getElem?_map, List.getElem?_range hi]; rfl
  · rw [List.getElem?_eq_none (by rw [rngL_len]; omega), List.getElem?_eq_none (by rw [List.length_map, List.length_range]; omega)]
theorem reps_maps {G : Wd} {Z : Zone} {H : Hp} (lo : Int) : ∀ l : List Nat, Reps G Z H (l.map fun i => D.int (lo + (i : Nat))) (l.map fun i => V.int (lo + (i : Nat)))
  | [] => .nil
  | _ :: l => .cons (.int _) (reps_maps lo l)
theorem reps_rg {G : Wd} {Z : Zone} {H : Hp} (lo n : Int) : Reps G Z H (rngL lo (n - lo).toNat) (rgV lo n) := by
  rw [rngL_map]
  exact reps_maps lo _
section
variable {G : Wd} {W : WX} {X : Cx} {e : Expr} {p pos p2 pos2 : Pos} {f : Den}
theorem mn_listRg (hc : X.calm = true) (hm : X.mg "list" = none) (hm2 : X.mg "range" = none) (ha : ME G W X e f) (hg : Gl X "list" := by rfl) (hg2 : Gl X "range" := by rfl) (na2 : starEach [e] X.env = (false, eval e X.env) :: starEach [] X.env := by rfl) (na : starEach [.Call (.Name "range" p2) [e] [] pos2] X.env = (false, eval (.Call (.Name "range" p2) [e] [] pos2) X.env) :: starEach [] X.env := by rfl) :
    MN G W X (.Call (.Name "list" p) [.Call (.Name "range" p2) [e] [] pos2] [] pos) (nRg1 f) :=
  PE.imp (pe_listRg hc hg hm (prg_1 hg2 hm2 ha na2) na) fun σ H Q q => by
    obtain ⟨Z, ρ, st, L, S, q⟩ := q
    refine ⟨Z, ρ, st, L, S, ?_⟩
    unfold nRg1 at q
    revert q
    cases f ρ st with
    | stuck => exact fun q => q
    | exc c fs s => exact fun q => q
    | ok d st1 =>
      intro q x H1 L1 f1 o1 r1
      have q : match (match rgO d with | some o => .ok o st1 | none => .stuck : Res O) with
        | .ok o st' => ∀ p H' L', FwN G Z L st H L' st' H' p → OOk G (Zof (fun a => Z a ∨ a = p) L' st') H' L' p o → Q (.ref p) H'
        | .exc c fs st' => ExP G Z L st H c fs st' fun cv dd H' => W cv dd σ H'
        | .stuck => False := q
      unfold rgO at q
      cases d with
      | int n =>
        by_cases hb : rgB 0 n = true
        · simp only [if_pos hb] at q
          refine ⟨n, r1.int', rgB_ok hb, fun p hp => q p _ L1 (FwN.mk_new f1 o1 hp) ⟨_, upd_same, ?_⟩⟩
          have h := reps_rg (G := G) (Z := Zof (fun a => Z a ∨ a = p) L1 st1) (H := upd H1 p (.lst (rgV 0 n))) 0 n
          rw [Int.sub_zero] at h
          exact h
        · simp only [if_neg hb] at q
      | _ => exact q.elim
theorem mss_never {l : List Stmt} : MSs G W X l sNever := PSs.imp pss_never fun E σ H q => by
  obtain ⟨Z, ρ, st, L, S, q⟩ := q
  exact q
end
end M
namespace M
open PySem PySem.Spec L2
/-! ### plain facts for the plain parts of laws -/
theorem insI_rises (x : Int) : ∀ l, l.Pairwise (· ≤ ·) → (insI x l).Pairwise (· ≤ ·)
  | [], _ => by simp [insI]
  | y :: l, h => by
    unfold insI
    rw [List.pairwise_cons] at h
    split
    · rename_i hxy
      rw [List.pairwise_cons, List.pairwise_cons]
      refine ⟨fun z hz => ?_, h⟩
      rcases List.mem_cons.mp hz with rfl | hz
      · exact hxy
      · exact Int.le_trans hxy (h.1 z hz)
    · rename_i hxy
      rw [List.pairwise_cons]
      refine ⟨fun z hz => ?_, insI_rises x l h.2⟩
      rcases List.mem_cons.mp ((insI_perm x l).mem_iff.mp hz) with rfl | hz
      · omega
      · exact h.1 z hz
theorem sortI_rises : ∀ l, (sortI l).Pairwise (· ≤ ·)
  | [] => .nil
  | x :: l => insI_rises x _ (sortI_rises l)
theorem strict_of {l : List Int} (h : l.Pairwise (· ≤ ·)) (n : l.Nodup) : l.Pairwise (· < ·) := by
  have := List.pairwise_and_iff.mpr ⟨h, n⟩
  exact this.imp fun {a b} h => by have := h.1; have := h.2; omega
@[simp] theorem flats_ints (l : List Int) {n} : D.flats n (l.map .int) = true := by
  induction l with
  | nil => simp
  | cons x l ih => simp [ih]
theorem pysIn_ints (p : Int) (l : List Int) : pysIn (.int p) (l.map .int) = decide (p ∈ l) := by
  unfold pysIn
  rw [List.any_map]
  induction l with
  | nil => simp
  | cons x l ih =>
    simp only [List.any_cons, ih, Function.comp_apply, eqv_int, List.mem_cons]
    by_cases h : x = p
    · simp [h]
    · have : ¬ p = x := fun e => h e.symm
      simp [h, this]
theorem bigR_of {i : Int} (h0 : -1000000000 ≤ i) (h1 : i ≤ 1000000000) : bigR i = true := by
  unfold bigR; rw [Bool.and_eq_true, decide_eq_true_eq, decide_eq_true_eq]; omega
theorem small_of {i : Int} (h0 : -1000000000 ≤ i) (h1 : i ≤ 1000000000) : small i = true := small_iff.mpr (by omega)
theorem map_ints {α : Type} (g : α → Int) (l : List α) : (l.map fun x => D.int (g x)) = (l.map g).map D.int := by rw [List.map_map]; rfl
theorem all_true (l : List Bool) (h : ∀ b ∈ l, b = true) : l.all id = true := by simpa using h
theorem env_set {ρ base : Env} {v : Nat} (h : ρ.set v none = base.set v none) (hv : v < base.length) : ∃ x, ρ = base.set v x := by
  have hl : ρ.length = base.length := by simpa using congrArg List.length h
  refine ⟨ρ[v], List.ext_getElem? fun i => ?_⟩
  by_cases hi : i = v
  · subst hi
    rw [List.getElem?_set_self hv, List.getElem?_eq_getElem]
  · have := congrArg (fun l : List (Option S) => l[i]?) h
    simp only [List.getElem?_set_ne (Ne.symm hi)] at this
    rw [this, List.getElem?_set_ne (Ne.symm hi)]
theorem cutD_tail (xs : List D) : cutD xs (some 1) none = xs.tail := by
  rw [← List.drop_one]
  unfold cutD
  cases xs with
  | nil => simp
  | cons x xs =>
    have h1 : HT.sIx (x :: xs).length 0 (some 1) = 1 := by
      unfold HT.sIx
      simp
      try omega
    have h2 : HT.sIx (x :: xs).length (x :: xs).length none = (x :: xs).length := by unfold HT.sIx; rfl
    rw [h1, h2]
    apply List.take_of_length_le
    simp
theorem zipL_ints : ∀ a b : List Int, zipL (a.map .int) (b.map .int) = (a.zip b).map fun p => D.tup [.int p.1, .int p.2]
  | [], _ => by simp [zipL]
  | _ :: _, [] => by simp [zipL]
  | x :: a, y :: b => by simp [zipL, zipL_ints a b]
theorem zip_tail_lt : ∀ {l : List Int}, l.Pairwise (· < ·) → ∀ p ∈ l.zip (l.drop 1), p.1 < p.2
  | [], _, p, hp => by simp at hp
  | [_], _, p, hp => by simp at hp
  | x :: y :: l, h, p, hp => by
    rw [List.pairwise_cons] at h
    simp only [List.drop_succ_cons, List.drop_zero, List.zip_cons_cons, List.mem_cons] at hp
    rcases hp with rfl | hp
    · exact h.1 y List.mem_cons_self
    · exact zip_tail_lt (l := y :: l) h.2 p (by simpa using hp)
theorem dAll_true {α : Type} (l : List α) : dAll (.lst (l.map fun _ => D.bl true)) = some (.bl true) := by
  unfold dAll
  simp only
  rw [dBools_map2 (fun _ => true)]
  simp
theorem dAll_bl {α : Type} (f : α → Bool) (l : List α) : dAll (.lst (l.map fun x => D.bl (f x))) = some (.bl (l.all f)) := by
  unfold dAll
  simp only
  rw [dBools_map2]
  simp [List.all_map]
theorem at_end (o : O) (rest : Sto) (x : O) : (o :: (rest ++ [x]))[rest.length + 1]? = some x := by simp
theorem set_end (o : O) (rest : Sto) (x y : O) : (o :: (rest ++ [x])).set (rest.length + 1) y = o :: (rest ++ [y]) := by simp
theorem set_end2 (rest : Sto) (x y : O) : (rest ++ [x]).set rest.length y = rest ++ [y] := by simp
theorem sSeq_next {f g : SDen} {ρ ρ' : Env} {st st' : Sto} (h : f ρ st = .next ρ' st') : sSeq f g ρ st = g ρ' st' := by
  unfold sSeq; rw [h]
/-- a for loop that breaks at the first thing that a test finds -/
theorem forL_brk {α : Type} {v : Nat} {fb : SDen} {base ρ2 : Env} {st st2 : Sto} (enc : α → D) (x : α) (post : List α) (hx : fb (base.set v (some (.p (enc x)))) st = .brk ρ2 st2) : ∀ (pre : List α), (∀ y ∈ pre, fb (base.set v (some (.p (enc y)))) st = .next (base.set v (some (.p (enc y)))) st) →
    ∀ ρ : Env, ρ.set v none = base.set v none → forL (gN v) fb ((pre ++ x :: post).map enc) ρ st = .next ρ2 st2
  | [], _, ρ, h => by
    have e : ρ.set v (some (.p (enc x))) = base.set v (some (.p (enc x))) := by
      have := congrArg (fun l : Env => l.set v (some (.p (enc x)))) h
      simpa [List.set_set] using this
    rw [List.nil_append, List.map_cons]
    unfold forL
    simp only [gN, e, hx]
  | y :: pre, hs, ρ, h => by
    have e : ρ.set v (some (.p (enc y))) = base.set v (some (.p (enc y))) := by
      have := congrArg (fun l : Env => l.set v (some (.p (enc y)))) h
      simpa [List.set_set] using this
    rw [List.cons_append, List.map_cons]
    unfold forL
    simp only [gN, e, hs y List.mem_cons_self]
    exact forL_brk enc x post hx pre (fun z hz => hs z (List.mem_cons_of_mem _ hz)) _ (by simp [List.set_set])
theorem range_split {a b : Nat} (h : a < b) : ∃ post, List.range b = List.range a ++ a :: post := by
  obtain ⟨k, rfl⟩ : ∃ k, b = a + (k + 1) := ⟨b - a - 1, by omega⟩
  refine ⟨(List.range k).map fun i => a + (i + 1), ?_⟩
  rw [List.range_add, List.range_succ_eq_map, List.map_cons, List.map_map]
  rfl
theorem dFn_ret {ar n : Nat} {fb : SDen} {ss : List S} {d : D} {st' : Sto} (h : ss.length = ar) (e : fb (ss.map some ++ List.replicate (n - ar) none) [] = .ret d st') : dFn ar n fb ss [] = .ok d [] := by
  unfold dFn
  rw [if_pos h, e]
  simp [cutOff]
theorem dFn_exc {ar n : Nat} {fb : SDen} {ss : List S} {c : PySem.Str} {fs : List (PySem.Str × D)} {ρ' : Env} {st' : Sto} (h : ss.length = ar) (e : fb (ss.map some ++ List.replicate (n - ar) none) [] = .exc c fs ρ' st') : dFn ar n fb ss [] = .exc c fs [] := by
  unfold dFn
  rw [if_pos h, e]
  simp [cutOff]
theorem forL_cons {g : GD} {fb : SDen} {d : D} {ds : List D} {ρ ρ1 ρ2 : Env} {st st2 : Sto} (h1 : g d ρ = some ρ1) (h2 : fb ρ1 st = .next ρ2 st2) : forL g fb (d :: ds) ρ st = forL g fb ds ρ2 st2 := by
  rw [forL]; simp only [h1, h2]
theorem forL_ret {g : GD} {fb : SDen} {d z : D} {ds : List D} {ρ ρ1 : Env} {st st2 : Sto} (h1 : g d ρ = some ρ1) (h2 : fb ρ1 st = .ret z st2) : forL g fb (d :: ds) ρ st = .ret z st2 := by
  rw [forL]; simp only [h1, h2]
theorem sSeq_ret {f g : SDen} {ρ : Env} {st st' : Sto} {d : D} (h : f ρ st = .ret d st') : sSeq f g ρ st = .ret d st' := by
  unfold sSeq; rw [h]
theorem sSeq_exc {f g : SDen} {ρ ρ' : Env} {st st' : Sto} {c : PySem.Str} {fs : List (PySem.Str × D)} (h : f ρ st = .exc c fs ρ' st') : sSeq f g ρ st = .exc c fs ρ' st' := by
  unfold sSeq; rw [h]
theorem szs : 1 ≤ sizeLine ∧ 2 ≤ sizeLine ∧ 3 ≤ sizeLine ∧ 4 ≤ sizeLine ∧ 5 ≤ sizeLine ∧ 6 ≤ sizeLine ∧ 7 ≤ sizeLine ∧ 8 ≤ sizeLine ∧ 9 ≤ sizeLine ∧ 10 ≤ sizeLine ∧ 11 ≤ sizeLine ∧ 12 ≤ sizeLine ∧ 13 ≤ sizeLine ∧ 14 ≤ sizeLine ∧ 15 ≤ sizeLine ∧ 16 ≤ sizeLine ∧ 17 ≤ sizeLine ∧ 18 ≤ sizeLine ∧ 19 ≤ sizeLine ∧ 20 ≤ sizeLine ∧ 21 ≤ sizeLine ∧ 22 ≤ sizeLine ∧ 23 ≤ sizeLine ∧ 24 ≤ sizeLine ∧ 25 ≤ sizeLine ∧ 26 ≤ sizeLine ∧ 27 ≤ sizeLine ∧ 28 ≤ sizeLine ∧ 29 ≤ sizeLine ∧ 30 ≤ sizeLine := by rw [sizeLine_eq]; decide
/-- data whose repr fits -/
structure Rp (n : Nat) (d : D) (w : Nat) : Prop where
  flat : D.flat n d = true
  show_ : d.py.showable = true
  short : d.py.leavesShort 1000 = true
  wt : d.py.weight ≤ w
structure Rps (n : Nat) (ds : List D) (w : Nat) : Prop where
  flat : D.flats n ds = true
  show_ : PyData.showableAll (D.pys ds) = true
  short : PyData.leavesShortAll 1000 (D.pys ds) = true
  wt : PyData.weightAll (D.pys ds) ≤ w
theorem Rps.nil {n : Nat} : Rps n [] 0 := ⟨by simp, rfl, rfl, Nat.le_refl _⟩
theorem Rps.cons {n : Nat} {d : D} {ds : List D} {a b : Nat} (h : Rp n d a) (t : Rps n ds b) : Rps n (d :: ds) (a + 1 + b) := by
  refine ⟨by simp [h.flat, t.flat], ?_, ?_, ?_⟩
  · unfold D.pys; simp [PyData.showableAll, h.show_, t.show_]
  · unfold D.pys; simp [PyData.leavesShortAll, h.short, t.short]
  · unfold D.pys
    have h1 := h.wt
    have h2 := t.wt
    simp only [PyData.weightAll]
    omega
theorem Rps.lst {n : Nat} {ds : List D} {w : Nat} (h : Rps n ds w) : Rp (n + 1) (.lst ds) w :=
  ⟨by rw [flat_lst]; exact h.flat, by unfold D.py; simp only [PyData.showable]; exact h.show_, by unfold D.py; simp only [PyData.leavesShort]; exact h.short, by unfold D.py; simp only [PyData.weight]; exact h.wt⟩
theorem Rps.tup {n : Nat} {ds : List D} {w : Nat} (h : Rps n ds w) : Rp (n + 1) (.tup ds) w :=
  ⟨by rw [flat_tup]; exact h.flat, by unfold D.py; simp only [PyData.showable]; exact h.show_, by unfold D.py; simp only [PyData.leavesShort]; exact h.short, by unfold D.py; simp only [PyData.weight]; exact h.wt⟩
theorem Rps.of {n w : Nat} : ∀ {ds : List D}, (∀ d ∈ ds, Rp n d w) → Rps n ds (ds.length * (w + 1))
  | [], _ => by simpa using Rps.nil
  | d :: ds, h => by
    have := Rps.cons (h d List.mem_cons_self) (Rps.of fun x hx => h x (List.mem_cons_of_mem _ hx))
    rw [List.length_cons, Nat.succ_mul, Nat.add_comm]
    exact this
theorem dRepr_of {d : D} {w : Nat} (h : Rp 60 d w) (hw : w ≤ 10000) : dRepr d = some (.str d.py.shown) := by
  have h1 := PyData.shown_le 1000 (by omega) d.py h.short
  have h2 := h.wt
  have h3 : (1000 + 2) * d.py.weight ≤ 1002 * 10000 := Nat.mul_le_mul (by omega) (by omega)
  unfold dRepr
  rw [if_pos ⟨by rw [h.flat, h.show_]; rfl, by rw [sizeLine_eq]; omega⟩]
theorem end_get (st : Sto) (x : O) : (st ++ [x])[st.length]? = some x := by simp
theorem end_set (st : Sto) (x y : O) : (st ++ [x]).set st.length y = st ++ [y] := by simp
theorem eqvs_nil (xs : List D) : D.eqvs xs [] = xs.isEmpty := by cases xs <;> simp
theorem gset {ρ : Env} {i j : Nat} {x : Option S} (h : j ≠ i) : (ρ.set j x)[i]? = ρ[i]? := List.getElem?_set_ne h
theorem gself {ρ : Env} {i : Nat} {x : Option S} (h : i < ρ.length) : (ρ.set i x)[i]? = some x := List.getElem?_set_self h
/-- environments that agree but at some slots -/
def Agr (vs : List Nat) (ρ ρ' : Env) : Prop := ρ'.length = ρ.length ∧ ∀ i, i ∉ vs → ρ'[i]? = ρ[i]?
theorem Agr.refl {vs : List Nat} {ρ : Env} : Agr vs ρ ρ := ⟨rfl, fun _ _ => rfl⟩
theorem Agr.set {vs : List Nat} {ρ ρ' : Env} {j : Nat} {x : Option S} (h : Agr vs ρ ρ') (hj : j ∈ vs) : Agr vs ρ (ρ'.set j x) :=
  ⟨by simp [h.1], fun i hi => by rw [List.getElem?_set_ne (by rintro rfl; exact hi hj)]; exact h.2 i hi⟩
theorem Agr.trans {vs : List Nat} {ρ ρ1 ρ2 : Env} (a : Agr vs ρ ρ1) (b : Agr vs ρ1 ρ2) : Agr vs ρ ρ2 := ⟨b.1.trans a.1, fun i hi => (b.2 i hi).trans (a.2 i hi)⟩
theorem Agr.mono {vs ws : List Nat} {ρ ρ' : Env} (a : Agr vs ρ ρ') (h : ∀ i ∈ vs, i ∈ ws) : Agr ws ρ ρ' := ⟨a.1, fun i hi => a.2 i fun q => hi (h i q)⟩
abbrev At (ρ : M.Env) (i : Nat) (d : D) : Prop := ρ[i]? = some (some (.p d))
theorem cutD_take (xs : List D) (m : Nat) (h : m ≤ xs.length) : cutD xs none (some (m : Int)) = xs.take m := by
  unfold cutD
  have h1 : HT.sIx xs.length 0 none = 0 := by unfold HT.sIx; rfl
  have h2 : HT.sIx xs.length xs.length (some (m : Int)) = m := by
    rw [HT.sIx_nat]
    omega
  rw [h1, h2]
  simp
theorem sFor_range {n : Nat} {g : GD} {fb : SDen} {ρ : Env} {st : Sto} {r : SRes} (hn : n ≤ 1000000) (e : forL g fb ((List.range n).map fun i : Nat => D.int (i : Nat)) ρ st = r) : sFor (iRange1 (eC (.int (n : Nat)))) g fb ρ st = r := by
  have hb : bigR (n : Int) = true := bigR_of (by omega) (by omega)
  have h2 : ((n : Int) - 0).toNat = n := by omega
  simp only [sFor, sOf, iRange1, eC, Res.bind, hb, if_true]
  rw [← e, ← rngL0]
  try simp
theorem atI_nat {α : Type} (l : List α) (i : Nat) (h : i < l.length) : atI l (i : Int) = some l[i] := by
  unfold atI ixN
  rw [if_pos (by omega), if_pos (by omega)]
  simp [h]
theorem plainE_at {ρ : M.Env} {i : Nat} {d : D} {l : M.Env} (h : At ρ i d) : (plainE ρ ++ l)[i]? = some (some (.p d)) := by
  have hi : i < ρ.length := (List.getElem?_eq_some_iff.mp h).1
  rw [List.getElem?_append_left (by unfold plainE; rw [List.length_map]; exact hi)]
  unfold plainE
  rw [List.getElem?_map, h]
  rfl
theorem rp_of {n w : Nat} {d : D} (h : (D.flat n d && d.py.showable && d.py.leavesShort 1000 && decide (d.py.weight ≤ w)) = true) : Rp n d w := by
  simp only [Bool.and_eq_true, decide_eq_true_eq] at h
  obtain ⟨⟨⟨h1, h2⟩, h3⟩, h4⟩ := h
  exact ⟨h1, h2, h3, h4⟩
/-- stores whose things point at nothing -/
def flatO : O → Bool | .ins _ _ => false | .rows _ => false | _ => true
def Flat (st : Sto) : Prop := ∀ o ∈ st, flatO o = true
theorem Flat.all {st : Sto} {k : Nat} (h : Flat st) : st.all (O.refsBelow k) = true := by
  rw [List.all_eq_true]
  intro o ho
  have := h o ho
  cases o with
  | ins c fs => cases this
  | rows ns => cases this
  | _ => rfl
theorem Flat.app {st : Sto} {o : O} (h : Flat st) (ho : flatO o = true) : Flat (st ++ [o]) := fun x hx => by
  rcases List.mem_append.mp hx with hx | hx
  · exact h x hx
  · rw [List.mem_singleton.mp hx]; exact ho
def RowOk (ns : List Int) (row : List D) : Prop := ∃ i r c : Int, row = [.scr ns, .int i, .int r, .int c] ∧ 0 ≤ i ∧ 0 ≤ r ∧ r < 2147483647 ∧ 0 ≤ c
theorem atI_4 {α : Type} (a b c d : α) : atI [a, b, c, d] 0 = some a ∧ atI [a, b, c, d] 1 = some b ∧ atI [a, b, c, d] 2 = some c ∧ atI [a, b, c, d] 3 = some d := ⟨rfl, rfl, rfl, rfl⟩
/-- what is no tuple -/
inductive NoTup : D → Prop
  | non : NoTup .non | bl b : NoTup (.bl b) | int i : NoTup (.int i) | str x : NoTup (.str x) | lst l : NoTup (.lst l) | dic l : NoTup (.dic l)
end M
namespace Law
open PySem PySem.Spec L2 M
def topS (i : Nat) : Stmt := PySem.Challenge.pw_craterounds_k16_whole_times_of_carrying.main.body.getD i (.Pass ⟨0, 0, 0, 0⟩)
def inS (i j : Nat) : Stmt := (C8.clsBody (topS i)).getD j (.Pass ⟨0, 0, 0, 0⟩)
def t_NothingDone : List (Str × Bool) := [("BadTimes", false)]
def t_BadClaim : List (Str × Bool) := [("BadTimes", false)]
def t_NotAgreed : List (Str × Bool) := [("BadTimes", false)]
def t_NotPossible : List (Str × Bool) := [("BadTimes", false)]
def t_BadLine : List (Str × Bool) := [("BadTimes", false)]
def t_BadText : List (Str × Bool) := [("BadTimes", false)]
def t_BadSigns : List (Str × Bool) := [("BadTimes", false)]
def t_BadSuspects : List (Str × Bool) := [("BadTimes", false)]
def t_BadMoves : List (Str × Bool) := [("BadTimes", false)]
def t_BadCounts : List (Str × Bool) := [("BadTimes", false)]
def t_BadRows : List (Str × Bool) := [("BadTimes", false)]
def t_BadNeeds : List (Str × Bool) := [("BadTimes", false)]
def t_BadTimes : List (Str × Bool) := [("BadTimes", true)]
def t_BadCourse : List (Str × Bool) := [("BadTimes", false)]
def t_TooMany : List (Str × Bool) := [("BadTimes", false)]
def t_UnknownHouse : List (Str × Bool) := [("BadTimes", false)]
def t_UnknownKind : List (Str × Bool) := [("BadTimes", false)]
def t_BadOrder : List (Str × Bool) := [("BadTimes", false)]
def t_BadNumber : List (Str × Bool) := [("BadTimes", false)]
def t_BadPlan : List (Str × Bool) := [("BadTimes", false)]
def t_ValueError : List (Str × Bool) := [("BadTimes", true)]
noncomputable def dn__law_least_s1 : SDen := (sPar [2, 3] (aNew (eCompN (iSeq (eVar 0)) (gN 6) eYes (nOf lstO (eVar 6)) [6]) (aVal (eOp1 dLen (eVar 0)) aNil)))
noncomputable def dn__law_least_e1 : Den := (eOp2 dAdd (eIx2 2 (eVar 4) (eVar 7)) (eIx2 2 (eVar 7) (eVar 5)))
noncomputable def dn__law_least_s2 : SDen := (sSetIx2 2 (eVar 4) (eVar 5) (eOp1 dMin (eOp2 dAdd (eLst (eCons (eIx2 2 (eVar 4) (eVar 5)) eNil)) (ePure (eComp (iRange1 (eVar 3)) (gN 7) eYes dn__law_least_e1 [7])))))
noncomputable def dn__law_least_s3 : SDen := (sFor (iRange1 (eVar 3)) (gN 5) dn__law_least_s2)
noncomputable def dn__law_least_s4 : SDen := (sFor (iRange1 (eVar 3)) (gN 4) dn__law_least_s3)
noncomputable def dn__law_least_s5 : SDen := (sFor (iRange1 (eVar 3)) (gN 1) dn__law_least_s4)
noncomputable def dn__law_least_s6 : SDen := (sRet (eOp1 dTuple (ePure (eComp (iSeq (eVarR 2)) (gN 6) eYes (eOp1 dTuple (eVar 6)) [6]))))
noncomputable def dn__law_least : FD := dFn 1 8 (sSeq dn__law_least_s1
  (sSeq dn__law_least_s5
  dn__law_least_s6))
noncomputable def dn__law_taken : FD := dFn 2 4 (sSeq (sIf (eB (eOp2 dGt (eOp2P dIx 0 (eC (.int 3))) (eC (.int 0)))) (sSeq (sSet 3 (eOp2 dMod (eOp1 dInt (eOp2P dIx 0 (eC (.int 3)))) (eVar 1)))
  (sSeq (sSetIx 0 (eC (.int 3)) (eOp2 dFdiv (eOp2P dIx 0 (eC (.int 3))) (eVar 1)))
  (sRet (eVar 3)))) sNil)
  (sSeq (sSetIx 0 (eC (.int 1)) (eOp2 dAdd (eOp2P dIx 0 (eC (.int 1))) (eC (.int 1))))
  (sSeq (sIf (eB (eOp2 dGt (eOp2P dIx 0 (eC (.int 1))) (eOp1 dLen (eOp2P dIx 0 (eC (.int 0)))))) (sSeq (sSetIx 0 (eC (.int 2)) (eOp2 dMod (eOp1 dInt (eOp2 dAdd (eOp2 dMul (eOp2P dIx 0 (eC (.int 2))) (eC (.int 48271))) (eC (.int 11)))) (eC (.int 2147483647))))
  (sRet (eOp2 dMod (eOp1 dInt (eOp2 dFdiv (eOp2P dIx 0 (eC (.int 2))) (eC (.int 7)))) (eVar 1)))) sNil)
  (sSeq (sSet 2 (eOp2 dIx (eOp2P dIx 0 (eC (.int 0))) (eOp2 dSub (eOp2P dIx 0 (eC (.int 1))) (eC (.int 1)))))
  (sSeq (sSetIx 0 (eC (.int 2)) (eOp2 dMod (eOp1 dInt (eOp2 dAdd (eOp2 dAdd (eOp2 dMul (eOp2P dIx 0 (eC (.int 2))) (eC (.int 48271))) (eVar 2)) (eC (.int 11)))) (eC (.int 2147483647))))
  (sSeq (sIf (eB (eOp2 dGe (eVar 2) (eOp2 dPow (eC (.int 10)) (eC (.int 18))))) (sSeq (sSetIx 0 (eC (.int 3)) (eOp2 dFdiv (eVar 2) (eVar 1)))
  (sRet (eOp2 dMod (eOp1 dInt (eVar 2)) (eVar 1)))) sNil)
  (sRet (eOp2 dMod (eOp1 dInt (eOp2 dAdd (eOp2 dMul (eOp2 dMod (eOp1 dInt (eVar 2)) (eC (.int 1000003))) (eC (.int 31))) (eOp2 dFdiv (eOp2P dIx 0 (eC (.int 2))) (eC (.int 11))))) (eVar 1)))))))))
noncomputable def dn__law_pick : FD := dFn 2 2 (sRet (eOp2 dIx (eVar 1) (eCallS 2 dn__law_taken (aRef 0 (aVal (eOp1 dLen (eVar 1)) aNil)))))
noncomputable def dn__law_alike : Nat → FD
  | 0 => fun _ _ => .stuck
  | n + 1 => dFn 2 3 (sSeq (sIf (eB (eOp1 (dIsi2 "tuple" "list") (eVar 1))) (sSeq (sIf (eOr (eNot (eB (eOp1 (dIsi2 "tuple" "list") (eVar 0)))) (eB (eOp2 dNe (eOp1 (dIsi "list") (eVar 0)) (eOp1 (dIsi "list") (eVar 1))))) (sRet (eC (.bl false))) sNil)
  (sSeq (sIf (eB (eOp2 dNe (eOp1 dLen (eVar 0)) (eOp1 dLen (eVar 1)))) (sRet (eC (.bl false))) sNil)
  (sRet (eOp2 dEq (ePure (eComp (iRange1 (eOp1 dLen (eVar 1))) (gN 2) (eNot (eB (eCall 2 (dn__law_alike n) (eCons (eOp2 dIx (eVar 0) (eVar 2)) (eCons (eOp2 dIx (eVar 1) (eVar 2)) eNil))))) (eVar 2) [2])) (eLst eNil))))) sNil)
  (sSeq (sIf (eOr (eB (eOp2 dIs (eVar 1) (eC .non))) (eB (eOp1 (dIsi "str") (eVar 1)))) (sRet (eAndV (eOp2 dEq (eVar 0) (eVar 1)) (eOp2 dEq (eOp1 (dIsi "str") (eVar 0)) (eOp1 (dIsi "str") (eVar 1))))) sNil)
  (sRet (eAndV (eOp1 (dIsi "int") (eVar 0)) (eAndV (eOp2 dEq (eOp1 (dIsi "bool") (eVar 0)) (eOp1 (dIsi "bool") (eVar 1))) (eOp2 dEq (eVar 0) (eVar 1)))))))
noncomputable def dn_first_long_s1 : SDen := (sSet 1 (ePure (nRg1 (eOp1 dLen (eVar 0)))))
noncomputable def dn_first_long_e1 : Den := (eOp2 dLt (eOp2 dAdd (eOp2 dIx (eOp2 dIx (eVar 0) (eVar 2)) (eVar 4)) (eOp2 dIx (eOp2 dIx (eVar 0) (eVar 4)) (eVar 3))) (eOp2 dIx (eOp2 dIx (eVar 0) (eVar 2)) (eVar 3)))
noncomputable def dn_first_long_s2 : SDen := (sIf (eB (eOp1 dAny (ePure (eComp (iSeq (eVar 1)) (gN 4) eYes dn_first_long_e1 [4])))) (sRet (eVar 2)) sNil)
noncomputable def dn_first_long_s3 : SDen := (sFor (iSeq (eVar 1)) (gN 3) dn_first_long_s2)
noncomputable def dn_first_long_s4 : SDen := (sFor (iSeq (eVar 1)) (gN 2) dn_first_long_s3)
noncomputable def dn_first_long : FD := dFn 1 5 (sSeq dn_first_long_s1
  (sSeq dn_first_long_s4
  (sRet (eC .non))))
noncomputable def dn_is_row : FD := dFn 2 2 (sRet (eAndV (eOp1 (dIsi "tuple") (eVar 0)) (eOp2 dEq (eOp1 dLen (eVar 0)) (eVar 1))))
noncomputable def dn_is_whole : FD := dFn 1 1 (sRet (eAndV (eOp1 (dIsi "int") (eVar 0)) (eNotV (eOp1 (dIsi "bool") (eVar 0)))))
noncomputable def dn_is_within : FD := dFn 3 3 (sRet (eAndV (eCall 1 dn_is_whole (eCons (eVar 0) eNil)) (eChain dLe dLe (eVar 1) (eVar 0) (eVar 2))))
noncomputable def dn_is_times_row : FD := dFn 3 4 (sRet (eAndV (eCall 2 dn_is_row (eCons (eVar 0) (eCons (eVar 1) eNil))) (eAndV (eOp1 dAll (ePure (eComp (iSeq (eVar 0)) (gN 3) eYes (eCall 3 dn_is_within (eCons (eVar 3) (eCons (eC (.int 0)) (eCons (eC (.int 99)) eNil)))) [3]))) (eOp2 dEq (eOp2 dIx (eVar 0) (eVar 2)) (eC (.int 0))))))
noncomputable def dn_wrong_place_s1 : SDen := (sIf (eOr (eNot (eB (eOp1 (dIsi "tuple") (eVar 0)))) (eNot (eB (eChain dLe dLe (eC (.int 1)) (eOp1 dLen (eVar 0)) (eC (.int 6)))))) (sRet (eOp1 dNeg (eC (.int 1)))) sNil)
noncomputable def dn_wrong_place_s2 : SDen := (sIf (eNot (eB (eCall 3 dn_is_times_row (eCons (eVar 2) (eCons (eOp1 dLen (eVar 0)) (eCons (eVar 1) eNil)))))) (sRet (eVar 1)) sNil)
noncomputable def dn_wrong_place_s3 : SDen := (sFor (iEnumD (eVar 0)) (gT (gsCons (gN 1) (gsCons (gN 2) gsNil)) 2) dn_wrong_place_s2)
noncomputable def dn_wrong_place_s4 : SDen := (sRet (eCall 1 dn_first_long (eCons (eVar 0) eNil)))
noncomputable def dn_wrong_place : FD := dFn 1 3 (sSeq dn_wrong_place_s1
  (sSeq dn_wrong_place_s3
  dn_wrong_place_s4))
noncomputable def dn_are_times : FD := dFn 1 1 (sRet (eOp2 dIs (eCall 1 dn_wrong_place (eCons (eVar 0) eNil)) (eC .non)))
noncomputable def dn__law_refusal : FD := dFn 1 4 (sSeq (sSet 1 (eLst (eCons (eC (.str "BadPlan")) (eCons (eC (.str "BadNumber")) (eCons (eC (.str "BadOrder")) (eCons (eC (.str "UnknownKind")) (eCons (eC (.str "UnknownHouse")) (eCons (eC (.str "TooMany")) (eCons (eC (.str "BadCourse")) (eCons (eC (.str "BadTimes")) (eCons (eC (.str "BadNeeds")) (eCons (eC (.str "BadRows")) (eCons (eC (.str "BadCounts")) (eCons (eC (.str "BadMoves")) (eCons (eC (.str "BadSuspects")) (eCons (eC (.str "BadSigns")) (eCons (eC (.str "BadText")) (eCons (eC (.str "BadLine")) (eCons (eC (.str "NotPossible")) (eCons (eC (.str "NotAgreed")) (eCons (eC (.str "BadClaim")) (eCons (eC (.str "NothingDone")) eNil))))))))))))))))))))))
  (sSeq (sSet 2 (eLst (eCons (eIsX 0 (subT t_BadPlan)) (eCons (eIsX 0 (subT t_BadNumber)) (eCons (eIsX 0 (subT t_BadOrder)) (eCons (eIsX 0 (subT t_UnknownKind)) (eCons (eIsX 0 (subT t_UnknownHouse)) (eCons (eIsX 0 (subT t_TooMany)) (eCons (eIsX 0 (subT t_BadCourse)) (eCons (eIsX 0 (subT t_BadTimes)) (eCons (eIsX 0 (subT t_BadNeeds)) (eCons (eIsX 0 (subT t_BadRows)) (eCons (eIsX 0 (subT t_BadCounts)) (eCons (eIsX 0 (subT t_BadMoves)) (eCons (eIsX 0 (subT t_BadSuspects)) (eCons (eIsX 0 (subT t_BadSigns)) (eCons (eIsX 0 (subT t_BadText)) (eCons (eIsX 0 (subT t_BadLine)) (eCons (eIsX 0 (subT t_NotPossible)) (eCons (eIsX 0 (subT t_NotAgreed)) (eCons (eIsX 0 (subT t_BadClaim)) (eCons (eIsX 0 (subT t_NothingDone)) eNil))))))))))))))))))))))
  (sSeq (sIf (eOr (eB (eOp2 dNe (eLm dCount (eVar 2) (eC (.bl true))) (eC (.int 1)))) (eNot (eB (eIsX 0 (subT t_ValueError))))) (sRet (eTup (eCons (eC (.str "other")) eNil))) sNil)
  (sSeq (sSet 3 (eOp2 dIx (eVar 1) (eLm dIndex (eVar 2) (eC (.bl true)))))
  (sSeq (sIf (eB (eOp2 dEq (eVar 3) (eC (.str "BadPlan")))) (sRet (eTup (eCons (eVar 3) (eCons (eXf 0 "part") (eCons (eXf 0 "place") eNil))))) sNil)
  (sSeq (sIf (eB (eOp2 dIn (eVar 3) (eTup (eCons (eC (.str "BadNumber")) (eCons (eC (.str "BadOrder")) eNil))))) (sRet (eTup (eCons (eVar 3) (eCons (eXf 0 "value") eNil)))) sNil)
  (sSeq (sIf (eB (eOp2 dIn (eVar 3) (eTup (eCons (eC (.str "UnknownKind")) (eCons (eC (.str "UnknownHouse")) eNil))))) (sRet (eTup (eCons (eVar 3) (eCons (eXf 0 "name") eNil)))) sNil)
  (sSeq (sIf (eB (eOp2 dEq (eVar 3) (eC (.str "TooMany")))) (sRet (eTup (eCons (eVar 3) (eCons (eXf 0 "limit") eNil)))) sNil)
  (sSeq (sIf (eB (eOp2 dIn (eVar 3) (eTup (eCons (eC (.str "BadText")) (eCons (eC (.str "BadLine")) eNil))))) (sRet (eTup (eCons (eVar 3) (eCons (eXf 0 "line") eNil)))) sNil)
  (sSeq (sIf (eB (eOp2 dIn (eVar 3) (eTup (eCons (eC (.str "NotPossible")) (eCons (eC (.str "NotAgreed")) (eCons (eC (.str "BadClaim")) (eCons (eC (.str "NothingDone")) eNil))))))) (sRet (eTup (eCons (eVar 3) eNil))) sNil)
  (sRet (eTup (eCons (eVar 3) (eCons (eXf 0 "place") eNil))))))))))))))
noncomputable def dn__law_same : FD := dFn 2 2 (sRet (eOp2 dEqS (eOp1 dRepr (eVar 0)) (eOp1 dRepr (eVar 1))))
noncomputable def dn__law_odd : FD := dFn 1 2 (sSeq (sSet 1 (eLst (eCons (eC .non) (eCons (eC (.bl true)) (eCons (eC (.bl false)) (eCons (eOp1 dNeg (eC (.int 1))) (eCons (eOp2 dPow (eC (.int 10)) (eC (.int 30))) (eCons (eC (.str "")) (eCons (eC (.str "A")) (eCons (eC (.str "a1")) (eCons (eC (.str "abcdefghi")) (eCons (eLst eNil) (eCons (eLst (eCons (eC (.int 1)) eNil)) (eCons (eC (.dic [])) (eCons (eC (.dic [(.str "a", .int 1)])) (eCons (eC (.str "a b")) (eCons (eC (.int 61)) (eCons (eC (.str "-")) eNil))))))))))))))))))
  (sRet (eCallS 2 dn__law_pick (aRef 0 (aVal (eVar 1) aNil)))))
noncomputable def dn_shortest_s1 : SDen := (sRaise "BadTimes" 1 [("place", 0)] (eCons (eC .non) eNil))
noncomputable def dn_shortest_s2 : SDen := (sIf (eOr (eNot (eB (eOp1 (dIsi "tuple") (eVar 0)))) (eNot (eB (eChain dLe dLe (eC (.int 1)) (eOp1 dLen (eVar 0)) (eC (.int 6)))))) dn_shortest_s1 sNil)
noncomputable def dn_shortest_s3 : SDen := (sRaise "BadTimes" 1 [("place", 0)] (eCons (eVar 4) eNil))
noncomputable def dn_shortest_s4 : SDen := (sIf (eNot (eB (eCall 3 dn_is_times_row (eCons (eVar 5) (eCons (eOp1 dLen (eVar 0)) (eCons (eVar 4) eNil)))))) dn_shortest_s3 sNil)
noncomputable def dn_shortest_s5 : SDen := (sFor (iEnumD (eVar 0)) (gT (gsCons (gN 4) (gsCons (gN 5) gsNil)) 2) dn_shortest_s4)
noncomputable def dn_shortest_s6 : SDen := (sNew 1 (eCompN (iSeq (eVar 0)) (gN 5) eYes (nOf lstO (eVar 5)) [5]))
noncomputable def dn_shortest_s7 : SDen := (sSet 2 (ePure (nRg1 (eOp1 dLen (eVar 0)))))
noncomputable def dn_shortest_s8 : SDen := (sSetIx2 1 (eVar 6) (eVar 7) (eOpN dMin2 (eCons (eIx2 1 (eVar 6) (eVar 7)) (eCons (eOp2 dAdd (eIx2 1 (eVar 6) (eVar 3)) (eIx2 1 (eVar 3) (eVar 7))) eNil))))
noncomputable def dn_shortest_s9 : SDen := (sFor (iSeq (eVar 2)) (gN 7) dn_shortest_s8)
noncomputable def dn_shortest_s10 : SDen := (sFor (iSeq (eVar 2)) (gN 6) dn_shortest_s9)
noncomputable def dn_shortest_s11 : SDen := (sFor (iSeq (eVar 2)) (gN 3) dn_shortest_s10)
noncomputable def dn_shortest_s12 : SDen := (sRet (eOp1 dTuple (ePure (eComp (iSeq (eVarR 1)) (gN 5) eYes (eOp1 dTuple (eVar 5)) [5]))))
noncomputable def dn_shortest : FD := dFn 1 8 (sSeq dn_shortest_s2
  (sSeq dn_shortest_s5
  (sSeq dn_shortest_s6
  (sSeq dn_shortest_s7
  (sSeq dn_shortest_s11
  dn_shortest_s12)))))
noncomputable def dn_place_told : FD := dFn 1 1 (sRet (eIf (eB (eOp2 dEq (eVar 0) (eOp1 dNeg (eC (.int 1))))) (eC .non) (eVar 0)))
noncomputable def dn_require_times : FD := dFn 1 2 (sSeq (sSet 1 (eCall 1 dn_wrong_place (eCons (eVar 0) eNil)))
  (sIf (eB (eOp2 dIsNot (eVar 1) (eC .non))) (sRaise "BadTimes" 1 [("place", 0)] (eCons (eCall 1 dn_place_told (eCons (eVar 1) eNil)) eNil)) sNil))
noncomputable def dn_require_needs : FD := dFn 2 4 (sSeq (sExpr (eCall 1 dn_require_times (eCons (eVar 0) eNil)))
  sNever)
noncomputable def dn_fleet : FD := dFn 2 6 (sSeq (sExpr (eCall 2 dn_require_needs (eCons (eVar 0) (eCons (eVar 1) eNil))))
  sNever)
noncomputable def dn_follows : FD := dFn 2 2 (sSeq (sExpr (eCall 2 dn_require_needs (eCons (eVar 0) (eCons (eVar 1) eNil))))
  sNever)
noncomputable def dn_least_fleet : FD := dFn 2 2 (sRet (eOp1 dLen (eCall 2 dn_fleet (eCons (eVar 0) (eCons (eVar 1) eNil)))))
noncomputable def dn_apart : FD := dFn 2 5 (sSeq (sExpr (eCall 2 dn_require_needs (eCons (eVar 0) (eCons (eVar 1) eNil))))
  sNever)
noncomputable def dn_is_fleet : FD := dFn 3 9 (sSeq (sExpr (eCall 2 dn_require_needs (eCons (eVar 0) (eCons (eVar 1) eNil))))
  sNever)
noncomputable def dn_are_apart : FD := dFn 3 6 (sSeq (sExpr (eCall 2 dn_require_needs (eCons (eVar 0) (eCons (eVar 1) eNil))))
  sNever)
noncomputable def dn_shows_least : FD := dFn 4 4 (sSeq (sIf (eOr (eNot (eB (eCall 3 dn_is_fleet (eCons (eVar 0) (eCons (eVar 1) (eCons (eVar 2) eNil)))))) (eNot (eB (eCall 3 dn_are_apart (eCons (eVar 0) (eCons (eVar 1) (eCons (eVar 3) eNil))))))) (sRet (eC (.bl false))) sNil)
  (sRet (eOp2 dEq (eOp1 dLen (eVar 2)) (eOp1 dLen (eVar 3)))))
noncomputable def dn_idle : FD := dFn 3 6 (sSeq (sIf (eNot (eB (eCall 3 dn_is_fleet (eCons (eVar 0) (eCons (eVar 1) (eCons (eVar 2) eNil)))))) (sRet (eC .non)) sNil)
  sNever)
noncomputable def dn_law_s1 : SDen := (sNew 1 (nLst (eCons (eVar 0) (eCons (eC (.int 0)) (eCons (eC (.int 5161)) (eCons (eC (.int 0)) eNil))))))
noncomputable def dn_law_s2 : SDen := (sPar [9, 10] (aVal (eOp2 dAdd (eC (.int 1)) (eCallS 2 dn__law_taken (aRef 1 (aVal (eC (.int 6)) aNil)))) (aVal (eCallS 2 dn__law_pick (aRef 1 (aVal (eLst (eCons (eC (.int 3)) (eCons (eC (.int 10)) (eCons (eC (.int 100)) eNil)))) aNil))) aNil)))
noncomputable def dn_law_e1 : Den := (eIf (eB (eOp2 dEq (eVar 15) (eVar 16))) (eC (.int 0)) (eCallS 2 dn__law_taken (aRef 1 (aVal (eVar 10) aNil))))
noncomputable def dn_law_e2 : Den := (eOp1 dTuple (ePure (eComp (iRange1 (eVar 9)) (gN 16) eYes dn_law_e1 [16])))
noncomputable def dn_law_s3 : SDen := (sSet 3 (eOp1 dTuple (ePure (eComp (iRange1 (eVar 9)) (gN 15) eYes dn_law_e2 [15]))))
noncomputable def dn_law_s4 : SDen := (sSet 4 (eCall 1 dn__law_least (eCons (eVar 3) eNil)))
noncomputable def dn_law_s5 : SDen := (sIf (eOr (eNot (eB (eCall 2 (dn__law_alike 10) (eCons (eCall 1 dn_shortest (eCons (eVar 3) eNil)) (eCons (eVar 4) eNil))))) (eOr (eB (eOp2 dIsNot (eCall 1 dn_are_times (eCons (eVar 4) eNil)) (eC (.bl true)))) (eNot (eB (eCall 2 (dn__law_alike 10) (eCons (eCall 1 dn_are_times (eCons (eVar 3) eNil)) (eCons (eOp2 dEq (eVar 3) (eVar 4)) eNil))))))) (sRet (eC (.bl false))) sNil)
noncomputable def dn_law_t1 : DenB := (eB (eOp2 dNe (eOp2 dIx (eVar 3) (eVar 15)) (eOp2 dIx (eVar 4) (eVar 15))))
noncomputable def dn_law_s6 : SDen := (sSet 7 (ePure (eComp (iRange1 (eVar 9)) (gN 15) dn_law_t1 (eVar 15) [15])))
noncomputable def dn_law_t2 : DenB := (eB (eOp2 dLt (eOp2 dAdd (eOp2 dIx (eOp2 dIx (eVar 3) (eVar 15)) (eVar 17)) (eOp2 dIx (eOp2 dIx (eVar 3) (eVar 17)) (eVar 16))) (eOp2 dIx (eOp2 dIx (eVar 3) (eVar 15)) (eVar 16))))
noncomputable def dn_law_t3 : DenB := (eB (eOp2 dNe (ePure (eComp (iRange1 (eVar 9)) (gN 17) dn_law_t2 (eVar 17) [17])) (eLst eNil)))
noncomputable def dn_law_t4 : DenB := (eB (eOp2 dNe (ePure (eComp (iRange1 (eVar 9)) (gN 16) dn_law_t3 (eVar 16) [16])) (eLst eNil)))
noncomputable def dn_law_s7 : SDen := (sSet 11 (ePure (eComp (iSeq (eVar 7)) (gN 15) dn_law_t4 (eVar 15) [15])))
noncomputable def dn_law_s8 : SDen := (sSet 12 (eLst (eCons (eTold "told" (fun _ => some true) dn__law_refusal [] (eCall 2 dn_fleet (eCons (eVar 3) (eCons (eC (.int 1)) eNil)))) (eCons (eTold "told" (fun _ => some true) dn__law_refusal [.int 0] (eCall 2 dn_follows (eCons (eVar 3) (eCons (eC (.int 1)) eNil)))) (eCons (eTold "told" (fun _ => some true) dn__law_refusal [.int 0] (eCall 2 dn_least_fleet (eCons (eVar 3) (eCons (eC (.int 1)) eNil)))) (eCons (eTold "told" (fun _ => some true) dn__law_refusal [.int 0] (eCall 2 dn_apart (eCons (eVar 3) (eCons (eC (.int 1)) eNil)))) eNil))))))
noncomputable def dn_law_s9 : SDen := (sIf (eNot (eB (eCall 2 dn__law_same (eCons (eVar 12) (eCons (eOp2 dMul (eLst (eCons (eTup (eCons (eC (.str "BadTimes")) (eCons (eOp2 dIx (eVar 11) (eC (.int 0))) eNil))) eNil)) (eC (.int 4))) eNil))))) (sRet (eC (.bl false))) sNil)
noncomputable def dn_law_s10 : SDen := (sIf (eB (eOp2 dNe (eVar 3) (eVar 4))) (sSeq dn_law_s6
  (sSeq dn_law_s7
  (sSeq dn_law_s8
  dn_law_s9))) sNil)
noncomputable def dn_law_s11 : SDen := (sSet 5 (eCallS 2 dn__law_taken (aRef 1 (aVal (eVar 9) aNil))))
noncomputable def dn_law_s12 : SDen := (sSet 6 (eLst (eCons (eC .non) (eCons (eOp1 dList (eOp2 dIx (eVar 4) (eVar 5))) (eCons (eOp2 dAdd (eOp2 dIx (eVar 4) (eVar 5)) (eTup (eCons (eC (.int 0)) eNil))) (eCons (eCut (eOp2 dIx (eVar 4) (eVar 5)) (eSo (eC (.int 1))) eNo) eNil))))))
noncomputable def dn_law_s13 : SDen := (sSet 6 (eOp2 dAdd (eVar 6) (eLst (eCons (eOp2 dAdd (eOp2 dAdd (eCut (eOp2 dIx (eVar 4) (eVar 5)) eNo (eSo (eVar 5))) (eTup (eCons (eC (.int 1)) eNil))) (eCut (eOp2 dIx (eVar 4) (eVar 5)) (eSo (eOp2 dAdd (eVar 5) (eC (.int 1)))) eNo)) (eCons (eIf (eB (eOp2 dGt (eVar 5) (eC (.int 0)))) (eOp2 dAdd (eTup (eCons (eOp1 dNeg (eC (.int 1))) eNil)) (eCut (eOp2 dIx (eVar 4) (eVar 5)) (eSo (eC (.int 1))) eNo)) (eC .non)) (eCons (eIf (eB (eOp2 dGt (eVar 5) (eC (.int 0)))) (eOp2 dAdd (eTup (eCons (eC (.int 100)) eNil)) (eCut (eOp2 dIx (eVar 4) (eVar 5)) (eSo (eC (.int 1))) eNo)) (eC (.int 1))) (eCons (eOp2 dMul (eTup (eCons (eC .non) eNil)) (eVar 9)) eNil)))))))
noncomputable def dn_law_s14 : SDen := (sSet 7 (eOp2 dAdd (eOp2 dAdd (eCut (eVar 4) eNo (eSo (eVar 5))) (eTup (eCons (eCallS 2 dn__law_pick (aRef 1 (aVal (eVar 6) aNil))) eNil))) (eCut (eVar 4) (eSo (eOp2 dAdd (eVar 5) (eC (.int 1)))) eNo)))
noncomputable def dn_law_s15 : SDen := (sSet 8 (eCallS 2 dn__law_pick (aRef 1 (aVal (eLst (eCons (eC .non) (eCons (eTup eNil) (eCons (eOp1 dList (eVar 4)) (eCons (eC (.int 1)) (eCons (eOp2 dMul (eTup (eCons (eOp2 dMul (eTup (eCons (eC (.int 0)) eNil)) (eC (.int 7))) eNil)) (eC (.int 7))) (eCons (eCallS 1 dn__law_odd (aRef 1 aNil)) eNil))))))) aNil))))
noncomputable def dn_law_s16 : SDen := (sSet 12 (eLst (eCons (eTold "told" (fun _ => some true) dn__law_refusal [] (eCall 1 dn_shortest (eCons (eVar 13) eNil))) (eCons (eTold "told" (fun _ => some true) dn__law_refusal [.int 0] (eCall 2 dn_fleet (eCons (eVar 13) (eCons (eC (.int 1)) eNil)))) (eCons (eTold "told" (fun _ => some true) dn__law_refusal [.int 0] (eCall 3 dn_is_fleet (eCons (eVar 13) (eCons (eC (.int 1)) (eCons (eC (.int 1)) eNil))))) (eCons (eTold "told" (fun _ => some true) dn__law_refusal [.int 0] (eCall 3 dn_are_apart (eCons (eVar 13) (eCons (eC (.int 1)) (eCons (eC (.int 1)) eNil))))) eNil))))))
noncomputable def dn_law_s17 : SDen := (sSet 12 (eOp2 dAdd (eVar 12) (eLst (eCons (eTold "told" (fun _ => some true) dn__law_refusal [.int 0] (eCall 4 dn_shows_least (eCons (eVar 13) (eCons (eC (.int 1)) (eCons (eC (.int 1)) (eCons (eC (.int 1)) eNil)))))) (eCons (eTold "told" (fun _ => some true) dn__law_refusal [.int 0] (eCall 3 dn_idle (eCons (eVar 13) (eCons (eC (.int 1)) (eCons (eC (.int 1)) eNil))))) eNil)))))
noncomputable def dn_law_s18 : SDen := (sIf (eOr (eB (eCall 1 dn_are_times (eCons (eVar 13) eNil))) (eNot (eB (eCall 2 dn__law_same (eCons (eVar 12) (eCons (eOp2 dMul (eLst (eCons (eVar 14) eNil)) (eC (.int 6))) eNil)))))) (sRet (eC (.bl false))) sNil)
noncomputable def dn_law_b1 : SDen := (sSeq dn_law_s16
  (sSeq dn_law_s17
  dn_law_s18))
noncomputable def dn_law_s19 : SDen := (sFor (iSeq (eLst (eCons (eTup (eCons (eVar 7) (eCons (eTup (eCons (eC (.str "BadTimes")) (eCons (eVar 5) eNil))) eNil))) (eCons (eTup (eCons (eVar 8) (eCons (eTup (eCons (eC (.str "BadTimes")) (eCons (eC .non) eNil))) eNil))) eNil)))) (gT (gsCons (gN 13) (gsCons (gN 14) gsNil)) 2) dn_law_b1)
noncomputable def dn_law_b2 : SDen := (sSeq dn_law_s2
  (sSeq dn_law_s3
  (sSeq dn_law_s4
  (sSeq dn_law_s5
  (sSeq dn_law_s10
  (sSeq dn_law_s11
  (sSeq dn_law_s12
  (sSeq dn_law_s13
  (sSeq dn_law_s14
  (sSeq dn_law_s15
  dn_law_s19))))))))))
noncomputable def dn_law_s20 : SDen := (sFor (iRange1 (eC (.int 5))) (gN 2) dn_law_b2)
noncomputable def dn_law : FD := dFn 1 18 (sSeq dn_law_s1
  (sSeq dn_law_s20
  (sRet (eC (.bl true)))))
structure Facts (K : PySem.W.Frag) (mg : Str → Option Value) : Prop where
  n_ValueError : mg "ValueError" = none
  n_all : mg "all" = none
  n_any : mg "any" = none
  n_bool : mg "bool" = none
  n_enumerate : mg "enumerate" = none
  n_int : mg "int" = none
  n_isinstance : mg "isinstance" = none
  n_len : mg "len" = none
  n_list : mg "list" = none
  n_min : mg "min" = none
  n_range : mg "range" = none
  n_repr : mg "repr" = none
  n_str : mg "str" = none
  n_tuple : mg "tuple" = none
  g_MOST_HOUSES : ∃ t, mg "MOST_HOUSES" = some (.int 6 t)
  g_MOST_TIME : ∃ t, mg "MOST_TIME" = some (.int 99 t)
structure FactsX (P : Program) (w : World) (K : PySem.W.Frag) (mg : Str → Option Value) (base : Heap) (G : Wd) : Prop where
  xc : XCls G K
  i_NothingDone : ∃ C, mg "NothingDone" = some (.ref C) ∧ ∀ c C1 b, G.cls c = some C1 → subT t_NothingDone c = some b → PySem.W.kitOne K (.ref C1) (.ref C) = some b
  i_BadClaim : ∃ C, mg "BadClaim" = some (.ref C) ∧ ∀ c C1 b, G.cls c = some C1 → subT t_BadClaim c = some b → PySem.W.kitOne K (.ref C1) (.ref C) = some b
  i_NotAgreed : ∃ C, mg "NotAgreed" = some (.ref C) ∧ ∀ c C1 b, G.cls c = some C1 → subT t_NotAgreed c = some b → PySem.W.kitOne K (.ref C1) (.ref C) = some b
  i_NotPossible : ∃ C, mg "NotPossible" = some (.ref C) ∧ ∀ c C1 b, G.cls c = some C1 → subT t_NotPossible c = some b → PySem.W.kitOne K (.ref C1) (.ref C) = some b
  i_BadLine : ∃ C, mg "BadLine" = some (.ref C) ∧ ∀ c C1 b, G.cls c = some C1 → subT t_BadLine c = some b → PySem.W.kitOne K (.ref C1) (.ref C) = some b
  i_BadText : ∃ C, mg "BadText" = some (.ref C) ∧ ∀ c C1 b, G.cls c = some C1 → subT t_BadText c = some b → PySem.W.kitOne K (.ref C1) (.ref C) = some b
  i_BadSigns : ∃ C, mg "BadSigns" = some (.ref C) ∧ ∀ c C1 b, G.cls c = some C1 → subT t_BadSigns c = some b → PySem.W.kitOne K (.ref C1) (.ref C) = some b
  i_BadSuspects : ∃ C, mg "BadSuspects" = some (.ref C) ∧ ∀ c C1 b, G.cls c = some C1 → subT t_BadSuspects c = some b → PySem.W.kitOne K (.ref C1) (.ref C) = some b
  i_BadMoves : ∃ C, mg "BadMoves" = some (.ref C) ∧ ∀ c C1 b, G.cls c = some C1 → subT t_BadMoves c = some b → PySem.W.kitOne K (.ref C1) (.ref C) = some b
  i_BadCounts : ∃ C, mg "BadCounts" = some (.ref C) ∧ ∀ c C1 b, G.cls c = some C1 → subT t_BadCounts c = some b → PySem.W.kitOne K (.ref C1) (.ref C) = some b
  i_BadRows : ∃ C, mg "BadRows" = some (.ref C) ∧ ∀ c C1 b, G.cls c = some C1 → subT t_BadRows c = some b → PySem.W.kitOne K (.ref C1) (.ref C) = some b
  i_BadNeeds : ∃ C, mg "BadNeeds" = some (.ref C) ∧ ∀ c C1 b, G.cls c = some C1 → subT t_BadNeeds c = some b → PySem.W.kitOne K (.ref C1) (.ref C) = some b
  i_BadTimes : ∃ C, mg "BadTimes" = some (.ref C) ∧ ∀ c C1 b, G.cls c = some C1 → subT t_BadTimes c = some b → PySem.W.kitOne K (.ref C1) (.ref C) = some b
  i_BadCourse : ∃ C, mg "BadCourse" = some (.ref C) ∧ ∀ c C1 b, G.cls c = some C1 → subT t_BadCourse c = some b → PySem.W.kitOne K (.ref C1) (.ref C) = some b
  i_TooMany : ∃ C, mg "TooMany" = some (.ref C) ∧ ∀ c C1 b, G.cls c = some C1 → subT t_TooMany c = some b → PySem.W.kitOne K (.ref C1) (.ref C) = some b
  i_UnknownHouse : ∃ C, mg "UnknownHouse" = some (.ref C) ∧ ∀ c C1 b, G.cls c = some C1 → subT t_UnknownHouse c = some b → PySem.W.kitOne K (.ref C1) (.ref C) = some b
  i_UnknownKind : ∃ C, mg "UnknownKind" = some (.ref C) ∧ ∀ c C1 b, G.cls c = some C1 → subT t_UnknownKind c = some b → PySem.W.kitOne K (.ref C1) (.ref C) = some b
  i_BadOrder : ∃ C, mg "BadOrder" = some (.ref C) ∧ ∀ c C1 b, G.cls c = some C1 → subT t_BadOrder c = some b → PySem.W.kitOne K (.ref C1) (.ref C) = some b
  i_BadNumber : ∃ C, mg "BadNumber" = some (.ref C) ∧ ∀ c C1 b, G.cls c = some C1 → subT t_BadNumber c = some b → PySem.W.kitOne K (.ref C1) (.ref C) = some b
  i_BadPlan : ∃ C, mg "BadPlan" = some (.ref C) ∧ ∀ c C1 b, G.cls c = some C1 → subT t_BadPlan c = some b → PySem.W.kitOne K (.ref C1) (.ref C) = some b
  i_ValueError : ∀ c C1 b, G.cls c = some C1 → subT t_ValueError c = some b → PySem.W.kitOne K (.ref C1) (.type "ValueError") = some b
  f_limit : ∀ c C, G.cls c = some C → PySem.W.findIn K (.ref C) "limit" = some none
  f_line : ∀ c C, G.cls c = some C → PySem.W.findIn K (.ref C) "line" = some none
  f_name : ∀ c C, G.cls c = some C → PySem.W.findIn K (.ref C) "name" = some none
  f_part : ∀ c C, G.cls c = some C → PySem.W.findIn K (.ref C) "part" = some none
  f_place : ∀ c C, G.cls c = some C → PySem.W.findIn K (.ref C) "place" = some none
  f_value : ∀ c C, G.cls c = some C → PySem.W.findIn K (.ref C) "value" = some none
  r_BadTimes : MExc P w K mg base G 1 "BadTimes" 1 [("place", 0)]
section
variable {P : Program} {w : World} {K : PySem.W.Frag} {mg : Str → Option Value} {base : Heap} {G : Wd}
abbrev s_BadTimes : Stmt := inS 15 0
theorem x_BadTimes {C fI cc cda : Addr} (F : SupK P K mg C fI cc cda "BadTimes.__init__" s_BadTimes ["place"]) (hm : mg "BadTimes" = some (.ref C)) (hG : G.cls "BadTimes" = some C) : MExc P w K mg base G 1 "BadTimes" 1 [("place", 0)] :=
  mexc1 F hm hG rfl (NdefX.nscope_by (by decide +kernel)) rfl rfl rfl (fun _ _ _ _ _ us hl => match us, hl with | [_, _], _ => rfl) (fun env => rfl) (fun env h => by unfold interactive; rw [h]; rfl) (fun env h => by obtain ⟨⟩ := env; cases h; rfl) (by decide) (by decide)
abbrev s__law_least : Stmt := topS 63
theorem sc__law_least : FnScope ["rows", "turn", "found", "many", "a", "b", "one", "c"] ["rows"] (defScope s__law_least) := ⟨rfl, rfl, rfl, by decide +kernel, rfl, by decide +kernel, by decide +kernel⟩
theorem ok__law_least (T : Facts K mg) (XF : FactsX P w K mg base G) (hK : G.K = K) {fa : Addr} {fd : FuncData} (F : Fun K "_law_least" "_law_least" s__law_least fa fd) (hm : mg "_law_least" = some (.ref fa)) (b : Binds K fd ["rows"] [])  : MCal P w K mg base G 1 "_law_least" 1 dn__law_least := by
  have sc := sc__law_least
  exact cal_M F (fn_M (k := 0) F sc rfl (by decide) fun cdv A outer sh H E hr tk hp =>
      (mss_cons (ms_parT (is := [2, 3]) hK rfl (mas_new (mn_compN (own := [("one", 6)]) rfl sc.nd (mi_seq hK (me_var 0 (pv 0))) (blkOk_by (by kernel_rfl)) (gsim_name 6) (fun _ _ _ _ _ => (pg_name (i := 6) sc.nd rfl (by first | exact .inl rfl | exact .inr rfl))) (fun _ _ _ _ _ => mts_nil) (fun _ _ _ _ _ => (mn_list hK T.n_list (mv_of (me_var 6 (pv 6)))))) (mas_val (me_bi1 (cr_lenM) (sim_len hK) (by decide +kernel) T.n_len (mv_of (me_var 0 (pv 0)))) mas_nil)) (pgs_cons (pg_name (i := 2) sc.nd rfl (by first | exact .inl rfl | exact .inr rfl)) (pgs_cons (pg_name (i := 3) sc.nd rfl (by first | exact .inl rfl | exact .inr rfl)) pgs_nil)))
      (mss_cons (ms_for (vs := [1]) hp rfl (mi_range1 T.n_range (me_var 3 (pv 3))) (mg_name 1 sc.nd) (mss_one (ms_for (vs := [4]) hp rfl (mi_range1 T.n_range (me_var 3 (pv 3))) (mg_name 4 sc.nd) (mss_one (ms_for (vs := [5]) hp rfl (mi_range1 T.n_range (me_var 3 (pv 3))) (mg_name 5 sc.nd) (mss_one (ms_setix2 (pv 2) (me_var 4 (pv 4)) (me_var 5 (pv 5)) (me_bi1 (cr_min rfl) sim_min (by decide +kernel) T.n_min (mv_of (me_bin op_addM (sim_add hK) (me_lst (ma_cons (me_ix2 (pv 2) (me_var 4 (pv 4)) (me_var 5 (pv 5)) (fun _ _ => rfl) (fun _ _ => rfl)) ma_nil)) (mv_of (me_own (mn_comp (own := [("c", 7)]) rfl sc.nd (mi_range1 T.n_range (me_var 3 (pv 3))) (blkOk_by (by kernel_rfl)) (gsim_name 7) (fun _ _ _ _ _ => (pg_name (i := 7) sc.nd rfl (by first | exact .inl rfl | exact .inr rfl))) (fun _ _ _ _ _ => mts_nil) (fun _ _ _ _ _ => (me_bin op_addM (sim_add hK) (me_ix2 (pv 2) (me_var 4 (pv 4)) (me_var 7 (pv 7)) (fun _ _ => rfl) (fun _ _ => rfl)) (mv_of (me_ix2 (pv 2) (me_var 7 (pv 7)) (me_var 5 (pv 5)) (fun _ _ => rfl) (fun _ _ => rfl))))))))))) (fun _ _ => rfl))))))))
      (mss_one (ms_ret (me_ty1 (call_tuple_of) (sim_tuple hK) (by decide +kernel) T.n_tuple (mv_of (me_own (mn_comp (own := [("one", 6)]) rfl sc.nd (mi_seq hK (me_varR 2 (pv 2))) (blkOk_by (by kernel_rfl)) (gsim_name 6) (fun _ _ _ _ _ => (pg_name (i := 6) sc.nd rfl (by first | exact .inl rfl | exact .inr rfl))) (fun _ _ _ _ _ => mts_nil) (fun _ _ _ _ _ => (me_ty1 (call_tuple_of) (sim_tuple hK) (by decide +kernel) T.n_tuple (mv_of (me_var 6 (pv 6)))))))))))))) hm b
abbrev s__law_taken : Stmt := topS 56
theorem sc__law_taken : FnScope ["row", "many", "cell", "found"] ["row", "many"] (defScope s__law_taken) := ⟨rfl, rfl, rfl, by decide +kernel, rfl, by decide +kernel, by decide +kernel⟩
theorem ok__law_taken (T : Facts K mg) (XF : FactsX P w K mg base G) (hK : G.K = K) {fa : Addr} {fd : FuncData} (F : Fun K "_law_taken" "_law_taken" s__law_taken fa fd) (hm : mg "_law_taken" = some (.ref fa)) (b : Binds K fd ["row", "many"] [])  : MCal P w K mg base G 1 "_law_taken" 2 dn__law_taken := by
  have sc := sc__law_taken
  exact cal_M F (fn_M (k := 0) F sc rfl (by decide) fun cdv A outer sh H E hr tk hp =>
      (mss_cons (ms_if (mt_cmp op_gt sim_gt (me_ixP ix_seq (sim_ix hK) (pv 0) (mv_of me_int) (fun _ _ => rfl)) (mv_of me_int) (nomark _)) (mss_cons (ms_set 3 sc.nd (me_bin op_mod sim_mod (me_ty1 (call_int1) sim_int (by decide +kernel) T.n_int (mv_of (me_ixP ix_seq (sim_ix hK) (pv 0) (mv_of me_int) (fun _ _ => rfl)))) (mv_of (me_var 1 (pv 1)))))
      (mss_cons (ms_setix (pv 0) me_int (me_bin op_fdiv sim_fdiv (me_ixP ix_seq (sim_ix hK) (pv 0) (mv_of me_int) (fun _ _ => rfl)) (mv_of (me_var 1 (pv 1)))))
      (mss_one (ms_ret (me_var 3 (pv 3)))))) mss_nil)
      (mss_cons (ms_setix (pv 0) me_int (me_bin op_addM (sim_add hK) (me_ixP ix_seq (sim_ix hK) (pv 0) (mv_of me_int) (fun _ _ => rfl)) (mv_of me_int)))
      (mss_cons (ms_if (mt_cmp op_gt sim_gt (me_ixP ix_seq (sim_ix hK) (pv 0) (mv_of me_int) (fun _ _ => rfl)) (mv_of (me_bi1 (cr_lenM) (sim_len hK) (by decide +kernel) T.n_len (mv_of (me_ixP ix_seq (sim_ix hK) (pv 0) (mv_of me_int) (fun _ _ => rfl))))) (nomark _)) (mss_cons (ms_setix (pv 0) me_int (me_bin op_mod sim_mod (me_ty1 (call_int1) sim_int (by decide +kernel) T.n_int (mv_of (me_bin op_addM (sim_add hK) (me_bin op_mulM (sim_mul hK) (me_ixP ix_seq (sim_ix hK) (pv 0) (mv_of me_int) (fun _ _ => rfl)) (mv_of me_int)) (mv_of me_int)))) (mv_of me_int)))
      (mss_one (ms_ret (me_bin op_mod sim_mod (me_ty1 (call_int1) sim_int (by decide +kernel) T.n_int (mv_of (me_bin op_fdiv sim_fdiv (me_ixP ix_seq (sim_ix hK) (pv 0) (mv_of me_int) (fun _ _ => rfl)) (mv_of me_int)))) (mv_of (me_var 1 (pv 1))))))) mss_nil)
      (mss_cons (ms_set 2 sc.nd (me_ix ix_seq (sim_ix hK) (me_ixP ix_seq (sim_ix hK) (pv 0) (mv_of me_int) (fun _ _ => rfl)) (mv_of (me_bin op_sub sim_sub (me_ixP ix_seq (sim_ix hK) (pv 0) (mv_of me_int) (fun _ _ => rfl)) (mv_of me_int))) (fun _ _ => rfl)))
      (mss_cons (ms_setix (pv 0) me_int (me_bin op_mod sim_mod (me_ty1 (call_int1) sim_int (by decide +kernel) T.n_int (mv_of (me_bin op_addM (sim_add hK) (me_bin op_addM (sim_add hK) (me_bin op_mulM (sim_mul hK) (me_ixP ix_seq (sim_ix hK) (pv 0) (mv_of me_int) (fun _ _ => rfl)) (mv_of me_int)) (mv_of (me_var 2 (pv 2)))) (mv_of me_int)))) (mv_of me_int)))
      (mss_cons (ms_if (mt_cmp op_ge sim_ge (me_var 2 (pv 2)) (mv_of (me_bin op_pow sim_pow me_int (mv_of me_int))) (nomark _)) (mss_cons (ms_setix (pv 0) me_int (me_bin op_fdiv sim_fdiv (me_var 2 (pv 2)) (mv_of (me_var 1 (pv 1)))))
      (mss_one (ms_ret (me_bin op_mod sim_mod (me_ty1 (call_int1) sim_int (by decide +kernel) T.n_int (mv_of (me_var 2 (pv 2)))) (mv_of (me_var 1 (pv 1))))))) mss_nil)
      (mss_one (ms_ret (me_bin op_mod sim_mod (me_ty1 (call_int1) sim_int (by decide +kernel) T.n_int (mv_of (me_bin op_addM (sim_add hK) (me_bin op_mulM (sim_mul hK) (me_bin op_mod sim_mod (me_ty1 (call_int1) sim_int (by decide +kernel) T.n_int (mv_of (me_var 2 (pv 2)))) (mv_of me_int)) (mv_of me_int)) (mv_of (me_bin op_fdiv sim_fdiv (me_ixP ix_seq (sim_ix hK) (pv 0) (mv_of me_int) (fun _ _ => rfl)) (mv_of me_int)))))) (mv_of (me_var 1 (pv 1))))))))))))) hm b
abbrev s__law_pick : Stmt := topS 57
theorem sc__law_pick : FnScope ["row", "things"] ["row", "things"] (defScope s__law_pick) := ⟨rfl, rfl, rfl, by decide +kernel, rfl, by decide +kernel, by decide +kernel⟩
theorem ok__law_pick (T : Facts K mg) (XF : FactsX P w K mg base G) (hK : G.K = K) {fa : Addr} {fd : FuncData} (F : Fun K "_law_pick" "_law_pick" s__law_pick fa fd) (hm : mg "_law_pick" = some (.ref fa)) (b : Binds K fd ["row", "things"] []) (c__law_taken : MCal P w K mg base G 1 "_law_taken" 2 dn__law_taken) : MCal P w K mg base G 2 "_law_pick" 2 dn__law_pick := by
  have sc := sc__law_pick
  exact cal_M F (fn_M (k := 1) F sc rfl (by decide) fun cdv A outer sh H E hr tk hp =>
      (mss_one (ms_ret (me_ix ix_seq (sim_ix hK) (me_var 1 (pv 1)) (mv_of (me_callS c__law_taken (hr.mono (by omega)) tk (mas_ref (pv 0) (mas_val (me_bi1 (cr_lenM) (sim_len hK) (by decide +kernel) T.n_len (mv_of (me_var 1 (pv 1)))) mas_nil)))) (fun _ _ => rfl))))) hm b
abbrev s__law_alike : Stmt := topS 58
theorem sc__law_alike : FnScope ["found", "due", "k"] ["found", "due"] (defScope s__law_alike) := ⟨rfl, rfl, rfl, by decide +kernel, rfl, by decide +kernel, by decide +kernel⟩
theorem ok__law_alike (T : Facts K mg) (XF : FactsX P w K mg base G) (hK : G.K = K) {fa : Addr} {fd : FuncData} (F : Fun K "_law_alike" "_law_alike" s__law_alike fa fd) (hm : mg "_law_alike" = some (.ref fa)) (b : Binds K fd ["found", "due"] [])  : ∀ n : Nat, MCal P w K mg base G (1 + n) "_law_alike" 2 (dn__law_alike n)
  | 0 => cal_M F (FnOk.mono (fn_stuck F sc__law_alike rfl) (by omega)) hm b
  | n + 1 => by
    have c__law_alike := ok__law_alike T XF hK F hm b  n
    have sc := sc__law_alike
    exact cal_M F (FnOk.mono (fn_M (k := 1 + n) F sc rfl (by decide) fun cdv A outer sh H E hr tk hp =>
      (mss_cons (ms_if (mt_val (me_isi2 hK T.n_isinstance (by decide +kernel) (by decide +kernel) T.n_tuple T.n_list (me_var 1 (pv 1)))) (mss_cons (ms_if (mt_w (mw_or (mt_not (mt_val (me_isi2 hK T.n_isinstance (by decide +kernel) (by decide +kernel) T.n_tuple T.n_list (me_var 0 (pv 0))))) (mw_or1 (mt_cmp (op_neD (hu64 hr)) (sim_ne hK) (me_isi hK T.n_isinstance (by decide +kernel) T.n_list (mv_of (me_var 0 (pv 0)))) (mv_of (me_isi hK T.n_isinstance (by decide +kernel) T.n_list (mv_of (me_var 1 (pv 1))))) (nomark _))))) (mss_one (ms_ret me_bl)) mss_nil)
      (mss_cons (ms_if (mt_cmp (op_neD (hu64 hr)) (sim_ne hK) (me_bi1 (cr_lenM) (sim_len hK) (by decide +kernel) T.n_len (mv_of (me_var 0 (pv 0)))) (mv_of (me_bi1 (cr_lenM) (sim_len hK) (by decide +kernel) T.n_len (mv_of (me_var 1 (pv 1))))) (nomark _)) (mss_one (ms_ret me_bl)) mss_nil)
      (mss_one (ms_ret (me_cmp (op_eqD (hu64 hr)) (sim_eq hK) (me_own (mn_comp (own := [("k", 2)]) rfl sc.nd (mi_range1 T.n_range (me_bi1 (cr_lenM) (sim_len hK) (by decide +kernel) T.n_len (mv_of (me_var 1 (pv 1))))) (blkOk_by (by kernel_rfl)) (gsim_name 2) (fun _ _ _ _ _ => (pg_name (i := 2) sc.nd rfl (by first | exact .inl rfl | exact .inr rfl))) (fun _ _ _ _ _ => (mts_one (mt_not (mt_val (me_call c__law_alike (hr.mono (by omega)) takes0N (ma_cons (me_ix ix_seq (sim_ix hK) (me_var 0 (pv 0)) (mv_of (me_var 2 (pv 2))) (fun _ _ => rfl)) (ma_cons (me_ix ix_seq (sim_ix hK) (me_var 1 (pv 1)) (mv_of (me_var 2 (pv 2))) (fun _ _ => rfl)) ma_nil))))))) (fun _ _ _ _ _ => (me_var 2 (pv 2))))) (mv_of (me_lst ma_nil)) (nomark _)))))) mss_nil)
      (mss_cons (ms_if (mt_w (mw_or (mt_cmp op_isM sim_is (me_var 1 (pv 1)) (mv_of me_non) (nomark _)) (mw_or1 (mt_val (me_isi hK T.n_isinstance (by decide +kernel) T.n_str (mv_of (me_var 1 (pv 1)))))))) (mss_one (ms_ret (me_and (me_cmp (op_eqD (hu64 hr)) (sim_eq hK) (me_var 0 (pv 0)) (mv_of (me_var 1 (pv 1))) (nomark _)) (me_one (me_cmp (op_eqD (hu64 hr)) (sim_eq hK) (me_isi hK T.n_isinstance (by decide +kernel) T.n_str (mv_of (me_var 0 (pv 0)))) (mv_of (me_isi hK T.n_isinstance (by decide +kernel) T.n_str (mv_of (me_var 1 (pv 1))))) (nomark _)))))) mss_nil)
      (mss_one (ms_ret (me_and (me_isi hK T.n_isinstance (by decide +kernel) T.n_int (mv_of (me_var 0 (pv 0)))) (me_and (me_cmp (op_eqD (hu64 hr)) (sim_eq hK) (me_isi hK T.n_isinstance (by decide +kernel) T.n_bool (mv_of (me_var 0 (pv 0)))) (mv_of (me_isi hK T.n_isinstance (by decide +kernel) T.n_bool (mv_of (me_var 1 (pv 1))))) (nomark _)) (me_one (me_cmp (op_eqD (hu64 hr)) (sim_eq hK) (me_var 0 (pv 0)) (mv_of (me_var 1 (pv 1))) (nomark _)))))))))) (by omega)) hm b
abbrev s_first_long : Stmt := topS 32
theorem sc_first_long : FnScope ["times", "spots", "one", "other", "middle"] ["times"] (defScope s_first_long) := ⟨rfl, rfl, rfl, by decide +kernel, rfl, by decide +kernel, by decide +kernel⟩
theorem ok_first_long (T : Facts K mg) (XF : FactsX P w K mg base G) (hK : G.K = K) {fa : Addr} {fd : FuncData} (F : Fun K "first_long" "first_long" s_first_long fa fd) (hm : mg "first_long" = some (.ref fa)) (b : Binds K fd ["times"] [])  : MCal P w K mg base G 1 "first_long" 1 dn_first_long := by
  have sc := sc_first_long
  exact cal_M F (fn_M (k := 0) F sc rfl (by decide) fun cdv A outer sh H E hr tk hp =>
      (mss_cons (ms_set 1 sc.nd (me_own (mn_listRg rfl T.n_list T.n_range (me_bi1 (cr_lenM) (sim_len hK) (by decide +kernel) T.n_len (mv_of (me_var 0 (pv 0)))))))
      (mss_cons (ms_for (vs := [2]) hp rfl (mi_seq hK (me_var 1 (pv 1))) (mg_name 2 sc.nd) (mss_one (ms_for (vs := [3]) hp rfl (mi_seq hK (me_var 1 (pv 1))) (mg_name 3 sc.nd) (mss_one (ms_if (mt_val (me_bi1 (cr_any rfl) sim_any (by decide +kernel) T.n_any (mv_of (me_own (mn_comp (own := [("middle", 4)]) rfl sc.nd (mi_seq hK (me_var 1 (pv 1))) (blkOk_by (by kernel_rfl)) (gsim_name 4) (fun _ _ _ _ _ => (pg_name (i := 4) sc.nd rfl (by first | exact .inl rfl | exact .inr rfl))) (fun _ _ _ _ _ => mts_nil) (fun _ _ _ _ _ => (me_cmp op_ltM sim_lt (me_bin op_addM (sim_add hK) (me_ix ix_seq (sim_ix hK) (me_ix ix_seq (sim_ix hK) (me_var 0 (pv 0)) (mv_of (me_var 2 (pv 2))) (fun _ _ => rfl)) (mv_of (me_var 4 (pv 4))) (fun _ _ => rfl)) (mv_of (me_ix ix_seq (sim_ix hK) (me_ix ix_seq (sim_ix hK) (me_var 0 (pv 0)) (mv_of (me_var 4 (pv 4))) (fun _ _ => rfl)) (mv_of (me_var 3 (pv 3))) (fun _ _ => rfl)))) (mv_of (me_ix ix_seq (sim_ix hK) (me_ix ix_seq (sim_ix hK) (me_var 0 (pv 0)) (mv_of (me_var 2 (pv 2))) (fun _ _ => rfl)) (mv_of (me_var 3 (pv 3))) (fun _ _ => rfl))) (nomark _)))))))) (mss_one (ms_ret (me_var 2 (pv 2)))) mss_nil)))))
      (mss_one (ms_ret me_non))))) hm b
abbrev s_is_row : Stmt := topS 3
theorem sc_is_row : FnScope ["value", "size"] ["value", "size"] (defScope s_is_row) := ⟨rfl, rfl, rfl, by decide +kernel, rfl, by decide +kernel, by decide +kernel⟩
theorem ok_is_row (T : Facts K mg) (XF : FactsX P w K mg base G) (hK : G.K = K) {fa : Addr} {fd : FuncData} (F : Fun K "is_row" "is_row" s_is_row fa fd) (hm : mg "is_row" = some (.ref fa)) (b : Binds K fd ["value", "size"] [])  : MCal P w K mg base G 1 "is_row" 2 dn_is_row := by
  have sc := sc_is_row
  exact cal_M F (fn_M (k := 0) F sc rfl (by decide) fun cdv A outer sh H E hr tk hp =>
      (mss_one (ms_ret (me_and (me_isi hK T.n_isinstance (by decide +kernel) T.n_tuple (mv_of (me_var 0 (pv 0)))) (me_one (me_cmp (op_eqD (hu64 hr)) (sim_eq hK) (me_bi1 (cr_lenM) (sim_len hK) (by decide +kernel) T.n_len (mv_of (me_var 0 (pv 0)))) (mv_of (me_var 1 (pv 1))) (nomark _))))))) hm b
abbrev s_is_whole : Stmt := topS 1
theorem sc_is_whole : FnScope ["value"] ["value"] (defScope s_is_whole) := ⟨rfl, rfl, rfl, by decide +kernel, rfl, by decide +kernel, by decide +kernel⟩
theorem ok_is_whole (T : Facts K mg) (XF : FactsX P w K mg base G) (hK : G.K = K) {fa : Addr} {fd : FuncData} (F : Fun K "is_whole" "is_whole" s_is_whole fa fd) (hm : mg "is_whole" = some (.ref fa)) (b : Binds K fd ["value"] [])  : MCal P w K mg base G 1 "is_whole" 1 dn_is_whole := by
  have sc := sc_is_whole
  exact cal_M F (fn_M (k := 0) F sc rfl (by decide) fun cdv A outer sh H E hr tk hp =>
      (mss_one (ms_ret (me_and (me_isi hK T.n_isinstance (by decide +kernel) T.n_int (mv_of (me_var 0 (pv 0)))) (me_one (me_not (me_isi hK T.n_isinstance (by decide +kernel) T.n_bool (mv_of (me_var 0 (pv 0)))))))))) hm b
abbrev s_is_within : Stmt := topS 2
theorem sc_is_within : FnScope ["value", "least", "most"] ["value", "least", "most"] (defScope s_is_within) := ⟨rfl, rfl, rfl, by decide +kernel, rfl, by decide +kernel, by decide +kernel⟩
theorem ok_is_within (T : Facts K mg) (XF : FactsX P w K mg base G) (hK : G.K = K) {fa : Addr} {fd : FuncData} (F : Fun K "is_within" "is_within" s_is_within fa fd) (hm : mg "is_within" = some (.ref fa)) (b : Binds K fd ["value", "least", "most"] []) (c_is_whole : MCal P w K mg base G 1 "is_whole" 1 dn_is_whole) : MCal P w K mg base G 2 "is_within" 3 dn_is_within := by
  have sc := sc_is_within
  exact cal_M F (fn_M (k := 1) F sc rfl (by decide) fun cdv A outer sh H E hr tk hp =>
      (mss_one (ms_ret (me_and (me_call c_is_whole (hr.mono (by omega)) tk (ma_cons (me_var 0 (pv 0)) ma_nil)) (me_one (me_chain op_le op_le sim_le sim_le (me_var 1 (pv 1)) (me_var 0 (pv 0)) (me_var 2 (pv 2)))))))) hm b
abbrev s_is_times_row : Stmt := topS 31
theorem sc_is_times_row : FnScope ["row", "size", "place", "one"] ["row", "size", "place"] (defScope s_is_times_row) := ⟨rfl, rfl, rfl, by decide +kernel, rfl, by decide +kernel, by decide +kernel⟩
theorem ok_is_times_row (T : Facts K mg) (XF : FactsX P w K mg base G) (hK : G.K = K) {fa : Addr} {fd : FuncData} (F : Fun K "is_times_row" "is_times_row" s_is_times_row fa fd) (hm : mg "is_times_row" = some (.ref fa)) (b : Binds K fd ["row", "size", "place"] []) (c_is_row : MCal P w K mg base G 1 "is_row" 2 dn_is_row) (c_is_within : MCal P w K mg base G 2 "is_within" 3 dn_is_within) : MCal P w K mg base G 3 "is_times_row" 3 dn_is_times_row := by
  obtain ⟨_, g_MOST_TIME⟩ := T.g_MOST_TIME
  have sc := sc_is_times_row
  exact cal_M F (fn_M (k := 2) F sc rfl (by decide) fun cdv A outer sh H E hr tk hp =>
      (mss_one (ms_ret (me_and (me_call c_is_row (hr.mono (by omega)) tk (ma_cons (me_var 0 (pv 0)) (ma_cons (me_var 1 (pv 1)) ma_nil))) (me_and (me_bi1 (cr_all rfl) sim_all (by decide +kernel) T.n_all (mv_of (me_own (mn_comp (own := [("one", 3)]) rfl sc.nd (mi_seq hK (me_var 0 (pv 0))) (blkOk_by (by kernel_rfl)) (gsim_name 3) (fun _ _ _ _ _ => (pg_name (i := 3) sc.nd rfl (by first | exact .inl rfl | exact .inr rfl))) (fun _ _ _ _ _ => mts_nil) (fun _ _ _ _ _ => (me_call c_is_within (hr.mono (by omega)) takes0N (ma_cons (me_var 3 (pv 3)) (ma_cons me_int (ma_cons (me_gint g_MOST_TIME) ma_nil))))))))) (me_one (me_cmp (op_eqD (hu64 hr)) (sim_eq hK) (me_ix ix_seq (sim_ix hK) (me_var 0 (pv 0)) (mv_of (me_var 2 (pv 2))) (fun _ _ => rfl)) (mv_of me_int) (nomark _)))))))) hm b
abbrev s_wrong_place : Stmt := topS 33
theorem sc_wrong_place : FnScope ["times", "place", "row"] ["times"] (defScope s_wrong_place) := ⟨rfl, rfl, rfl, by decide +kernel, rfl, by decide +kernel, by decide +kernel⟩
theorem ok_wrong_place (T : Facts K mg) (XF : FactsX P w K mg base G) (hK : G.K = K) {fa : Addr} {fd : FuncData} (F : Fun K "wrong_place" "wrong_place" s_wrong_place fa fd) (hm : mg "wrong_place" = some (.ref fa)) (b : Binds K fd ["times"] []) (c_first_long : MCal P w K mg base G 1 "first_long" 1 dn_first_long) (c_is_times_row : MCal P w K mg base G 3 "is_times_row" 3 dn_is_times_row) : MCal P w K mg base G 4 "wrong_place" 1 dn_wrong_place := by
  obtain ⟨_, g_MOST_HOUSES⟩ := T.g_MOST_HOUSES
  have sc := sc_wrong_place
  exact cal_M F (fn_M (k := 3) F sc rfl (by decide) fun cdv A outer sh H E hr tk hp =>
      (mss_cons (ms_if (mt_w (mw_or (mt_not (mt_val (me_isi hK T.n_isinstance (by decide +kernel) T.n_tuple (mv_of (me_var 0 (pv 0)))))) (mw_or1 (mt_not (mt_chain op_le op_le sim_le sim_le me_int (me_bi1 (cr_lenM) (sim_len hK) (by decide +kernel) T.n_len (mv_of (me_var 0 (pv 0)))) (me_gint g_MOST_HOUSES)))))) (mss_one (ms_ret (me_un un_neg sim_neg (mv_of me_int)))) mss_nil)
      (mss_cons (ms_for (vs := [1, 2]) hp rfl (mi_enum hK T.n_enumerate (me_var 0 (pv 0))) (mg_tup hK rfl (mgs_cons (mg_name 1 sc.nd) (mgs_cons (mg_name 2 sc.nd) mgs_nil))) (mss_one (ms_if (mt_not (mt_val (me_call c_is_times_row (hr.mono (by omega)) tk (ma_cons (me_var 2 (pv 2)) (ma_cons (me_bi1 (cr_lenM) (sim_len hK) (by decide +kernel) T.n_len (mv_of (me_var 0 (pv 0)))) (ma_cons (me_var 1 (pv 1)) ma_nil)))))) (mss_one (ms_ret (me_var 1 (pv 1)))) mss_nil)))
      (mss_one (ms_ret (me_call c_first_long (hr.mono (by omega)) tk (ma_cons (me_var 0 (pv 0)) ma_nil))))))) hm b
abbrev s_are_times : Stmt := topS 35
theorem sc_are_times : FnScope ["value"] ["value"] (defScope s_are_times) := ⟨rfl, rfl, rfl, by decide +kernel, rfl, by decide +kernel, by decide +kernel⟩
theorem ok_are_times (T : Facts K mg) (XF : FactsX P w K mg base G) (hK : G.K = K) {fa : Addr} {fd : FuncData} (F : Fun K "are_times" "are_times" s_are_times fa fd) (hm : mg "are_times" = some (.ref fa)) (b : Binds K fd ["value"] []) (c_wrong_place : MCal P w K mg base G 4 "wrong_place" 1 dn_wrong_place) : MCal P w K mg base G 5 "are_times" 1 dn_are_times := by
  have sc := sc_are_times
  exact cal_M F (fn_M (k := 4) F sc rfl (by decide) fun cdv A outer sh H E hr tk hp =>
      (mss_one (ms_ret (me_cmp op_isM sim_is (me_call c_wrong_place (hr.mono (by omega)) tk (ma_cons (me_var 0 (pv 0)) ma_nil)) (mv_of me_non) (nomark _))))) hm b
abbrev s__law_refusal : Stmt := topS 61
theorem sc__law_refusal : FnScope ["e", "names", "marks", "name"] ["e"] (defScope s__law_refusal) := ⟨rfl, rfl, rfl, by decide +kernel, rfl, by decide +kernel, by decide +kernel⟩
theorem ok__law_refusal (T : Facts K mg) (XF : FactsX P w K mg base G) (hK : G.K = K) {fa : Addr} {fd : FuncData} (F : Fun K "_law_refusal" "_law_refusal" s__law_refusal fa fd) : FnHE P w K mg base (L2N.CX P w) 1 fa fd ["e"] (spMX G dn__law_refusal) := by
  obtain ⟨C_NothingDone, m_NothingDone, k_NothingDone⟩ := XF.i_NothingDone
  obtain ⟨C_BadClaim, m_BadClaim, k_BadClaim⟩ := XF.i_BadClaim
  obtain ⟨C_NotAgreed, m_NotAgreed, k_NotAgreed⟩ := XF.i_NotAgreed
  obtain ⟨C_NotPossible, m_NotPossible, k_NotPossible⟩ := XF.i_NotPossible
  obtain ⟨C_BadLine, m_BadLine, k_BadLine⟩ := XF.i_BadLine
  obtain ⟨C_BadText, m_BadText, k_BadText⟩ := XF.i_BadText
  obtain ⟨C_BadSigns, m_BadSigns, k_BadSigns⟩ := XF.i_BadSigns
  obtain ⟨C_BadSuspects, m_BadSuspects, k_BadSuspects⟩ := XF.i_BadSuspects
  obtain ⟨C_BadMoves, m_BadMoves, k_BadMoves⟩ := XF.i_BadMoves
  obtain ⟨C_BadCounts, m_BadCounts, k_BadCounts⟩ := XF.i_BadCounts
  obtain ⟨C_BadRows, m_BadRows, k_BadRows⟩ := XF.i_BadRows
  obtain ⟨C_BadNeeds, m_BadNeeds, k_BadNeeds⟩ := XF.i_BadNeeds
  obtain ⟨C_BadTimes, m_BadTimes, k_BadTimes⟩ := XF.i_BadTimes
  obtain ⟨C_BadCourse, m_BadCourse, k_BadCourse⟩ := XF.i_BadCourse
  obtain ⟨C_TooMany, m_TooMany, k_TooMany⟩ := XF.i_TooMany
  obtain ⟨C_UnknownHouse, m_UnknownHouse, k_UnknownHouse⟩ := XF.i_UnknownHouse
  obtain ⟨C_UnknownKind, m_UnknownKind, k_UnknownKind⟩ := XF.i_UnknownKind
  obtain ⟨C_BadOrder, m_BadOrder, k_BadOrder⟩ := XF.i_BadOrder
  obtain ⟨C_BadNumber, m_BadNumber, k_BadNumber⟩ := XF.i_BadNumber
  obtain ⟨C_BadPlan, m_BadPlan, k_BadPlan⟩ := XF.i_BadPlan
  have k_ValueError := XF.i_ValueError
  have sc := sc__law_refusal
  exact fn_MH (k := 0) F sc rfl (by decide) fun cdv A outer sh H E p C hr tk hp hx =>
      (mss_cons (ms_set 1 sc.nd (me_lst (ma_cons me_str (ma_cons me_str (ma_cons me_str (ma_cons me_str (ma_cons me_str (ma_cons me_str (ma_cons me_str (ma_cons me_str (ma_cons me_str (ma_cons me_str (ma_cons me_str (ma_cons me_str (ma_cons me_str (ma_cons me_str (ma_cons me_str (ma_cons me_str (ma_cons me_str (ma_cons me_str (ma_cons me_str (ma_cons me_str ma_nil))))))))))))))))))))))
      (mss_cons (ms_set 2 sc.nd (me_lst (ma_cons (me_isx1 (v := V.ref C_BadPlan) 0 hx ⟨XF.xc.exc, XF.xc.fld⟩ k_BadPlan (fun _ r => r) T.n_isinstance (pv 0) (pe_glob (v := V.ref C_BadPlan) rfl m_BadPlan rfl)) (ma_cons (me_isx1 (v := V.ref C_BadNumber) 0 hx ⟨XF.xc.exc, XF.xc.fld⟩ k_BadNumber (fun _ r => r) T.n_isinstance (pv 0) (pe_glob (v := V.ref C_BadNumber) rfl m_BadNumber rfl)) (ma_cons (me_isx1 (v := V.ref C_BadOrder) 0 hx ⟨XF.xc.exc, XF.xc.fld⟩ k_BadOrder (fun _ r => r) T.n_isinstance (pv 0) (pe_glob (v := V.ref C_BadOrder) rfl m_BadOrder rfl)) (ma_cons (me_isx1 (v := V.ref C_UnknownKind) 0 hx ⟨XF.xc.exc, XF.xc.fld⟩ k_UnknownKind (fun _ r => r) T.n_isinstance (pv 0) (pe_glob (v := V.ref C_UnknownKind) rfl m_UnknownKind rfl)) (ma_cons (me_isx1 (v := V.ref C_UnknownHouse) 0 hx ⟨XF.xc.exc, XF.xc.fld⟩ k_UnknownHouse (fun _ r => r) T.n_isinstance (pv 0) (pe_glob (v := V.ref C_UnknownHouse) rfl m_UnknownHouse rfl)) (ma_cons (me_isx1 (v := V.ref C_TooMany) 0 hx ⟨XF.xc.exc, XF.xc.fld⟩ k_TooMany (fun _ r => r) T.n_isinstance (pv 0) (pe_glob (v := V.ref C_TooMany) rfl m_TooMany rfl)) (ma_cons (me_isx1 (v := V.ref C_BadCourse) 0 hx ⟨XF.xc.exc, XF.xc.fld⟩ k_BadCourse (fun _ r => r) T.n_isinstance (pv 0) (pe_glob (v := V.ref C_BadCourse) rfl m_BadCourse rfl)) (ma_cons (me_isx1 (v := V.ref C_BadTimes) 0 hx ⟨XF.xc.exc, XF.xc.fld⟩ k_BadTimes (fun _ r => r) T.n_isinstance (pv 0) (pe_glob (v := V.ref C_BadTimes) rfl m_BadTimes rfl)) (ma_cons (me_isx1 (v := V.ref C_BadNeeds) 0 hx ⟨XF.xc.exc, XF.xc.fld⟩ k_BadNeeds (fun _ r => r) T.n_isinstance (pv 0) (pe_glob (v := V.ref C_BadNeeds) rfl m_BadNeeds rfl)) (ma_cons (me_isx1 (v := V.ref C_BadRows) 0 hx ⟨XF.xc.exc, XF.xc.fld⟩ k_BadRows (fun _ r => r) T.n_isinstance (pv 0) (pe_glob (v := V.ref C_BadRows) rfl m_BadRows rfl)) (ma_cons (me_isx1 (v := V.ref C_BadCounts) 0 hx ⟨XF.xc.exc, XF.xc.fld⟩ k_BadCounts (fun _ r => r) T.n_isinstance (pv 0) (pe_glob (v := V.ref C_BadCounts) rfl m_BadCounts rfl)) (ma_cons (me_isx1 (v := V.ref C_BadMoves) 0 hx ⟨XF.xc.exc, XF.xc.fld⟩ k_BadMoves (fun _ r => r) T.n_isinstance (pv 0) (pe_glob (v := V.ref C_BadMoves) rfl m_BadMoves rfl)) (ma_cons (me_isx1 (v := V.ref C_BadSuspects) 0 hx ⟨XF.xc.exc, XF.xc.fld⟩ k_BadSuspects (fun _ r => r) T.n_isinstance (pv 0) (pe_glob (v := V.ref C_BadSuspects) rfl m_BadSuspects rfl)) (ma_cons (me_isx1 (v := V.ref C_BadSigns) 0 hx ⟨XF.xc.exc, XF.xc.fld⟩ k_BadSigns (fun _ r => r) T.n_isinstance (pv 0) (pe_glob (v := V.ref C_BadSigns) rfl m_BadSigns rfl)) (ma_cons (me_isx1 (v := V.ref C_BadText) 0 hx ⟨XF.xc.exc, XF.xc.fld⟩ k_BadText (fun _ r => r) T.n_isinstance (pv 0) (pe_glob (v := V.ref C_BadText) rfl m_BadText rfl)) (ma_cons (me_isx1 (v := V.ref C_BadLine) 0 hx ⟨XF.xc.exc, XF.xc.fld⟩ k_BadLine (fun _ r => r) T.n_isinstance (pv 0) (pe_glob (v := V.ref C_BadLine) rfl m_BadLine rfl)) (ma_cons (me_isx1 (v := V.ref C_NotPossible) 0 hx ⟨XF.xc.exc, XF.xc.fld⟩ k_NotPossible (fun _ r => r) T.n_isinstance (pv 0) (pe_glob (v := V.ref C_NotPossible) rfl m_NotPossible rfl)) (ma_cons (me_isx1 (v := V.ref C_NotAgreed) 0 hx ⟨XF.xc.exc, XF.xc.fld⟩ k_NotAgreed (fun _ r => r) T.n_isinstance (pv 0) (pe_glob (v := V.ref C_NotAgreed) rfl m_NotAgreed rfl)) (ma_cons (me_isx1 (v := V.ref C_BadClaim) 0 hx ⟨XF.xc.exc, XF.xc.fld⟩ k_BadClaim (fun _ r => r) T.n_isinstance (pv 0) (pe_glob (v := V.ref C_BadClaim) rfl m_BadClaim rfl)) (ma_cons (me_isx1 (v := V.ref C_NothingDone) 0 hx ⟨XF.xc.exc, XF.xc.fld⟩ k_NothingDone (fun _ r => r) T.n_isinstance (pv 0) (pe_glob (v := V.ref C_NothingDone) rfl m_NothingDone rfl)) ma_nil))))))))))))))))))))))
      (mss_cons (ms_if (mt_w (mw_or (mt_cmp (op_neD (hu64H hr)) (sim_ne hK) (me_lm PySem.F.slot_list_count PySem.F.type_list_count (mt_countD (hu65H hr)) (sm_count hK) (me_var 2 (pv 2)) me_bl) (mv_of me_int) (nomark _)) (mw_or1 (mt_not (mt_val (me_isx1 (v := V.ty "ValueError") 0 hx ⟨XF.xc.exc, XF.xc.fld⟩ k_ValueError (fun _ r => r) T.n_isinstance (pv 0) (pe_bltn (v := .ty "ValueError") rfl T.n_ValueError (by decide +kernel) rfl))))))) (mss_one (ms_ret (me_tup (ma_cons me_str ma_nil)))) mss_nil)
      (mss_cons (ms_set 3 sc.nd (me_ix ix_seq (sim_ix hK) (me_var 1 (pv 1)) (mv_of (me_lm PySem.F.slot_list_index PySem.F.type_list_index (mt_indexD (hu65H hr)) (sm_index hK) (me_var 2 (pv 2)) me_bl)) (fun _ _ => rfl)))
      (mss_cons (ms_if (mt_cmp (op_eqD (hu64H hr)) (sim_eq hK) (me_var 3 (pv 3)) (mv_of me_str) (nomark _)) (mss_one (ms_ret (me_tup (ma_cons (me_var 3 (pv 3)) (ma_cons (me_xf 0 hx ⟨XF.xc.exc, XF.xc.fld⟩ XF.f_part (pv 0)) (ma_cons (me_xf 0 hx ⟨XF.xc.exc, XF.xc.fld⟩ XF.f_place (pv 0)) ma_nil)))))) mss_nil)
      (mss_cons (ms_if (mt_cmp (op_inM (hu65H hr)) (sim_in hK) (me_var 3 (pv 3)) (mv_of (me_tup (ma_cons me_str (ma_cons me_str ma_nil)))) (by rfl)) (mss_one (ms_ret (me_tup (ma_cons (me_var 3 (pv 3)) (ma_cons (me_xf 0 hx ⟨XF.xc.exc, XF.xc.fld⟩ XF.f_value (pv 0)) ma_nil))))) mss_nil)
      (mss_cons (ms_if (mt_cmp (op_inM (hu65H hr)) (sim_in hK) (me_var 3 (pv 3)) (mv_of (me_tup (ma_cons me_str (ma_cons me_str ma_nil)))) (by rfl)) (mss_one (ms_ret (me_tup (ma_cons (me_var 3 (pv 3)) (ma_cons (me_xf 0 hx ⟨XF.xc.exc, XF.xc.fld⟩ XF.f_name (pv 0)) ma_nil))))) mss_nil)
      (mss_cons (ms_if (mt_cmp (op_eqD (hu64H hr)) (sim_eq hK) (me_var 3 (pv 3)) (mv_of me_str) (nomark _)) (mss_one (ms_ret (me_tup (ma_cons (me_var 3 (pv 3)) (ma_cons (me_xf 0 hx ⟨XF.xc.exc, XF.xc.fld⟩ XF.f_limit (pv 0)) ma_nil))))) mss_nil)
      (mss_cons (ms_if (mt_cmp (op_inM (hu65H hr)) (sim_in hK) (me_var 3 (pv 3)) (mv_of (me_tup (ma_cons me_str (ma_cons me_str ma_nil)))) (by rfl)) (mss_one (ms_ret (me_tup (ma_cons (me_var 3 (pv 3)) (ma_cons (me_xf 0 hx ⟨XF.xc.exc, XF.xc.fld⟩ XF.f_line (pv 0)) ma_nil))))) mss_nil)
      (mss_cons (ms_if (mt_cmp (op_inM (hu65H hr)) (sim_in hK) (me_var 3 (pv 3)) (mv_of (me_tup (ma_cons me_str (ma_cons me_str (ma_cons me_str (ma_cons me_str ma_nil)))))) (by rfl)) (mss_one (ms_ret (me_tup (ma_cons (me_var 3 (pv 3)) ma_nil)))) mss_nil)
      (mss_one (ms_ret (me_tup (ma_cons (me_var 3 (pv 3)) (ma_cons (me_xf 0 hx ⟨XF.xc.exc, XF.xc.fld⟩ XF.f_place (pv 0)) ma_nil)))))))))))))))
abbrev s__law_told : Stmt := topS 62
theorem sc__law_told : FnScope ["call", "e"] ["call"] (defScope s__law_told) := ⟨rfl, rfl, rfl, by decide +kernel, rfl, by decide +kernel, by decide +kernel⟩
theorem ok__law_told {fa fr CE : Addr} {fd fdr : FuncData} (F : Fun K "_law_told" "_law_told" s__law_told fa fd) (hm : mg "_law_told" = some (.ref fa)) (b : Binds K fd ["call"] []) (Fr : Fun K "_law_refusal" "_law_refusal" s__law_refusal fr fdr) (hmr : mg "_law_refusal" = some (.ref fr)) (br : Binds K fdr ["e"] []) (R : FnHE P w K mg base (L2N.CX P w) 1 fr fdr ["e"] (spMX G dn__law_refusal)) (hmc : mg "CrateError" = some (.ref CE))
    (he : ∀ c C b, G.cls c = some C → (fun _ => some true : Str → Option Bool) c = some b → PySem.W.exmOne K (.ref C) (.ref CE) = some b) : MTold P w K mg base G 8 "_law_told" "told" (fun _ => some true) dn__law_refusal :=
  told_mk F hm rfl b (by exact sc__law_told) (.inl rfl) rfl rfl rfl hmc hmr Fr.kp br (R.mono (by omega)) he
abbrev s__law_same : Stmt := topS 59
theorem sc__law_same : FnScope ["found", "due"] ["found", "due"] (defScope s__law_same) := ⟨rfl, rfl, rfl, by decide +kernel, rfl, by decide +kernel, by decide +kernel⟩
theorem ok__law_same (T : Facts K mg) (XF : FactsX P w K mg base G) (hK : G.K = K) {fa : Addr} {fd : FuncData} (F : Fun K "_law_same" "_law_same" s__law_same fa fd) (hm : mg "_law_same" = some (.ref fa)) (b : Binds K fd ["found", "due"] [])  : MCalG P w K mg base G 1 "_law_same" 2 dn__law_same := by
  have sc := sc__law_same
  exact cal_MG F (fn_MG (k := 0) F sc rfl (by decide) fun cdv A outer sh H E hr hgd tk hp =>
      (mss_one (ms_ret (me_cmp op_eq sim_eqS (me_bi1 ((call_reprD hgd (hu65 hr))) (sim_repr hK) (by decide +kernel) T.n_repr (mv_of (me_var 0 (pv 0)))) (mv_of (me_bi1 ((call_reprD hgd (hu65 hr))) (sim_repr hK) (by decide +kernel) T.n_repr (mv_of (me_var 1 (pv 1))))) (nomark _))))) hm b
abbrev s__law_odd : Stmt := topS 60
theorem sc__law_odd : FnScope ["row", "odd"] ["row"] (defScope s__law_odd) := ⟨rfl, rfl, rfl, by decide +kernel, rfl, by decide +kernel, by decide +kernel⟩
theorem ok__law_odd (T : Facts K mg) (XF : FactsX P w K mg base G) (hK : G.K = K) {fa : Addr} {fd : FuncData} (F : Fun K "_law_odd" "_law_odd" s__law_odd fa fd) (hm : mg "_law_odd" = some (.ref fa)) (b : Binds K fd ["row"] []) (c__law_pick : MCal P w K mg base G 2 "_law_pick" 2 dn__law_pick) : MCal P w K mg base G 3 "_law_odd" 1 dn__law_odd := by
  have sc := sc__law_odd
  exact cal_M F (fn_M (k := 2) F sc rfl (by decide) fun cdv A outer sh H E hr tk hp =>
      (mss_cons (ms_set 1 sc.nd (me_lst (ma_cons me_non (ma_cons me_bl (ma_cons me_bl (ma_cons (me_un un_neg sim_neg (mv_of me_int)) (ma_cons (me_bin op_pow sim_pow me_int (mv_of me_int)) (ma_cons me_str (ma_cons me_str (ma_cons me_str (ma_cons me_str (ma_cons (me_lst ma_nil) (ma_cons (me_lst (ma_cons me_int ma_nil)) (ma_cons me_dic0 (ma_cons me_dic1 (ma_cons me_str (ma_cons me_int (ma_cons me_str ma_nil))))))))))))))))))
      (mss_one (ms_ret (me_callS c__law_pick (hr.mono (by omega)) tk (mas_ref (pv 0) (mas_val (me_var 1 (pv 1)) mas_nil))))))) hm b
abbrev s_shortest : Stmt := topS 36
theorem sc_shortest : FnScope ["rows", "found", "spots", "middle", "place", "row", "one", "other"] ["rows"] (defScope s_shortest) := ⟨rfl, rfl, rfl, by decide +kernel, rfl, by decide +kernel, by decide +kernel⟩
theorem ok_shortest (T : Facts K mg) (XF : FactsX P w K mg base G) (hK : G.K = K) {fa : Addr} {fd : FuncData} (F : Fun K "shortest" "shortest" s_shortest fa fd) (hm : mg "shortest" = some (.ref fa)) (b : Binds K fd ["rows"] []) (c_is_times_row : MCal P w K mg base G 3 "is_times_row" 3 dn_is_times_row) : MCal P w K mg base G 4 "shortest" 1 dn_shortest := by
  obtain ⟨_, g_MOST_HOUSES⟩ := T.g_MOST_HOUSES
  have sc := sc_shortest
  exact cal_M F (fn_M (k := 3) F sc rfl (by decide) fun cdv A outer sh H E hr tk hp =>
      (mss_cons (ms_if (mt_w (mw_or (mt_not (mt_val (me_isi hK T.n_isinstance (by decide +kernel) T.n_tuple (mv_of (me_var 0 (pv 0)))))) (mw_or1 (mt_not (mt_chain op_le op_le sim_le sim_le me_int (me_bi1 (cr_lenM) (sim_len hK) (by decide +kernel) T.n_len (mv_of (me_var 0 (pv 0)))) (me_gint g_MOST_HOUSES)))))) (mss_one (ms_raise rfl XF.r_BadTimes (hr.mono (by omega)) tk (ma_cons me_non ma_nil))) mss_nil)
      (mss_cons (ms_for (vs := [4, 5]) hp rfl (mi_enum hK T.n_enumerate (me_var 0 (pv 0))) (mg_tup hK rfl (mgs_cons (mg_name 4 sc.nd) (mgs_cons (mg_name 5 sc.nd) mgs_nil))) (mss_one (ms_if (mt_not (mt_val (me_call c_is_times_row (hr.mono (by omega)) tk (ma_cons (me_var 5 (pv 5)) (ma_cons (me_bi1 (cr_lenM) (sim_len hK) (by decide +kernel) T.n_len (mv_of (me_var 0 (pv 0)))) (ma_cons (me_var 4 (pv 4)) ma_nil)))))) (mss_one (ms_raise rfl XF.r_BadTimes (hr.mono (by omega)) tk (ma_cons (me_var 4 (pv 4)) ma_nil))) mss_nil)))
      (mss_cons (ms_newCompN (own := [("row", 5)]) 1 rfl sc.nd (mi_seq hK (me_var 0 (pv 0))) (blkOk_by (by kernel_rfl)) (gsim_name 5) (fun _ _ _ _ _ => (pg_name (i := 5) sc.nd rfl (by first | exact .inl rfl | exact .inr rfl))) (fun _ _ _ _ _ => mts_nil) (fun _ _ _ _ _ => (mn_list hK T.n_list (mv_of (me_var 5 (pv 5))))) (sw_true rfl rfl rfl (by kernel_rfl)))
      (mss_cons (ms_set 2 sc.nd (me_own (mn_listRg rfl T.n_list T.n_range (me_bi1 (cr_lenM) (sim_len hK) (by decide +kernel) T.n_len (mv_of (me_var 0 (pv 0)))))))
      (mss_cons (ms_for (vs := [3]) hp rfl (mi_seq hK (me_var 2 (pv 2))) (mg_name 3 sc.nd) (mss_one (ms_for (vs := [6]) hp rfl (mi_seq hK (me_var 2 (pv 2))) (mg_name 6 sc.nd) (mss_one (ms_for (vs := [7]) hp rfl (mi_seq hK (me_var 2 (pv 2))) (mg_name 7 sc.nd) (mss_one (ms_setix2 (pv 1) (me_var 6 (pv 6)) (me_var 7 (pv 7)) (me_biN (call_min2 rfl) sim_min2 (by decide +kernel) T.n_min (ma_cons (me_ix2 (pv 1) (me_var 6 (pv 6)) (me_var 7 (pv 7)) (fun _ _ => rfl) (fun _ _ => rfl)) (ma_cons (me_bin op_addM (sim_add hK) (me_ix2 (pv 1) (me_var 6 (pv 6)) (me_var 3 (pv 3)) (fun _ _ => rfl) (fun _ _ => rfl)) (mv_of (me_ix2 (pv 1) (me_var 3 (pv 3)) (me_var 7 (pv 7)) (fun _ _ => rfl) (fun _ _ => rfl)))) ma_nil))) (fun _ _ => rfl))))))))
      (mss_one (ms_ret (me_ty1 (call_tuple_of) (sim_tuple hK) (by decide +kernel) T.n_tuple (mv_of (me_own (mn_comp (own := [("row", 5)]) rfl sc.nd (mi_seq hK (me_varR 1 (pv 1))) (blkOk_by (by kernel_rfl)) (gsim_name 5) (fun _ _ _ _ _ => (pg_name (i := 5) sc.nd rfl (by first | exact .inl rfl | exact .inr rfl))) (fun _ _ _ _ _ => mts_nil) (fun _ _ _ _ _ => (me_ty1 (call_tuple_of) (sim_tuple hK) (by decide +kernel) T.n_tuple (mv_of (me_var 5 (pv 5))))))))))))))))) hm b
abbrev s_place_told : Stmt := topS 5
theorem sc_place_told : FnScope ["place"] ["place"] (defScope s_place_told) := ⟨rfl, rfl, rfl, by decide +kernel, rfl, by decide +kernel, by decide +kernel⟩
theorem ok_place_told (T : Facts K mg) (XF : FactsX P w K mg base G) (hK : G.K = K) {fa : Addr} {fd : FuncData} (F : Fun K "place_told" "place_told" s_place_told fa fd) (hm : mg "place_told" = some (.ref fa)) (b : Binds K fd ["place"] [])  : MCal P w K mg base G 1 "place_told" 1 dn_place_told := by
  have sc := sc_place_told
  exact cal_M F (fn_M (k := 0) F sc rfl (by decide) fun cdv A outer sh H E hr tk hp =>
      (mss_one (ms_ret (me_if (mt_cmp (op_eqD (hu64 hr)) (sim_eq hK) (me_var 0 (pv 0)) (mv_of (me_un un_neg sim_neg (mv_of me_int))) (nomark _)) me_non (me_var 0 (pv 0)))))) hm b
abbrev s_require_times : Stmt := topS 34
theorem sc_require_times : FnScope ["times", "place"] ["times"] (defScope s_require_times) := ⟨rfl, rfl, rfl, by decide +kernel, rfl, by decide +kernel, by decide +kernel⟩
theorem ok_require_times (T : Facts K mg) (XF : FactsX P w K mg base G) (hK : G.K = K) {fa : Addr} {fd : FuncData} (F : Fun K "require_times" "require_times" s_require_times fa fd) (hm : mg "require_times" = some (.ref fa)) (b : Binds K fd ["times"] []) (c_wrong_place : MCal P w K mg base G 4 "wrong_place" 1 dn_wrong_place) (c_place_told : MCal P w K mg base G 1 "place_told" 1 dn_place_told) : MCal P w K mg base G 5 "require_times" 1 dn_require_times := by
  have sc := sc_require_times
  exact cal_M F (fn_M (k := 4) F sc rfl (by decide) fun cdv A outer sh H E hr tk hp =>
      (mss_cons (ms_set 1 sc.nd (me_call c_wrong_place (hr.mono (by omega)) tk (ma_cons (me_var 0 (pv 0)) ma_nil)))
      (mss_one (ms_if (mt_cmp op_isNotM sim_isNot (me_var 1 (pv 1)) (mv_of me_non) (nomark _)) (mss_one (ms_raise rfl XF.r_BadTimes (hr.mono (by omega)) tk (ma_cons (me_call c_place_told (hr.mono (by omega)) tk (ma_cons (me_var 1 (pv 1)) ma_nil)) ma_nil))) mss_nil)))) hm b
abbrev s_require_needs : Stmt := topS 41
theorem sc_require_needs : FnScope ["times", "needs", "judge", "place"] ["times", "needs"] (defScope s_require_needs) := ⟨rfl, rfl, rfl, by decide +kernel, rfl, by decide +kernel, by decide +kernel⟩
theorem ok_require_needs (T : Facts K mg) (XF : FactsX P w K mg base G) (hK : G.K = K) {fa : Addr} {fd : FuncData} (F : Fun K "require_needs" "require_needs" s_require_needs fa fd) (hm : mg "require_needs" = some (.ref fa)) (b : Binds K fd ["times", "needs"] []) (c_require_times : MCal P w K mg base G 5 "require_times" 1 dn_require_times) : MCal P w K mg base G 6 "require_needs" 2 dn_require_needs := by
  have sc := sc_require_needs
  exact cal_M F (fn_M (k := 5) F sc rfl (by decide) fun cdv A outer sh H E hr tk hp =>
      (mss_cons (ms_expr (me_call c_require_times (hr.mono (by omega)) tk (ma_cons (me_var 0 (pv 0)) ma_nil)))
      mss_never)) hm b
abbrev s_fleet : Stmt := topS 47
theorem sc_fleet : FnScope ["times", "needs", "found", "rows", "place", "row"] ["times", "needs"] (defScope s_fleet) := ⟨rfl, rfl, rfl, by decide +kernel, rfl, by decide +kernel, by decide +kernel⟩
theorem ok_fleet (T : Facts K mg) (XF : FactsX P w K mg base G) (hK : G.K = K) {fa : Addr} {fd : FuncData} (F : Fun K "fleet" "fleet" s_fleet fa fd) (hm : mg "fleet" = some (.ref fa)) (b : Binds K fd ["times", "needs"] []) (c_require_needs : MCal P w K mg base G 6 "require_needs" 2 dn_require_needs) : MCal P w K mg base G 7 "fleet" 2 dn_fleet := by
  have sc := sc_fleet
  exact cal_M F (fn_M (k := 6) F sc rfl (by decide) fun cdv A outer sh H E hr tk hp =>
      (mss_cons (ms_expr (me_call c_require_needs (hr.mono (by omega)) tk (ma_cons (me_var 0 (pv 0)) (ma_cons (me_var 1 (pv 1)) ma_nil))))
      mss_never)) hm b
abbrev s_follows : Stmt := topS 43
theorem sc_follows : FnScope ["times", "needs"] ["times", "needs"] (defScope s_follows) := ⟨rfl, rfl, rfl, by decide +kernel, rfl, by decide +kernel, by decide +kernel⟩
theorem ok_follows (T : Facts K mg) (XF : FactsX P w K mg base G) (hK : G.K = K) {fa : Addr} {fd : FuncData} (F : Fun K "follows" "follows" s_follows fa fd) (hm : mg "follows" = some (.ref fa)) (b : Binds K fd ["times", "needs"] []) (c_require_needs : MCal P w K mg base G 6 "require_needs" 2 dn_require_needs) : MCal P w K mg base G 7 "follows" 2 dn_follows := by
  have sc := sc_follows
  exact cal_M F (fn_M (k := 6) F sc rfl (by decide) fun cdv A outer sh H E hr tk hp =>
      (mss_cons (ms_expr (me_call c_require_needs (hr.mono (by omega)) tk (ma_cons (me_var 0 (pv 0)) (ma_cons (me_var 1 (pv 1)) ma_nil))))
      mss_never)) hm b
abbrev s_least_fleet : Stmt := topS 48
theorem sc_least_fleet : FnScope ["times", "needs"] ["times", "needs"] (defScope s_least_fleet) := ⟨rfl, rfl, rfl, by decide +kernel, rfl, by decide +kernel, by decide +kernel⟩
theorem ok_least_fleet (T : Facts K mg) (XF : FactsX P w K mg base G) (hK : G.K = K) {fa : Addr} {fd : FuncData} (F : Fun K "least_fleet" "least_fleet" s_least_fleet fa fd) (hm : mg "least_fleet" = some (.ref fa)) (b : Binds K fd ["times", "needs"] []) (c_fleet : MCal P w K mg base G 7 "fleet" 2 dn_fleet) : MCal P w K mg base G 8 "least_fleet" 2 dn_least_fleet := by
  have sc := sc_least_fleet
  exact cal_M F (fn_M (k := 7) F sc rfl (by decide) fun cdv A outer sh H E hr tk hp =>
      (mss_one (ms_ret (me_bi1 (cr_lenM) (sim_len hK) (by decide +kernel) T.n_len (mv_of (me_call c_fleet (hr.mono (by omega)) tk (ma_cons (me_var 0 (pv 0)) (ma_cons (me_var 1 (pv 1)) ma_nil)))))))) hm b
abbrev s_apart : Stmt := topS 49
theorem sc_apart : FnScope ["times", "needs", "first", "second", "place"] ["times", "needs"] (defScope s_apart) := ⟨rfl, rfl, rfl, by decide +kernel, rfl, by decide +kernel, by decide +kernel⟩
theorem ok_apart (T : Facts K mg) (XF : FactsX P w K mg base G) (hK : G.K = K) {fa : Addr} {fd : FuncData} (F : Fun K "apart" "apart" s_apart fa fd) (hm : mg "apart" = some (.ref fa)) (b : Binds K fd ["times", "needs"] []) (c_require_needs : MCal P w K mg base G 6 "require_needs" 2 dn_require_needs) : MCal P w K mg base G 7 "apart" 2 dn_apart := by
  have sc := sc_apart
  exact cal_M F (fn_M (k := 6) F sc rfl (by decide) fun cdv A outer sh H E hr tk hp =>
      (mss_cons (ms_expr (me_call c_require_needs (hr.mono (by omega)) tk (ma_cons (me_var 0 (pv 0)) (ma_cons (me_var 1 (pv 1)) ma_nil))))
      mss_never)) hm b
abbrev s_is_fleet : Stmt := topS 51
theorem sc_is_fleet : FnScope ["times", "needs", "value", "pairs", "row", "pair", "place", "one", "other"] ["times", "needs", "value"] (defScope s_is_fleet) := ⟨rfl, rfl, rfl, by decide +kernel, rfl, by decide +kernel, by decide +kernel⟩
theorem ok_is_fleet (T : Facts K mg) (XF : FactsX P w K mg base G) (hK : G.K = K) {fa : Addr} {fd : FuncData} (F : Fun K "is_fleet" "is_fleet" s_is_fleet fa fd) (hm : mg "is_fleet" = some (.ref fa)) (b : Binds K fd ["times", "needs", "value"] []) (c_require_needs : MCal P w K mg base G 6 "require_needs" 2 dn_require_needs) : MCal P w K mg base G 7 "is_fleet" 3 dn_is_fleet := by
  have sc := sc_is_fleet
  exact cal_M F (fn_M (k := 6) F sc rfl (by decide) fun cdv A outer sh H E hr tk hp =>
      (mss_cons (ms_expr (me_call c_require_needs (hr.mono (by omega)) tk (ma_cons (me_var 0 (pv 0)) (ma_cons (me_var 1 (pv 1)) ma_nil))))
      mss_never)) hm b
abbrev s_are_apart : Stmt := topS 52
theorem sc_are_apart : FnScope ["times", "needs", "value", "pairs", "one", "other"] ["times", "needs", "value"] (defScope s_are_apart) := ⟨rfl, rfl, rfl, by decide +kernel, rfl, by decide +kernel, by decide +kernel⟩
theorem ok_are_apart (T : Facts K mg) (XF : FactsX P w K mg base G) (hK : G.K = K) {fa : Addr} {fd : FuncData} (F : Fun K "are_apart" "are_apart" s_are_apart fa fd) (hm : mg "are_apart" = some (.ref fa)) (b : Binds K fd ["times", "needs", "value"] []) (c_require_needs : MCal P w K mg base G 6 "require_needs" 2 dn_require_needs) : MCal P w K mg base G 7 "are_apart" 3 dn_are_apart := by
  have sc := sc_are_apart
  exact cal_M F (fn_M (k := 6) F sc rfl (by decide) fun cdv A outer sh H E hr tk hp =>
      (mss_cons (ms_expr (me_call c_require_needs (hr.mono (by omega)) tk (ma_cons (me_var 0 (pv 0)) (ma_cons (me_var 1 (pv 1)) ma_nil))))
      mss_never)) hm b
abbrev s_shows_least : Stmt := topS 53
theorem sc_shows_least : FnScope ["times", "needs", "rows", "many"] ["times", "needs", "rows", "many"] (defScope s_shows_least) := ⟨rfl, rfl, rfl, by decide +kernel, rfl, by decide +kernel, by decide +kernel⟩
theorem ok_shows_least (T : Facts K mg) (XF : FactsX P w K mg base G) (hK : G.K = K) {fa : Addr} {fd : FuncData} (F : Fun K "shows_least" "shows_least" s_shows_least fa fd) (hm : mg "shows_least" = some (.ref fa)) (b : Binds K fd ["times", "needs", "rows", "many"] []) (c_is_fleet : MCal P w K mg base G 7 "is_fleet" 3 dn_is_fleet) (c_are_apart : MCal P w K mg base G 7 "are_apart" 3 dn_are_apart) : MCal P w K mg base G 8 "shows_least" 4 dn_shows_least := by
  have sc := sc_shows_least
  exact cal_M F (fn_M (k := 7) F sc rfl (by decide) fun cdv A outer sh H E hr tk hp =>
      (mss_cons (ms_if (mt_w (mw_or (mt_not (mt_val (me_call c_is_fleet (hr.mono (by omega)) tk (ma_cons (me_var 0 (pv 0)) (ma_cons (me_var 1 (pv 1)) (ma_cons (me_var 2 (pv 2)) ma_nil)))))) (mw_or1 (mt_not (mt_val (me_call c_are_apart (hr.mono (by omega)) tk (ma_cons (me_var 0 (pv 0)) (ma_cons (me_var 1 (pv 1)) (ma_cons (me_var 3 (pv 3)) ma_nil))))))))) (mss_one (ms_ret me_bl)) mss_nil)
      (mss_one (ms_ret (me_cmp (op_eqD (hu64 hr)) (sim_eq hK) (me_bi1 (cr_lenM) (sim_len hK) (by decide +kernel) T.n_len (mv_of (me_var 2 (pv 2)))) (mv_of (me_bi1 (cr_lenM) (sim_len hK) (by decide +kernel) T.n_len (mv_of (me_var 3 (pv 3))))) (nomark _)))))) hm b
abbrev s_idle : Stmt := topS 54
theorem sc_idle : FnScope ["times", "needs", "rows", "row", "one", "other"] ["times", "needs", "rows"] (defScope s_idle) := ⟨rfl, rfl, rfl, by decide +kernel, rfl, by decide +kernel, by decide +kernel⟩
theorem ok_idle (T : Facts K mg) (XF : FactsX P w K mg base G) (hK : G.K = K) {fa : Addr} {fd : FuncData} (F : Fun K "idle" "idle" s_idle fa fd) (hm : mg "idle" = some (.ref fa)) (b : Binds K fd ["times", "needs", "rows"] []) (c_is_fleet : MCal P w K mg base G 7 "is_fleet" 3 dn_is_fleet) : MCal P w K mg base G 8 "idle" 3 dn_idle := by
  have sc := sc_idle
  exact cal_M F (fn_M (k := 7) F sc rfl (by decide) fun cdv A outer sh H E hr tk hp =>
      (mss_cons (ms_if (mt_not (mt_val (me_call c_is_fleet (hr.mono (by omega)) tk (ma_cons (me_var 0 (pv 0)) (ma_cons (me_var 1 (pv 1)) (ma_cons (me_var 2 (pv 2)) ma_nil)))))) (mss_one (ms_ret me_non)) mss_nil)
      mss_never)) hm b
abbrev s_law : Stmt := topS 64
theorem sc_law : FnScope ["script", "row", "turn", "rows", "due", "at", "wrong", "bad", "odd", "many", "far", "first", "told", "value", "told_due", "a", "b", "c"] ["script"] (defScope s_law) := ⟨rfl, rfl, rfl, by decide +kernel, rfl, by decide +kernel, by decide +kernel⟩
theorem ok_law (T : Facts K mg) (XF : FactsX P w K mg base G) (hK : G.K = K) {fa : Addr} {fd : FuncData} {cd P0 : Addr} (TB : LamX.TabB base mg cd P0) (hmT : (P0, (("law" : Str) ++ (".<locals>." : Str) ++ ("<lambda>" : Str))) ∈ G.T) (hu : ∀ p ∈ G.T, p.1 = P0 → p.2 = (("law" : Str) ++ (".<locals>." : Str) ++ ("<lambda>" : Str))) (F : FunC K "law" "law" s_law fa fd cd) (hm : mg "law" = some (.ref fa)) (b : Binds K fd ["script"] []) (c__law_least : MCal P w K mg base G 1 "_law_least" 1 dn__law_least) (c__law_taken : MCal P w K mg base G 1 "_law_taken" 2 dn__law_taken) (c__law_pick : MCal P w K mg base G 2 "_law_pick" 2 dn__law_pick) (c__law_alike : MCal P w K mg base G 11 "_law_alike" 2 (dn__law_alike 10)) (c_are_times : MCal P w K mg base G 5 "are_times" 1 dn_are_times) (m__law_told : MTold P w K mg base G 8 "_law_told" "told" (fun _ => some true) dn__law_refusal) (c__law_same : MCalG P w K mg base G 1 "_law_same" 2 dn__law_same) (c__law_odd : MCal P w K mg base G 3 "_law_odd" 1 dn__law_odd) (c_shortest : MCal P w K mg base G 4 "shortest" 1 dn_shortest) (c_fleet : MCal P w K mg base G 7 "fleet" 2 dn_fleet) (c_follows : MCal P w K mg base G 7 "follows" 2 dn_follows) (c_least_fleet : MCal P w K mg base G 8 "least_fleet" 2 dn_least_fleet) (c_apart : MCal P w K mg base G 7 "apart" 2 dn_apart) (c_is_fleet : MCal P w K mg base G 7 "is_fleet" 3 dn_is_fleet) (c_are_apart : MCal P w K mg base G 7 "are_apart" 3 dn_are_apart) (c_shows_least : MCal P w K mg base G 8 "shows_least" 4 dn_shows_least) (c_idle : MCal P w K mg base G 8 "idle" 3 dn_idle) : FnG P w K mg base 12 fa fd ["script"] (spM G 1 dn_law) := by
  have sc := sc_law
  exact fn_MGc (k := 11) F sc rfl (by decide) fun A outer sh H E hr hgd tk hp =>
      (mss_cons (ms_new 1 sc.nd (mn_lst (ma_cons (me_var 0 (pv 0)) (ma_cons me_int (ma_cons me_int (ma_cons me_int ma_nil))))))
      (mss_cons (ms_for (vs := [2]) hp rfl (mi_range1 T.n_range me_int) (mg_name 2 sc.nd) (mss_cons (ms_parT (is := [9, 10]) hK rfl (mas_val (me_bin op_addM (sim_add hK) me_int (mv_of (me_callS c__law_taken (hr.mono (by omega)) tk (mas_ref (pv 1) (mas_val me_int mas_nil))))) (mas_val (me_callS c__law_pick (hr.mono (by omega)) tk (mas_ref (pv 1) (mas_val (me_lst (ma_cons me_int (ma_cons me_int (ma_cons me_int ma_nil)))) mas_nil))) mas_nil)) (pgs_cons (pg_name (i := 9) sc.nd rfl (by first | exact .inl rfl | exact .inr rfl)) (pgs_cons (pg_name (i := 10) sc.nd rfl (by first | exact .inl rfl | exact .inr rfl)) pgs_nil)))
      (mss_cons (ms_set 3 sc.nd (me_ty1 (call_tuple_of) (sim_tuple hK) (by decide +kernel) T.n_tuple (mv_of (me_own (mn_comp (own := [("a", 15)]) rfl sc.nd (mi_range1 T.n_range (me_var 9 (pv 9))) (blkOk_by (by kernel_rfl)) (gsim_name 15) (fun _ _ _ _ _ => (pg_name (i := 15) sc.nd rfl (by first | exact .inl rfl | exact .inr rfl))) (fun _ _ _ _ _ => mts_nil) (fun _ _ _ _ _ => (me_ty1 (call_tuple_of) (sim_tuple hK) (by decide +kernel) T.n_tuple (mv_of (me_own (mn_comp (own := [("b", 16)]) rfl sc.nd (mi_range1 T.n_range (me_var 9 (pv 9))) (blkOk_by (by kernel_rfl)) (gsim_name 16) (fun _ _ _ _ _ => (pg_name (i := 16) sc.nd rfl (by first | exact .inl rfl | exact .inr rfl))) (fun _ _ _ _ _ => mts_nil) (fun _ _ _ _ _ => (me_if (mt_cmp (op_eqD (hu64 hr)) (sim_eq hK) (me_var 15 (pv 15)) (mv_of (me_var 16 (pv 16))) (nomark _)) me_int (me_callS c__law_taken (hr.mono (by omega)) takes0N (mas_ref (pv 1) (mas_val (me_var 10 (pv 10)) mas_nil)))))))))))))))
      (mss_cons (ms_set 4 sc.nd (me_call c__law_least (hr.mono (by omega)) tk (ma_cons (me_var 3 (pv 3)) ma_nil)))
      (mss_cons (ms_if (mt_w (mw_or (mt_not (mt_val (me_call c__law_alike (hr.mono (by omega)) tk (ma_cons (me_call c_shortest (hr.mono (by omega)) tk (ma_cons (me_var 3 (pv 3)) ma_nil)) (ma_cons (me_var 4 (pv 4)) ma_nil))))) (mw_or (mt_cmp op_isNotM sim_isNot (me_call c_are_times (hr.mono (by omega)) tk (ma_cons (me_var 4 (pv 4)) ma_nil)) (mv_of me_bl) (nomark _)) (mw_or1 (mt_not (mt_val (me_call c__law_alike (hr.mono (by omega)) tk (ma_cons (me_call c_are_times (hr.mono (by omega)) tk (ma_cons (me_var 3 (pv 3)) ma_nil)) (ma_cons (me_cmp (op_eqD (hu64 hr)) (sim_eq hK) (me_var 3 (pv 3)) (mv_of (me_var 4 (pv 4))) (nomark _)) ma_nil))))))))) (mss_one (ms_ret me_bl)) mss_nil)
      (mss_cons (ms_if (mt_cmp (op_neD (hu64 hr)) (sim_ne hK) (me_var 3 (pv 3)) (mv_of (me_var 4 (pv 4))) (nomark _)) (mss_cons (ms_setComp (own := [("a", 15)]) 7 rfl sc.nd (mi_range1 T.n_range (me_var 9 (pv 9))) (blkOk_by (by kernel_rfl)) (gsim_name 15) (fun _ _ _ _ _ => (pg_name (i := 15) sc.nd rfl (by first | exact .inl rfl | exact .inr rfl))) (fun _ _ _ _ _ => (mts_one (mt_cmp (op_neD (hu64 hr)) (sim_ne hK) (me_ix ix_seq (sim_ix hK) (me_var 3 (pv 3)) (mv_of (me_var 15 (pv 15))) (fun _ _ => rfl)) (mv_of (me_ix ix_seq (sim_ix hK) (me_var 4 (pv 4)) (mv_of (me_var 15 (pv 15))) (fun _ _ => rfl))) (nomark _)))) (fun _ _ _ _ _ => (me_var 15 (pv 15))) (sw_true rfl rfl rfl (by kernel_rfl)))
      (mss_cons (ms_setComp (own := [("a", 15)]) 11 rfl sc.nd (mi_seq hK (me_var 7 (pv 7))) (blkOk_by (by kernel_rfl)) (gsim_name 15) (fun _ _ _ _ _ => (pg_name (i := 15) sc.nd rfl (by first | exact .inl rfl | exact .inr rfl))) (fun _ _ _ _ _ => (mts_one (mt_cmp (op_neD (hu64 hr)) (sim_ne hK) (me_own (mn_comp (own := [("b", 16)]) rfl sc.nd (mi_range1 T.n_range (me_var 9 (pv 9))) (blkOk_by (by kernel_rfl)) (gsim_name 16) (fun _ _ _ _ _ => (pg_name (i := 16) sc.nd rfl (by first | exact .inl rfl | exact .inr rfl))) (fun _ _ _ _ _ => (mts_one (mt_cmp (op_neD (hu64 hr)) (sim_ne hK) (me_own (mn_comp (own := [("c", 17)]) rfl sc.nd (mi_range1 T.n_range (me_var 9 (pv 9))) (blkOk_by (by kernel_rfl)) (gsim_name 17) (fun _ _ _ _ _ => (pg_name (i := 17) sc.nd rfl (by first | exact .inl rfl | exact .inr rfl))) (fun _ _ _ _ _ => (mts_one (mt_cmp op_ltM sim_lt (me_bin op_addM (sim_add hK) (me_ix ix_seq (sim_ix hK) (me_ix ix_seq (sim_ix hK) (me_var 3 (pv 3)) (mv_of (me_var 15 (pv 15))) (fun _ _ => rfl)) (mv_of (me_var 17 (pv 17))) (fun _ _ => rfl)) (mv_of (me_ix ix_seq (sim_ix hK) (me_ix ix_seq (sim_ix hK) (me_var 3 (pv 3)) (mv_of (me_var 17 (pv 17))) (fun _ _ => rfl)) (mv_of (me_var 16 (pv 16))) (fun _ _ => rfl)))) (mv_of (me_ix ix_seq (sim_ix hK) (me_ix ix_seq (sim_ix hK) (me_var 3 (pv 3)) (mv_of (me_var 15 (pv 15))) (fun _ _ => rfl)) (mv_of (me_var 16 (pv 16))) (fun _ _ => rfl))) (nomark _)))) (fun _ _ _ _ _ => (me_var 17 (pv 17))))) (mv_of (me_lst ma_nil)) (nomark _)))) (fun _ _ _ _ _ => (me_var 16 (pv 16))))) (mv_of (me_lst ma_nil)) (nomark _)))) (fun _ _ _ _ _ => (me_var 15 (pv 15))) (sw_true rfl rfl rfl (by kernel_rfl)))
      (mss_cons (ms_set 12 sc.nd (me_lst (ma_cons (me_told0 (NN := ["script", "row", "turn", "rows", "due", "at", "wrong", "bad", "odd", "many", "far", "first", "told", "value", "told_due", "a", "b", "c"]) m__law_told TB rfl hmT hu (hr.mono (by omega)) (lamP_by (by kernel_rfl)) rfl (fun _ _ _ _ _ us hl => match us, hl with | [], _ => rfl) (by kernel_rfl) (fun _ _ _ _ _ _ _ hr tk => (me_call c_fleet (hr.mono (by omega)) tk (ma_cons (me_var 3 (pv 3)) (ma_cons me_int ma_nil))))) (ma_cons (me_toldI (NN := ["script", "row", "turn", "rows", "due", "at", "wrong", "bad", "odd", "many", "far", "first", "told", "value", "told_due", "", "b", "c", "a"]) (x0 := "a") m__law_told TB rfl hmT hu (hr.mono (by omega)) (lamP_by (by kernel_rfl)) rfl (fun _ _ _ _ _ _ => ⟨_, rfl, fun _ => rfl⟩) (by kernel_rfl) (fun _ _ _ _ _ _ _ hr tk => (me_call c_follows (hr.mono (by omega)) tk (ma_cons (me_var 3 (pv 3)) (ma_cons me_int ma_nil))))) (ma_cons (me_toldI (NN := ["script", "row", "turn", "rows", "due", "at", "wrong", "bad", "odd", "many", "far", "first", "told", "value", "told_due", "a", "", "c", "b"]) (x0 := "b") m__law_told TB rfl hmT hu (hr.mono (by omega)) (lamP_by (by kernel_rfl)) rfl (fun _ _ _ _ _ _ => ⟨_, rfl, fun _ => rfl⟩) (by kernel_rfl) (fun _ _ _ _ _ _ _ hr tk => (me_call c_least_fleet (hr.mono (by omega)) tk (ma_cons (me_var 3 (pv 3)) (ma_cons me_int ma_nil))))) (ma_cons (me_toldI (NN := ["script", "row", "turn", "rows", "due", "at", "wrong", "bad", "odd", "many", "far", "first", "told", "value", "told_due", "a", "b", "", "c"]) (x0 := "c") m__law_told TB rfl hmT hu (hr.mono (by omega)) (lamP_by (by kernel_rfl)) rfl (fun _ _ _ _ _ _ => ⟨_, rfl, fun _ => rfl⟩) (by kernel_rfl) (fun _ _ _ _ _ _ _ hr tk => (me_call c_apart (hr.mono (by omega)) tk (ma_cons (me_var 3 (pv 3)) (ma_cons me_int ma_nil))))) ma_nil))))))
      (mss_one (ms_if (mt_not (mt_val (me_callG c__law_same (hr.mono (by omega)) hgd tk (ma_cons (me_var 12 (pv 12)) (ma_cons (me_bin op_mulM (sim_mul hK) (me_lst (ma_cons (me_tup (ma_cons me_str (ma_cons (me_ix ix_seq (sim_ix hK) (me_var 11 (pv 11)) (mv_of me_int) (fun _ _ => rfl)) ma_nil))) ma_nil)) (mv_of me_int)) ma_nil))))) (mss_one (ms_ret me_bl)) mss_nil))))) mss_nil)
      (mss_cons (ms_set 5 sc.nd (me_callS c__law_taken (hr.mono (by omega)) tk (mas_ref (pv 1) (mas_val (me_var 9 (pv 9)) mas_nil))))
      (mss_cons (ms_set 6 sc.nd (me_lst (ma_cons me_non (ma_cons (me_ty1 (call_list_of) (sim_list hK) (by decide +kernel) T.n_list (mv_of (me_ix ix_seq (sim_ix hK) (me_var 4 (pv 4)) (mv_of (me_var 5 (pv 5))) (fun _ _ => rfl)))) (ma_cons (me_bin op_addM (sim_add hK) (me_ix ix_seq (sim_ix hK) (me_var 4 (pv 4)) (mv_of (me_var 5 (pv 5))) (fun _ _ => rfl)) (mv_of (me_tup (ma_cons me_int ma_nil)))) (ma_cons (me_cut hK (me_ix ix_seq (sim_ix hK) (me_var 4 (pv 4)) (mv_of (me_var 5 (pv 5))) (fun _ _ => rfl)) (mo_some me_int) mo_none) ma_nil))))))
      (mss_cons (ms_set 6 sc.nd (me_bin op_addM (sim_add hK) (me_var 6 (pv 6)) (mv_of (me_lst (ma_cons (me_bin op_addM (sim_add hK) (me_bin op_addM (sim_add hK) (me_cut hK (me_ix ix_seq (sim_ix hK) (me_var 4 (pv 4)) (mv_of (me_var 5 (pv 5))) (fun _ _ => rfl)) mo_none (mo_some (me_var 5 (pv 5)))) (mv_of (me_tup (ma_cons me_int ma_nil)))) (mv_of (me_cut hK (me_ix ix_seq (sim_ix hK) (me_var 4 (pv 4)) (mv_of (me_var 5 (pv 5))) (fun _ _ => rfl)) (mo_some (me_bin op_addM (sim_add hK) (me_var 5 (pv 5)) (mv_of me_int))) mo_none))) (ma_cons (me_if (mt_cmp op_gt sim_gt (me_var 5 (pv 5)) (mv_of me_int) (nomark _)) (me_bin op_addM (sim_add hK) (me_tup (ma_cons (me_un un_neg sim_neg (mv_of me_int)) ma_nil)) (mv_of (me_cut hK (me_ix ix_seq (sim_ix hK) (me_var 4 (pv 4)) (mv_of (me_var 5 (pv 5))) (fun _ _ => rfl)) (mo_some me_int) mo_none))) me_non) (ma_cons (me_if (mt_cmp op_gt sim_gt (me_var 5 (pv 5)) (mv_of me_int) (nomark _)) (me_bin op_addM (sim_add hK) (me_tup (ma_cons me_int ma_nil)) (mv_of (me_cut hK (me_ix ix_seq (sim_ix hK) (me_var 4 (pv 4)) (mv_of (me_var 5 (pv 5))) (fun _ _ => rfl)) (mo_some me_int) mo_none))) me_int) (ma_cons (me_bin op_mulM (sim_mul hK) (me_tup (ma_cons me_non ma_nil)) (mv_of (me_var 9 (pv 9)))) ma_nil))))))))
      (mss_cons (ms_set 7 sc.nd (me_bin op_addM (sim_add hK) (me_bin op_addM (sim_add hK) (me_cut hK (me_var 4 (pv 4)) mo_none (mo_some (me_var 5 (pv 5)))) (mv_of (me_tup (ma_cons (me_callS c__law_pick (hr.mono (by omega)) tk (mas_ref (pv 1) (mas_val (me_var 6 (pv 6)) mas_nil))) ma_nil)))) (mv_of (me_cut hK (me_var 4 (pv 4)) (mo_some (me_bin op_addM (sim_add hK) (me_var 5 (pv 5)) (mv_of me_int))) mo_none))))
      (mss_cons (ms_set 8 sc.nd (me_callS c__law_pick (hr.mono (by omega)) tk (mas_ref (pv 1) (mas_val (me_lst (ma_cons me_non (ma_cons (me_tup ma_nil) (ma_cons (me_ty1 (call_list_of) (sim_list hK) (by decide +kernel) T.n_list (mv_of (me_var 4 (pv 4)))) (ma_cons me_int (ma_cons (me_bin op_mulM (sim_mul hK) (me_tup (ma_cons (me_bin op_mulM (sim_mul hK) (me_tup (ma_cons me_int ma_nil)) (mv_of me_int)) ma_nil)) (mv_of me_int)) (ma_cons (me_callS c__law_odd (hr.mono (by omega)) tk (mas_ref (pv 1) mas_nil)) ma_nil))))))) mas_nil))))
      (mss_one (ms_for (vs := [13, 14]) hp rfl (mi_seq hK (me_lst (ma_cons (me_tup (ma_cons (me_var 7 (pv 7)) (ma_cons (me_tup (ma_cons me_str (ma_cons (me_var 5 (pv 5)) ma_nil))) ma_nil))) (ma_cons (me_tup (ma_cons (me_var 8 (pv 8)) (ma_cons (me_tup (ma_cons me_str (ma_cons me_non ma_nil))) ma_nil))) ma_nil)))) (mg_tup hK rfl (mgs_cons (mg_name 13 sc.nd) (mgs_cons (mg_name 14 sc.nd) mgs_nil))) (mss_cons (ms_set 12 sc.nd (me_lst (ma_cons (me_told0 (NN := ["script", "row", "turn", "rows", "due", "at", "wrong", "bad", "odd", "many", "far", "first", "told", "value", "told_due", "a", "b", "c"]) m__law_told TB rfl hmT hu (hr.mono (by omega)) (lamP_by (by kernel_rfl)) rfl (fun _ _ _ _ _ us hl => match us, hl with | [], _ => rfl) (by kernel_rfl) (fun _ _ _ _ _ _ _ hr tk => (me_call c_shortest (hr.mono (by omega)) tk (ma_cons (me_var 13 (pv 13)) ma_nil)))) (ma_cons (me_toldI (NN := ["script", "row", "turn", "rows", "due", "at", "wrong", "bad", "odd", "many", "far", "first", "told", "value", "told_due", "", "b", "c", "a"]) (x0 := "a") m__law_told TB rfl hmT hu (hr.mono (by omega)) (lamP_by (by kernel_rfl)) rfl (fun _ _ _ _ _ _ => ⟨_, rfl, fun _ => rfl⟩) (by kernel_rfl) (fun _ _ _ _ _ _ _ hr tk => (me_call c_fleet (hr.mono (by omega)) tk (ma_cons (me_var 13 (pv 13)) (ma_cons me_int ma_nil))))) (ma_cons (me_toldI (NN := ["script", "row", "turn", "rows", "due", "at", "wrong", "bad", "odd", "many", "far", "first", "told", "value", "told_due", "a", "", "c", "b"]) (x0 := "b") m__law_told TB rfl hmT hu (hr.mono (by omega)) (lamP_by (by kernel_rfl)) rfl (fun _ _ _ _ _ _ => ⟨_, rfl, fun _ => rfl⟩) (by kernel_rfl) (fun _ _ _ _ _ _ _ hr tk => (me_call c_is_fleet (hr.mono (by omega)) tk (ma_cons (me_var 13 (pv 13)) (ma_cons me_int (ma_cons me_int ma_nil)))))) (ma_cons (me_toldI (NN := ["script", "row", "turn", "rows", "due", "at", "wrong", "bad", "odd", "many", "far", "first", "told", "value", "told_due", "a", "b", "", "c"]) (x0 := "c") m__law_told TB rfl hmT hu (hr.mono (by omega)) (lamP_by (by kernel_rfl)) rfl (fun _ _ _ _ _ _ => ⟨_, rfl, fun _ => rfl⟩) (by kernel_rfl) (fun _ _ _ _ _ _ _ hr tk => (me_call c_are_apart (hr.mono (by omega)) tk (ma_cons (me_var 13 (pv 13)) (ma_cons me_int (ma_cons me_int ma_nil)))))) ma_nil))))))
      (mss_cons (ms_set 12 sc.nd (me_bin op_addM (sim_add hK) (me_var 12 (pv 12)) (mv_of (me_lst (ma_cons (me_toldI (NN := ["script", "row", "turn", "rows", "due", "at", "wrong", "bad", "odd", "many", "far", "first", "told", "value", "told_due", "a", "b", "c", "d"]) (x0 := "d") m__law_told TB rfl hmT hu (hr.mono (by omega)) (lamP_by (by kernel_rfl)) rfl (fun _ _ _ _ _ _ => ⟨_, rfl, fun _ => rfl⟩) (by kernel_rfl) (fun _ _ _ _ _ _ _ hr tk => (me_call c_shows_least (hr.mono (by omega)) tk (ma_cons (me_var 13 (pv 13)) (ma_cons me_int (ma_cons me_int (ma_cons me_int ma_nil))))))) (ma_cons (me_toldI (NN := ["script", "row", "turn", "rows", "due", "at", "wrong", "bad", "odd", "many", "far", "first", "told", "value", "told_due", "a", "b", "c", "e"]) (x0 := "e") m__law_told TB rfl hmT hu (hr.mono (by omega)) (lamP_by (by kernel_rfl)) rfl (fun _ _ _ _ _ _ => ⟨_, rfl, fun _ => rfl⟩) (by kernel_rfl) (fun _ _ _ _ _ _ _ hr tk => (me_call c_idle (hr.mono (by omega)) tk (ma_cons (me_var 13 (pv 13)) (ma_cons me_int (ma_cons me_int ma_nil)))))) ma_nil))))))
      (mss_one (ms_if (mt_w (mw_or (mt_val (me_call c_are_times (hr.mono (by omega)) tk (ma_cons (me_var 13 (pv 13)) ma_nil))) (mw_or1 (mt_not (mt_val (me_callG c__law_same (hr.mono (by omega)) hgd tk (ma_cons (me_var 12 (pv 12)) (ma_cons (me_bin op_mulM (sim_mul hK) (me_lst (ma_cons (me_var 14 (pv 14)) ma_nil)) (mv_of me_int)) ma_nil)))))))) (mss_one (ms_ret me_bl)) mss_nil)))))))))))))))))
      (mss_one (ms_ret me_bl))))
end
def GW (K : PySem.W.Frag) (cl : List (Str × Addr)) (T : List (Addr × Str)) : Wd := ⟨K, fun c => cl.lookup c, fun _ => none, none, T⟩
theorem PZ.tab0 {Z : Zone} {H : Hp} {P : Addr} {q : Str} (hz : ¬ Z P) (h : H P = some (.tbl #[])) : ¬ Z P ∧ ∃ ps : Array Value, H P = some (.tbl ps) ∧ TriplesOk ps.toList ∧ ∀ (pos : Pos) (cv : Value), codeAmong pos ps.toList = some cv → ∃ c, cv = .ref c ∧ H c = some (LamX.CodeO c q) ∧ ¬ Z c :=
  ⟨hz, #[], h, True.intro, fun pos cv hc => by have z : codeAmong pos [] = some cv := hc; simp [codeAmong] at z⟩
theorem all_mk {l : PySem.W.OpenLaw} {w : World} {K : PySem.W.Frag} {h : Heap} {mg mb : Str → Option Value} {q : Program} {loose : List Str} {mean : ExcName → Option Value} {fa : Addr} {C_CrateError : Addr} {C_BadPlan : Addr} {C_BadNumber : Addr} {C_UnknownKind : Addr} {C_UnknownHouse : Addr} {C_TooMany : Addr} {C_BadCourse : Addr} {C_BadOrder : Addr} {C_BadTimes : Addr} {C_BadNeeds : Addr} {C_BadRows : Addr} {C_BadCounts : Addr} {C_BadMoves : Addr} {C_BadSuspects : Addr} {C_BadSigns : Addr} {C_BadText : Addr} {C_BadLine : Addr} {C_NotPossible : Addr} {C_NotAgreed : Addr} {C_BadClaim : Addr} {C_NothingDone : Addr} {fI_BadTimes cc_BadTimes cd_BadTimes NC_BadTimes : Addr} {nm_BadTimes q_BadTimes : Str} {bs_BadTimes bm_BadTimes sub_BadTimes : List Value} {sn_BadTimes : List Str} {ab_BadTimes : Bool} {col_BadTimes : Option Bool} {dd_BadTimes : Option Addr} {k0_BadTimes k1_BadTimes k2_BadTimes k3_BadTimes k5_BadTimes : Option Value} {oc_BadTimes kV_BadTimes doc_BadTimes pm_BadTimes ct_BadTimes ccl_BadTimes cl_BadTimes : Value} {od_BadTimes an_BadTimes cdd_BadTimes cld_BadTimes : Option Addr} {osl_BadTimes ccs_BadTimes csl_BadTimes : Array (Option Value)} {fvs_BadTimes : Array Value} {file_BadTimes : Str} {tf_BadTimes : Tok} {f__law_least : Addr} {oc__law_least kV__law_least dc__law_least pm__law_least ct__law_least : Value} {od__law_least an__law_least : Option Addr} {sl__law_least : Array (Option Value)} {cd__law_least : Value} {f__law_taken : Addr} {oc__law_taken kV__law_taken dc__law_taken pm__law_taken ct__law_taken : Value} {od__law_taken an__law_taken : Option Addr} {sl__law_taken : Array (Option Value)} {cd__law_taken : Value} {f__law_pick : Addr} {oc__law_pick kV__law_pick dc__law_pick pm__law_pick ct__law_pick : Value} {od__law_pick an__law_pick : Option Addr} {sl__law_pick : Array (Option Value)} {cd__law_pick : Value} {f__law_alike : Addr} {oc__law_alike kV__law_alike dc__law_alike pm__law_alike ct__law_alike : Value} {od__law_alike an__law_alike : Option Addr} {sl__law_alike : Array (Option Value)} {cd__law_alike : Value} {f_first_long : Addr} {oc_first_long kV_first_long dc_first_long pm_first_long ct_first_long : Value} {od_first_long an_first_long : Option Addr} {sl_first_long : Array (Option Value)} {cd_first_long : Value} {f_is_row : Addr} {oc_is_row kV_is_row dc_is_row pm_is_row ct_is_row : Value} {od_is_row an_is_row : Option Addr} {sl_is_row : Array (Option Value)} {cd_is_row : Value} {f_is_whole : Addr} {oc_is_whole kV_is_whole dc_is_whole pm_is_whole ct_is_whole : Value} {od_is_whole an_is_whole : Option Addr} {sl_is_whole : Array (Option Value)} {cd_is_whole : Value} {f_is_within : Addr} {oc_is_within kV_is_within dc_is_within pm_is_within ct_is_within : Value} {od_is_within an_is_within : Option Addr} {sl_is_within : Array (Option Value)} {cd_is_within : Value} {f_is_times_row : Addr} {oc_is_times_row kV_is_times_row dc_is_times_row pm_is_times_row ct_is_times_row : Value} {od_is_times_row an_is_times_row : Option Addr} {sl_is_times_row : Array (Option Value)} {cd_is_times_row : Value} {f_wrong_place : Addr} {oc_wrong_place kV_wrong_place dc_wrong_place pm_wrong_place ct_wrong_place : Value} {od_wrong_place an_wrong_place : Option Addr} {sl_wrong_place : Array (Option Value)} {cd_wrong_place : Value} {f_are_times : Addr} {oc_are_times kV_are_times dc_are_times pm_are_times ct_are_times : Value} {od_are_times an_are_times : Option Addr} {sl_are_times : Array (Option Value)} {cd_are_times : Value} {f__law_refusal : Addr} {oc__law_refusal kV__law_refusal dc__law_refusal pm__law_refusal ct__law_refusal : Value} {od__law_refusal an__law_refusal : Option Addr} {sl__law_refusal : Array (Option Value)} {cd__law_refusal : Value} {f__law_told : Addr} {oc__law_told kV__law_told dc__law_told pm__law_told ct__law_told : Value} {od__law_told an__law_told : Option Addr} {sl__law_told : Array (Option Value)} {cd__law_told : Value} {f__law_same : Addr} {oc__law_same kV__law_same dc__law_same pm__law_same ct__law_same : Value} {od__law_same an__law_same : Option Addr} {sl__law_same : Array (Option Value)} {cd__law_same : Value} {f__law_odd : Addr} {oc__law_odd kV__law_odd dc__law_odd pm__law_odd ct__law_odd : Value} {od__law_odd an__law_odd : Option Addr} {sl__law_odd : Array (Option Value)} {cd__law_odd : Value} {f_shortest : Addr} {oc_shortest kV_shortest dc_shortest pm_shortest ct_shortest : Value} {od_shortest an_shortest : Option Addr} {sl_shortest : Array (Option Value)} {cd_shortest : Value} {f_place_told : Addr} {oc_place_told kV_place_told dc_place_told pm_place_told ct_place_told : Value} {od_place_told an_place_told : Option Addr} {sl_place_told : Array (Option Value)} {cd_place_told : Value} {f_require_times : Addr} {oc_require_times kV_require_times dc_require_times pm_require_times ct_require_times : Value} {od_require_times an_require_times : Option Addr} {sl_require_times : Array (Option Value)} {cd_require_times : Value} {f_require_needs : Addr} {oc_require_needs kV_require_needs dc_require_needs pm_require_needs ct_require_needs : Value} {od_require_needs an_require_needs : Option Addr} {sl_require_needs : Array (Option Value)} {cd_require_needs : Value} {f_fleet : Addr} {oc_fleet kV_fleet dc_fleet pm_fleet ct_fleet : Value} {od_fleet an_fleet : Option Addr} {sl_fleet : Array (Option Value)} {cd_fleet : Value} {f_follows : Addr} {oc_follows kV_follows dc_follows pm_follows ct_follows : Value} {od_follows an_follows : Option Addr} {sl_follows : Array (Option Value)} {cd_follows : Value} {f_least_fleet : Addr} {oc_least_fleet kV_least_fleet dc_least_fleet pm_least_fleet ct_least_fleet : Value} {od_least_fleet an_least_fleet : Option Addr} {sl_least_fleet : Array (Option Value)} {cd_least_fleet : Value} {f_apart : Addr} {oc_apart kV_apart dc_apart pm_apart ct_apart : Value} {od_apart an_apart : Option Addr} {sl_apart : Array (Option Value)} {cd_apart : Value} {f_is_fleet : Addr} {oc_is_fleet kV_is_fleet dc_is_fleet pm_is_fleet ct_is_fleet : Value} {od_is_fleet an_is_fleet : Option Addr} {sl_is_fleet : Array (Option Value)} {cd_is_fleet : Value} {f_are_apart : Addr} {oc_are_apart kV_are_apart dc_are_apart pm_are_apart ct_are_apart : Value} {od_are_apart an_are_apart : Option Addr} {sl_are_apart : Array (Option Value)} {cd_are_apart : Value} {f_shows_least : Addr} {oc_shows_least kV_shows_least dc_shows_least pm_shows_least ct_shows_least : Value} {od_shows_least an_shows_least : Option Addr} {sl_shows_least : Array (Option Value)} {cd_shows_least : Value} {f_idle : Addr} {oc_idle kV_idle dc_idle pm_idle ct_idle : Value} {od_idle an_idle : Option Addr} {sl_idle : Array (Option Value)} {cd_idle : Value} {f_law : Addr} {oc_law kV_law dc_law pm_law ct_law : Value} {od_law an_law : Option Addr} {sl_law : Array (Option Value)} {cd_law P_law : Addr} (main : ∀ ns : List Int, ns.length ≤ 63 → (∀ z ∈ ns, Builtin.Int.intBits z ≤ 1048576) → dn_law [.p (.scr ns)] [] = .ok (.bl true) []) (T0 : PyProof.Rows.Top q loose mean mg mb h) (X : K.In h) (hfa : mg "law" = some (.ref fa))
    (z_ValueError : PySem.W.nsIn K mainGlobals "ValueError" = some none)
    (z_all : PySem.W.nsIn K mainGlobals "all" = some none)
    (z_any : PySem.W.nsIn K mainGlobals "any" = some none)
    (z_bool : PySem.W.nsIn K mainGlobals "bool" = some none)
    (z_enumerate : PySem.W.nsIn K mainGlobals "enumerate" = some none)
    (z_int : PySem.W.nsIn K mainGlobals "int" = some none)
    (z_isinstance : PySem.W.nsIn K mainGlobals "isinstance" = some none)
    (z_len : PySem.W.nsIn K mainGlobals "len" = some none)
    (z_list : PySem.W.nsIn K mainGlobals "list" = some none)
    (z_min : PySem.W.nsIn K mainGlobals "min" = some none)
    (z_range : PySem.W.nsIn K mainGlobals "range" = some none)
    (z_repr : PySem.W.nsIn K mainGlobals "repr" = some none)
    (z_str : PySem.W.nsIn K mainGlobals "str" = some none)
    (z_tuple : PySem.W.nsIn K mainGlobals "tuple" = some none)
    {t_MOST_HOUSES : Tok}
    (q_MOST_HOUSES : PySem.W.nsIn K mainGlobals "MOST_HOUSES" = some (some (.int 6 t_MOST_HOUSES)))
    {t_MOST_TIME : Tok}
    (q_MOST_TIME : PySem.W.nsIn K mainGlobals "MOST_TIME" = some (some (.int 99 t_MOST_TIME)))
    (a_CrateError : PySem.W.nsIn K mainGlobals "CrateError" = some (some (.ref C_CrateError)))
    (a_BadPlan : PySem.W.nsIn K mainGlobals "BadPlan" = some (some (.ref C_BadPlan)))
    (a_BadNumber : PySem.W.nsIn K mainGlobals "BadNumber" = some (some (.ref C_BadNumber)))
    (a_UnknownKind : PySem.W.nsIn K mainGlobals "UnknownKind" = some (some (.ref C_UnknownKind)))
    (a_UnknownHouse : PySem.W.nsIn K mainGlobals "UnknownHouse" = some (some (.ref C_UnknownHouse)))
    (a_TooMany : PySem.W.nsIn K mainGlobals "TooMany" = some (some (.ref C_TooMany)))
    (a_BadCourse : PySem.W.nsIn K mainGlobals "BadCourse" = some (some (.ref C_BadCourse)))
    (a_BadOrder : PySem.W.nsIn K mainGlobals "BadOrder" = some (some (.ref C_BadOrder)))
    (a_BadTimes : PySem.W.nsIn K mainGlobals "BadTimes" = some (some (.ref C_BadTimes)))
    (a_BadNeeds : PySem.W.nsIn K mainGlobals "BadNeeds" = some (some (.ref C_BadNeeds)))
    (a_BadRows : PySem.W.nsIn K mainGlobals "BadRows" = some (some (.ref C_BadRows)))
    (a_BadCounts : PySem.W.nsIn K mainGlobals "BadCounts" = some (some (.ref C_BadCounts)))
    (a_BadMoves : PySem.W.nsIn K mainGlobals "BadMoves" = some (some (.ref C_BadMoves)))
    (a_BadSuspects : PySem.W.nsIn K mainGlobals "BadSuspects" = some (some (.ref C_BadSuspects)))
    (a_BadSigns : PySem.W.nsIn K mainGlobals "BadSigns" = some (some (.ref C_BadSigns)))
    (a_BadText : PySem.W.nsIn K mainGlobals "BadText" = some (some (.ref C_BadText)))
    (a_BadLine : PySem.W.nsIn K mainGlobals "BadLine" = some (some (.ref C_BadLine)))
    (a_NotPossible : PySem.W.nsIn K mainGlobals "NotPossible" = some (some (.ref C_NotPossible)))
    (a_NotAgreed : PySem.W.nsIn K mainGlobals "NotAgreed" = some (some (.ref C_NotAgreed)))
    (a_BadClaim : PySem.W.nsIn K mainGlobals "BadClaim" = some (some (.ref C_BadClaim)))
    (a_NothingDone : PySem.W.nsIn K mainGlobals "NothingDone" = some (some (.ref C_NothingDone)))
    (z_super : PySem.W.nsIn K mainGlobals "super" = some none)
    (o_BadTimes : K.lookup C_BadTimes = some (excClassObj nm_BadTimes q_BadTimes C_BadTimes NC_BadTimes bs_BadTimes bm_BadTimes true sn_BadTimes sub_BadTimes ab_BadTimes col_BadTimes dd_BadTimes k0_BadTimes k1_BadTimes k2_BadTimes k3_BadTimes k5_BadTimes "ValueError.__new__"))
    (ic_BadTimes : PySem.W.findIn K (.ref C_BadTimes) "__init__" = some (some (.ref fI_BadTimes)))
    (l_BadTimes : K.lookup fI_BadTimes = some ⟨oc_BadTimes, od_BadTimes, .func (PySem.W.ksFn "__init__" "BadTimes.__init__" (defArgs s_BadTimes) (defBody s_BadTimes) (defScope s_BadTimes) .none kV_BadTimes doc_BadTimes pm_BadTimes an_BadTimes (.ref cd_BadTimes) ct_BadTimes cc_BadTimes), osl_BadTimes⟩)
    (lc_BadTimes : K.lookup cd_BadTimes = some ⟨ccl_BadTimes, cdd_BadTimes, .fields fvs_BadTimes, ccs_BadTimes⟩)
    (ce_BadTimes : K.lookup cc_BadTimes = some ⟨cl_BadTimes, cld_BadTimes, .cell (some (.ref C_BadTimes)), csl_BadTimes⟩)
    (fi_BadTimes : fvs_BadTimes[2]? = some (.str file_BadTimes tf_BadTimes))
    (fe_BadTimes : ((l.prog.main.file : Str) == file_BadTimes) = true)
    (v_BadTimes : PySem.HandSPX.refsVE bm_BadTimes = true)
    (b_BadTimes : supB K C_BadTimes fI_BadTimes cd_BadTimes "BadTimes.__init__" ["place"] = true)
    (htop : (l.prog.main.scope.names.lookup ("super" : Str)).isSome = false)
    (kt_NothingDone : kitAll K (.ref C_NothingDone) [("BadTimes", C_BadTimes)] t_NothingDone = true)
    (kt_BadClaim : kitAll K (.ref C_BadClaim) [("BadTimes", C_BadTimes)] t_BadClaim = true)
    (kt_NotAgreed : kitAll K (.ref C_NotAgreed) [("BadTimes", C_BadTimes)] t_NotAgreed = true)
    (kt_NotPossible : kitAll K (.ref C_NotPossible) [("BadTimes", C_BadTimes)] t_NotPossible = true)
    (kt_BadLine : kitAll K (.ref C_BadLine) [("BadTimes", C_BadTimes)] t_BadLine = true)
    (kt_BadText : kitAll K (.ref C_BadText) [("BadTimes", C_BadTimes)] t_BadText = true)
    (kt_BadSigns : kitAll K (.ref C_BadSigns) [("BadTimes", C_BadTimes)] t_BadSigns = true)
    (kt_BadSuspects : kitAll K (.ref C_BadSuspects) [("BadTimes", C_BadTimes)] t_BadSuspects = true)
    (kt_BadMoves : kitAll K (.ref C_BadMoves) [("BadTimes", C_BadTimes)] t_BadMoves = true)
    (kt_BadCounts : kitAll K (.ref C_BadCounts) [("BadTimes", C_BadTimes)] t_BadCounts = true)
    (kt_BadRows : kitAll K (.ref C_BadRows) [("BadTimes", C_BadTimes)] t_BadRows = true)
    (kt_BadNeeds : kitAll K (.ref C_BadNeeds) [("BadTimes", C_BadTimes)] t_BadNeeds = true)
    (kt_BadTimes : kitAll K (.ref C_BadTimes) [("BadTimes", C_BadTimes)] t_BadTimes = true)
    (kt_BadCourse : kitAll K (.ref C_BadCourse) [("BadTimes", C_BadTimes)] t_BadCourse = true)
    (kt_TooMany : kitAll K (.ref C_TooMany) [("BadTimes", C_BadTimes)] t_TooMany = true)
    (kt_UnknownHouse : kitAll K (.ref C_UnknownHouse) [("BadTimes", C_BadTimes)] t_UnknownHouse = true)
    (kt_UnknownKind : kitAll K (.ref C_UnknownKind) [("BadTimes", C_BadTimes)] t_UnknownKind = true)
    (kt_BadOrder : kitAll K (.ref C_BadOrder) [("BadTimes", C_BadTimes)] t_BadOrder = true)
    (kt_BadNumber : kitAll K (.ref C_BadNumber) [("BadTimes", C_BadTimes)] t_BadNumber = true)
    (kt_BadPlan : kitAll K (.ref C_BadPlan) [("BadTimes", C_BadTimes)] t_BadPlan = true)
    (kt_ValueError : kitAll K (.type "ValueError") [("BadTimes", C_BadTimes)] t_ValueError = true)
    (ex_all : excAll K [("BadTimes", C_BadTimes)] = true)
    (em_CrateError : exmAll K (.ref C_CrateError) [("BadTimes", C_BadTimes)] = true)
    (nf_limit : noAll K "limit" [("BadTimes", C_BadTimes)] = true)
    (nf_line : noAll K "line" [("BadTimes", C_BadTimes)] = true)
    (nf_name : noAll K "name" [("BadTimes", C_BadTimes)] = true)
    (nf_part : noAll K "part" [("BadTimes", C_BadTimes)] = true)
    (nf_place : noAll K "place" [("BadTimes", C_BadTimes)] = true)
    (nf_value : noAll K "value" [("BadTimes", C_BadTimes)] = true)
    (a__law_least : PySem.W.nsIn K mainGlobals "_law_least" = some (some (.ref f__law_least)))
    (l__law_least : K.lookup f__law_least = some ⟨oc__law_least, od__law_least, .func (PySem.W.fnOf "_law_least" "_law_least" (defArgs s__law_least) (defBody s__law_least) (defScope s__law_least) .none kV__law_least dc__law_least pm__law_least an__law_least cd__law_least ct__law_least), sl__law_least⟩)
    (c__law_least : PySem.W.codeIn K cd__law_least "_law_least" = true)
    (k__law_least : PySem.W.keepIn K (.ref f__law_least) = true)
    (a__law_taken : PySem.W.nsIn K mainGlobals "_law_taken" = some (some (.ref f__law_taken)))
    (l__law_taken : K.lookup f__law_taken = some ⟨oc__law_taken, od__law_taken, .func (PySem.W.fnOf "_law_taken" "_law_taken" (defArgs s__law_taken) (defBody s__law_taken) (defScope s__law_taken) .none kV__law_taken dc__law_taken pm__law_taken an__law_taken cd__law_taken ct__law_taken), sl__law_taken⟩)
    (c__law_taken : PySem.W.codeIn K cd__law_taken "_law_taken" = true)
    (k__law_taken : PySem.W.keepIn K (.ref f__law_taken) = true)
    (a__law_pick : PySem.W.nsIn K mainGlobals "_law_pick" = some (some (.ref f__law_pick)))
    (l__law_pick : K.lookup f__law_pick = some ⟨oc__law_pick, od__law_pick, .func (PySem.W.fnOf "_law_pick" "_law_pick" (defArgs s__law_pick) (defBody s__law_pick) (defScope s__law_pick) .none kV__law_pick dc__law_pick pm__law_pick an__law_pick cd__law_pick ct__law_pick), sl__law_pick⟩)
    (c__law_pick : PySem.W.codeIn K cd__law_pick "_law_pick" = true)
    (k__law_pick : PySem.W.keepIn K (.ref f__law_pick) = true)
    (a__law_alike : PySem.W.nsIn K mainGlobals "_law_alike" = some (some (.ref f__law_alike)))
    (l__law_alike : K.lookup f__law_alike = some ⟨oc__law_alike, od__law_alike, .func (PySem.W.fnOf "_law_alike" "_law_alike" (defArgs s__law_alike) (defBody s__law_alike) (defScope s__law_alike) .none kV__law_alike dc__law_alike pm__law_alike an__law_alike cd__law_alike ct__law_alike), sl__law_alike⟩)
    (c__law_alike : PySem.W.codeIn K cd__law_alike "_law_alike" = true)
    (k__law_alike : PySem.W.keepIn K (.ref f__law_alike) = true)
    (a_first_long : PySem.W.nsIn K mainGlobals "first_long" = some (some (.ref f_first_long)))
    (l_first_long : K.lookup f_first_long = some ⟨oc_first_long, od_first_long, .func (PySem.W.fnOf "first_long" "first_long" (defArgs s_first_long) (defBody s_first_long) (defScope s_first_long) .none kV_first_long dc_first_long pm_first_long an_first_long cd_first_long ct_first_long), sl_first_long⟩)
    (c_first_long : PySem.W.codeIn K cd_first_long "first_long" = true)
    (k_first_long : PySem.W.keepIn K (.ref f_first_long) = true)
    (a_is_row : PySem.W.nsIn K mainGlobals "is_row" = some (some (.ref f_is_row)))
    (l_is_row : K.lookup f_is_row = some ⟨oc_is_row, od_is_row, .func (PySem.W.fnOf "is_row" "is_row" (defArgs s_is_row) (defBody s_is_row) (defScope s_is_row) .none kV_is_row dc_is_row pm_is_row an_is_row cd_is_row ct_is_row), sl_is_row⟩)
    (c_is_row : PySem.W.codeIn K cd_is_row "is_row" = true)
    (k_is_row : PySem.W.keepIn K (.ref f_is_row) = true)
    (a_is_whole : PySem.W.nsIn K mainGlobals "is_whole" = some (some (.ref f_is_whole)))
    (l_is_whole : K.lookup f_is_whole = some ⟨oc_is_whole, od_is_whole, .func (PySem.W.fnOf "is_whole" "is_whole" (defArgs s_is_whole) (defBody s_is_whole) (defScope s_is_whole) .none kV_is_whole dc_is_whole pm_is_whole an_is_whole cd_is_whole ct_is_whole), sl_is_whole⟩)
    (c_is_whole : PySem.W.codeIn K cd_is_whole "is_whole" = true)
    (k_is_whole : PySem.W.keepIn K (.ref f_is_whole) = true)
    (a_is_within : PySem.W.nsIn K mainGlobals "is_within" = some (some (.ref f_is_within)))
    (l_is_within : K.lookup f_is_within = some ⟨oc_is_within, od_is_within, .func (PySem.W.fnOf "is_within" "is_within" (defArgs s_is_within) (defBody s_is_within) (defScope s_is_within) .none kV_is_within dc_is_within pm_is_within an_is_within cd_is_within ct_is_within), sl_is_within⟩)
    (c_is_within : PySem.W.codeIn K cd_is_within "is_within" = true)
    (k_is_within : PySem.W.keepIn K (.ref f_is_within) = true)
    (a_is_times_row : PySem.W.nsIn K mainGlobals "is_times_row" = some (some (.ref f_is_times_row)))
    (l_is_times_row : K.lookup f_is_times_row = some ⟨oc_is_times_row, od_is_times_row, .func (PySem.W.fnOf "is_times_row" "is_times_row" (defArgs s_is_times_row) (defBody s_is_times_row) (defScope s_is_times_row) .none kV_is_times_row dc_is_times_row pm_is_times_row an_is_times_row cd_is_times_row ct_is_times_row), sl_is_times_row⟩)
    (c_is_times_row : PySem.W.codeIn K cd_is_times_row "is_times_row" = true)
    (k_is_times_row : PySem.W.keepIn K (.ref f_is_times_row) = true)
    (a_wrong_place : PySem.W.nsIn K mainGlobals "wrong_place" = some (some (.ref f_wrong_place)))
    (l_wrong_place : K.lookup f_wrong_place = some ⟨oc_wrong_place, od_wrong_place, .func (PySem.W.fnOf "wrong_place" "wrong_place" (defArgs s_wrong_place) (defBody s_wrong_place) (defScope s_wrong_place) .none kV_wrong_place dc_wrong_place pm_wrong_place an_wrong_place cd_wrong_place ct_wrong_place), sl_wrong_place⟩)
    (c_wrong_place : PySem.W.codeIn K cd_wrong_place "wrong_place" = true)
    (k_wrong_place : PySem.W.keepIn K (.ref f_wrong_place) = true)
    (a_are_times : PySem.W.nsIn K mainGlobals "are_times" = some (some (.ref f_are_times)))
    (l_are_times : K.lookup f_are_times = some ⟨oc_are_times, od_are_times, .func (PySem.W.fnOf "are_times" "are_times" (defArgs s_are_times) (defBody s_are_times) (defScope s_are_times) .none kV_are_times dc_are_times pm_are_times an_are_times cd_are_times ct_are_times), sl_are_times⟩)
    (c_are_times : PySem.W.codeIn K cd_are_times "are_times" = true)
    (k_are_times : PySem.W.keepIn K (.ref f_are_times) = true)
    (a__law_refusal : PySem.W.nsIn K mainGlobals "_law_refusal" = some (some (.ref f__law_refusal)))
    (l__law_refusal : K.lookup f__law_refusal = some ⟨oc__law_refusal, od__law_refusal, .func (PySem.W.fnOf "_law_refusal" "_law_refusal" (defArgs s__law_refusal) (defBody s__law_refusal) (defScope s__law_refusal) .none kV__law_refusal dc__law_refusal pm__law_refusal an__law_refusal cd__law_refusal ct__law_refusal), sl__law_refusal⟩)
    (c__law_refusal : PySem.W.codeIn K cd__law_refusal "_law_refusal" = true)
    (k__law_refusal : PySem.W.keepIn K (.ref f__law_refusal) = true)
    (a__law_told : PySem.W.nsIn K mainGlobals "_law_told" = some (some (.ref f__law_told)))
    (l__law_told : K.lookup f__law_told = some ⟨oc__law_told, od__law_told, .func (PySem.W.fnOf "_law_told" "_law_told" (defArgs s__law_told) (defBody s__law_told) (defScope s__law_told) .none kV__law_told dc__law_told pm__law_told an__law_told cd__law_told ct__law_told), sl__law_told⟩)
    (c__law_told : PySem.W.codeIn K cd__law_told "_law_told" = true)
    (k__law_told : PySem.W.keepIn K (.ref f__law_told) = true)
    (a__law_same : PySem.W.nsIn K mainGlobals "_law_same" = some (some (.ref f__law_same)))
    (l__law_same : K.lookup f__law_same = some ⟨oc__law_same, od__law_same, .func (PySem.W.fnOf "_law_same" "_law_same" (defArgs s__law_same) (defBody s__law_same) (defScope s__law_same) .none kV__law_same dc__law_same pm__law_same an__law_same cd__law_same ct__law_same), sl__law_same⟩)
    (c__law_same : PySem.W.codeIn K cd__law_same "_law_same" = true)
    (k__law_same : PySem.W.keepIn K (.ref f__law_same) = true)
    (a__law_odd : PySem.W.nsIn K mainGlobals "_law_odd" = some (some (.ref f__law_odd)))
    (l__law_odd : K.lookup f__law_odd = some ⟨oc__law_odd, od__law_odd, .func (PySem.W.fnOf "_law_odd" "_law_odd" (defArgs s__law_odd) (defBody s__law_odd) (defScope s__law_odd) .none kV__law_odd dc__law_odd pm__law_odd an__law_odd cd__law_odd ct__law_odd), sl__law_odd⟩)
    (c__law_odd : PySem.W.codeIn K cd__law_odd "_law_odd" = true)
    (k__law_odd : PySem.W.keepIn K (.ref f__law_odd) = true)
    (a_shortest : PySem.W.nsIn K mainGlobals "shortest" = some (some (.ref f_shortest)))
    (l_shortest : K.lookup f_shortest = some ⟨oc_shortest, od_shortest, .func (PySem.W.fnOf "shortest" "shortest" (defArgs s_shortest) (defBody s_shortest) (defScope s_shortest) .none kV_shortest dc_shortest pm_shortest an_shortest cd_shortest ct_shortest), sl_shortest⟩)
    (c_shortest : PySem.W.codeIn K cd_shortest "shortest" = true)
    (k_shortest : PySem.W.keepIn K (.ref f_shortest) = true)
    (a_place_told : PySem.W.nsIn K mainGlobals "place_told" = some (some (.ref f_place_told)))
    (l_place_told : K.lookup f_place_told = some ⟨oc_place_told, od_place_told, .func (PySem.W.fnOf "place_told" "place_told" (defArgs s_place_told) (defBody s_place_told) (defScope s_place_told) .none kV_place_told dc_place_told pm_place_told an_place_told cd_place_told ct_place_told), sl_place_told⟩)
    (c_place_told : PySem.W.codeIn K cd_place_told "place_told" = true)
    (k_place_told : PySem.W.keepIn K (.ref f_place_told) = true)
    (a_require_times : PySem.W.nsIn K mainGlobals "require_times" = some (some (.ref f_require_times)))
    (l_require_times : K.lookup f_require_times = some ⟨oc_require_times, od_require_times, .func (PySem.W.fnOf "require_times" "require_times" (defArgs s_require_times) (defBody s_require_times) (defScope s_require_times) .none kV_require_times dc_require_times pm_require_times an_require_times cd_require_times ct_require_times), sl_require_times⟩)
    (c_require_times : PySem.W.codeIn K cd_require_times "require_times" = true)
    (k_require_times : PySem.W.keepIn K (.ref f_require_times) = true)
    (a_require_needs : PySem.W.nsIn K mainGlobals "require_needs" = some (some (.ref f_require_needs)))
    (l_require_needs : K.lookup f_require_needs = some ⟨oc_require_needs, od_require_needs, .func (PySem.W.fnOf "require_needs" "require_needs" (defArgs s_require_needs) (defBody s_require_needs) (defScope s_require_needs) .none kV_require_needs dc_require_needs pm_require_needs an_require_needs cd_require_needs ct_require_needs), sl_require_needs⟩)
    (c_require_needs : PySem.W.codeIn K cd_require_needs "require_needs" = true)
    (k_require_needs : PySem.W.keepIn K (.ref f_require_needs) = true)
    (a_fleet : PySem.W.nsIn K mainGlobals "fleet" = some (some (.ref f_fleet)))
    (l_fleet : K.lookup f_fleet = some ⟨oc_fleet, od_fleet, .func (PySem.W.fnOf "fleet" "fleet" (defArgs s_fleet) (defBody s_fleet) (defScope s_fleet) .none kV_fleet dc_fleet pm_fleet an_fleet cd_fleet ct_fleet), sl_fleet⟩)
    (c_fleet : PySem.W.codeIn K cd_fleet "fleet" = true)
    (k_fleet : PySem.W.keepIn K (.ref f_fleet) = true)
    (a_follows : PySem.W.nsIn K mainGlobals "follows" = some (some (.ref f_follows)))
    (l_follows : K.lookup f_follows = some ⟨oc_follows, od_follows, .func (PySem.W.fnOf "follows" "follows" (defArgs s_follows) (defBody s_follows) (defScope s_follows) .none kV_follows dc_follows pm_follows an_follows cd_follows ct_follows), sl_follows⟩)
    (c_follows : PySem.W.codeIn K cd_follows "follows" = true)
    (k_follows : PySem.W.keepIn K (.ref f_follows) = true)
    (a_least_fleet : PySem.W.nsIn K mainGlobals "least_fleet" = some (some (.ref f_least_fleet)))
    (l_least_fleet : K.lookup f_least_fleet = some ⟨oc_least_fleet, od_least_fleet, .func (PySem.W.fnOf "least_fleet" "least_fleet" (defArgs s_least_fleet) (defBody s_least_fleet) (defScope s_least_fleet) .none kV_least_fleet dc_least_fleet pm_least_fleet an_least_fleet cd_least_fleet ct_least_fleet), sl_least_fleet⟩)
    (c_least_fleet : PySem.W.codeIn K cd_least_fleet "least_fleet" = true)
    (k_least_fleet : PySem.W.keepIn K (.ref f_least_fleet) = true)
    (a_apart : PySem.W.nsIn K mainGlobals "apart" = some (some (.ref f_apart)))
    (l_apart : K.lookup f_apart = some ⟨oc_apart, od_apart, .func (PySem.W.fnOf "apart" "apart" (defArgs s_apart) (defBody s_apart) (defScope s_apart) .none kV_apart dc_apart pm_apart an_apart cd_apart ct_apart), sl_apart⟩)
    (c_apart : PySem.W.codeIn K cd_apart "apart" = true)
    (k_apart : PySem.W.keepIn K (.ref f_apart) = true)
    (a_is_fleet : PySem.W.nsIn K mainGlobals "is_fleet" = some (some (.ref f_is_fleet)))
    (l_is_fleet : K.lookup f_is_fleet = some ⟨oc_is_fleet, od_is_fleet, .func (PySem.W.fnOf "is_fleet" "is_fleet" (defArgs s_is_fleet) (defBody s_is_fleet) (defScope s_is_fleet) .none kV_is_fleet dc_is_fleet pm_is_fleet an_is_fleet cd_is_fleet ct_is_fleet), sl_is_fleet⟩)
    (c_is_fleet : PySem.W.codeIn K cd_is_fleet "is_fleet" = true)
    (k_is_fleet : PySem.W.keepIn K (.ref f_is_fleet) = true)
    (a_are_apart : PySem.W.nsIn K mainGlobals "are_apart" = some (some (.ref f_are_apart)))
    (l_are_apart : K.lookup f_are_apart = some ⟨oc_are_apart, od_are_apart, .func (PySem.W.fnOf "are_apart" "are_apart" (defArgs s_are_apart) (defBody s_are_apart) (defScope s_are_apart) .none kV_are_apart dc_are_apart pm_are_apart an_are_apart cd_are_apart ct_are_apart), sl_are_apart⟩)
    (c_are_apart : PySem.W.codeIn K cd_are_apart "are_apart" = true)
    (k_are_apart : PySem.W.keepIn K (.ref f_are_apart) = true)
    (a_shows_least : PySem.W.nsIn K mainGlobals "shows_least" = some (some (.ref f_shows_least)))
    (l_shows_least : K.lookup f_shows_least = some ⟨oc_shows_least, od_shows_least, .func (PySem.W.fnOf "shows_least" "shows_least" (defArgs s_shows_least) (defBody s_shows_least) (defScope s_shows_least) .none kV_shows_least dc_shows_least pm_shows_least an_shows_least cd_shows_least ct_shows_least), sl_shows_least⟩)
    (c_shows_least : PySem.W.codeIn K cd_shows_least "shows_least" = true)
    (k_shows_least : PySem.W.keepIn K (.ref f_shows_least) = true)
    (a_idle : PySem.W.nsIn K mainGlobals "idle" = some (some (.ref f_idle)))
    (l_idle : K.lookup f_idle = some ⟨oc_idle, od_idle, .func (PySem.W.fnOf "idle" "idle" (defArgs s_idle) (defBody s_idle) (defScope s_idle) .none kV_idle dc_idle pm_idle an_idle cd_idle ct_idle), sl_idle⟩)
    (c_idle : PySem.W.codeIn K cd_idle "idle" = true)
    (k_idle : PySem.W.keepIn K (.ref f_idle) = true)
    (a_law : PySem.W.nsIn K mainGlobals "law" = some (some (.ref f_law)))
    (l_law : K.lookup f_law = some ⟨oc_law, od_law, .func (PySem.W.fnOf "law" "law" (defArgs s_law) (defBody s_law) (defScope s_law) .none kV_law dc_law pm_law an_law (.ref cd_law) ct_law), sl_law⟩)
    (c_law : PySem.W.codeIn K (.ref cd_law) "law" = true)
    (k_law : PySem.W.keepIn K (.ref f_law) = true)
    (tb_law : PySem.W.tabIn K "law" = some (cd_law, P_law))
    (re_law : ((PyProof.Rows.recsOf q).find? (fun e => e.name == ("law" : Str))).isSome = true)
    (no_tabs : PySem.W.noTabs K = true) :
    AtCall l.prog w K mg 12 63 "script" fa h := by
  constructor
  have GG := T0.g
  have e := hfa.symm.trans (PySem.W.mg_of X GG a_law)
  cases e
  have T : Facts K mg := ⟨PySem.W.mg_none_of X GG z_ValueError, PySem.W.mg_none_of X GG z_all, PySem.W.mg_none_of X GG z_any, PySem.W.mg_none_of X GG z_bool, PySem.W.mg_none_of X GG z_enumerate, PySem.W.mg_none_of X GG z_int, PySem.W.mg_none_of X GG z_isinstance, PySem.W.mg_none_of X GG z_len, PySem.W.mg_none_of X GG z_list, PySem.W.mg_none_of X GG z_min, PySem.W.mg_none_of X GG z_range, PySem.W.mg_none_of X GG z_repr, PySem.W.mg_none_of X GG z_str, PySem.W.mg_none_of X GG z_tuple, ⟨_, PySem.W.mg_of X GG q_MOST_HOUSES⟩, ⟨_, PySem.W.mg_of X GG q_MOST_TIME⟩⟩
  have F__law_least := fun_mk (st := s__law_least) l__law_least c__law_least k__law_least
  have b__law_least := F__law_least.binds (ps := ["rows"]) fun _ _ _ _ _ _ us hl => match us, hl with | [_], _ => rfl
  have F__law_taken := fun_mk (st := s__law_taken) l__law_taken c__law_taken k__law_taken
  have b__law_taken := F__law_taken.binds (ps := ["row", "many"]) fun _ _ _ _ _ _ us hl => match us, hl with | [_, _], _ => rfl
  have F__law_pick := fun_mk (st := s__law_pick) l__law_pick c__law_pick k__law_pick
  have b__law_pick := F__law_pick.binds (ps := ["row", "things"]) fun _ _ _ _ _ _ us hl => match us, hl with | [_, _], _ => rfl
  have F__law_alike := fun_mk (st := s__law_alike) l__law_alike c__law_alike k__law_alike
  have b__law_alike := F__law_alike.binds (ps := ["found", "due"]) fun _ _ _ _ _ _ us hl => match us, hl with | [_, _], _ => rfl
  have F_first_long := fun_mk (st := s_first_long) l_first_long c_first_long k_first_long
  have b_first_long := F_first_long.binds (ps := ["times"]) fun _ _ _ _ _ _ us hl => match us, hl with | [_], _ => rfl
  have F_is_row := fun_mk (st := s_is_row) l_is_row c_is_row k_is_row
  have b_is_row := F_is_row.binds (ps := ["value", "size"]) fun _ _ _ _ _ _ us hl => match us, hl with | [_, _], _ => rfl
  have F_is_whole := fun_mk (st := s_is_whole) l_is_whole c_is_whole k_is_whole
  have b_is_whole := F_is_whole.binds (ps := ["value"]) fun _ _ _ _ _ _ us hl => match us, hl with | [_], _ => rfl
  have F_is_within := fun_mk (st := s_is_within) l_is_within c_is_within k_is_within
  have b_is_within := F_is_within.binds (ps := ["value", "least", "most"]) fun _ _ _ _ _ _ us hl => match us, hl with | [_, _, _], _ => rfl
  have F_is_times_row := fun_mk (st := s_is_times_row) l_is_times_row c_is_times_row k_is_times_row
  have b_is_times_row := F_is_times_row.binds (ps := ["row", "size", "place"]) fun _ _ _ _ _ _ us hl => match us, hl with | [_, _, _], _ => rfl
  have F_wrong_place := fun_mk (st := s_wrong_place) l_wrong_place c_wrong_place k_wrong_place
  have b_wrong_place := F_wrong_place.binds (ps := ["times"]) fun _ _ _ _ _ _ us hl => match us, hl with | [_], _ => rfl
  have F_are_times := fun_mk (st := s_are_times) l_are_times c_are_times k_are_times
  have b_are_times := F_are_times.binds (ps := ["value"]) fun _ _ _ _ _ _ us hl => match us, hl with | [_], _ => rfl
  have F__law_refusal := fun_mk (st := s__law_refusal) l__law_refusal c__law_refusal k__law_refusal
  have b__law_refusal := F__law_refusal.binds (ps := ["e"]) fun _ _ _ _ _ _ us hl => match us, hl with | [_], _ => rfl
  have F__law_told := fun_mk (st := s__law_told) l__law_told c__law_told k__law_told
  have b__law_told := F__law_told.binds (ps := ["call"]) fun _ _ _ _ _ _ us hl => match us, hl with | [_], _ => rfl
  have F__law_same := fun_mk (st := s__law_same) l__law_same c__law_same k__law_same
  have b__law_same := F__law_same.binds (ps := ["found", "due"]) fun _ _ _ _ _ _ us hl => match us, hl with | [_, _], _ => rfl
  have F__law_odd := fun_mk (st := s__law_odd) l__law_odd c__law_odd k__law_odd
  have b__law_odd := F__law_odd.binds (ps := ["row"]) fun _ _ _ _ _ _ us hl => match us, hl with | [_], _ => rfl
  have F_shortest := fun_mk (st := s_shortest) l_shortest c_shortest k_shortest
  have b_shortest := F_shortest.binds (ps := ["rows"]) fun _ _ _ _ _ _ us hl => match us, hl with | [_], _ => rfl
  have F_place_told := fun_mk (st := s_place_told) l_place_told c_place_told k_place_told
  have b_place_told := F_place_told.binds (ps := ["place"]) fun _ _ _ _ _ _ us hl => match us, hl with | [_], _ => rfl
  have F_require_times := fun_mk (st := s_require_times) l_require_times c_require_times k_require_times
  have b_require_times := F_require_times.binds (ps := ["times"]) fun _ _ _ _ _ _ us hl => match us, hl with | [_], _ => rfl
  have F_require_needs := fun_mk (st := s_require_needs) l_require_needs c_require_needs k_require_needs
  have b_require_needs := F_require_needs.binds (ps := ["times", "needs"]) fun _ _ _ _ _ _ us hl => match us, hl with | [_, _], _ => rfl
  have F_fleet := fun_mk (st := s_fleet) l_fleet c_fleet k_fleet
  have b_fleet := F_fleet.binds (ps := ["times", "needs"]) fun _ _ _ _ _ _ us hl => match us, hl with | [_, _], _ => rfl
  have F_follows := fun_mk (st := s_follows) l_follows c_follows k_follows
  have b_follows := F_follows.binds (ps := ["times", "needs"]) fun _ _ _ _ _ _ us hl => match us, hl with | [_, _], _ => rfl
  have F_least_fleet := fun_mk (st := s_least_fleet) l_least_fleet c_least_fleet k_least_fleet
  have b_least_fleet := F_least_fleet.binds (ps := ["times", "needs"]) fun _ _ _ _ _ _ us hl => match us, hl with | [_, _], _ => rfl
  have F_apart := fun_mk (st := s_apart) l_apart c_apart k_apart
  have b_apart := F_apart.binds (ps := ["times", "needs"]) fun _ _ _ _ _ _ us hl => match us, hl with | [_, _], _ => rfl
  have F_is_fleet := fun_mk (st := s_is_fleet) l_is_fleet c_is_fleet k_is_fleet
  have b_is_fleet := F_is_fleet.binds (ps := ["times", "needs", "value"]) fun _ _ _ _ _ _ us hl => match us, hl with | [_, _, _], _ => rfl
  have F_are_apart := fun_mk (st := s_are_apart) l_are_apart c_are_apart k_are_apart
  have b_are_apart := F_are_apart.binds (ps := ["times", "needs", "value"]) fun _ _ _ _ _ _ us hl => match us, hl with | [_, _, _], _ => rfl
  have F_shows_least := fun_mk (st := s_shows_least) l_shows_least c_shows_least k_shows_least
  have b_shows_least := F_shows_least.binds (ps := ["times", "needs", "rows", "many"]) fun _ _ _ _ _ _ us hl => match us, hl with | [_, _, _, _], _ => rfl
  have F_idle := fun_mk (st := s_idle) l_idle c_idle k_idle
  have b_idle := F_idle.binds (ps := ["times", "needs", "rows"]) fun _ _ _ _ _ _ us hl => match us, hl with | [_, _, _], _ => rfl
  have F_law := funC_mk (s := s_law) l_law c_law k_law
  obtain ⟨hd_law, ta_law⟩ := tab_at T0 X re_law tb_law
  have b_law := F_law.fn.binds (ps := ["script"]) fun _ _ _ _ _ _ us hl => match us, hl with | [_], _ => rfl
  refine ⟨PySem.W.fnOf "law" "law" (defArgs s_law) (defBody s_law) (defScope s_law) .none kV_law dc_law pm_law an_law (.ref cd_law) ct_law, [(cd_law, P_law)], spM (GW K [("BadTimes", C_BadTimes)] [(P_law, (("law" : Str) ++ (".<locals>." : Str) ++ ("<lambda>" : Str)))]) 1 dn_law, ?_, ?_, ?_, fun s v => .of_eq rfl, ?_, fun base KB NB TBs => ?_⟩
  · intro p hp
    simp only [List.mem_cons, List.not_mem_nil, or_false] at hp
    obtain rfl := hp
    exact ta_law
  · intro p hp
    simp only [List.mem_cons, List.not_mem_nil, or_false] at hp
    obtain rfl := hp
    exact tab_out X ta_law no_tabs
  · intro p hp
    simp only [List.mem_cons, List.not_mem_nil, or_false] at hp
    obtain rfl := hp
    exact hd_law
  · intro H a ns hl hb ht hS
    refine law_sp (K := K) (main ns hl hb) hS rfl ?_
    intro p hp
    obtain ⟨x, hx, ex⟩ : ∃ x ∈ ([(cd_law, P_law)] : List (Addr × Addr)), x.2 = p.1 := by
      simp only [GW, List.mem_cons, List.not_mem_nil, or_false] at hp
      rcases hp with rfl
      exact ⟨(cd_law, P_law), by simp, rfl⟩
    exact PZ.tab0 (Z := fun _ => False) id (ex ▸ ht x hx)
  have XF : FactsX l.prog w K mg base (GW K [("BadTimes", C_BadTimes)] [(P_law, (("law" : Str) ++ (".<locals>." : Str) ++ ("<lambda>" : Str)))]) := ⟨⟨fun c C h => (excAll_ok ex_all c C h).1, fun c C h => (excAll_ok ex_all c C h).2⟩, ⟨_, PySem.W.mg_of X GG a_NothingDone, kitAll_ok kt_NothingDone⟩, ⟨_, PySem.W.mg_of X GG a_BadClaim, kitAll_ok kt_BadClaim⟩, ⟨_, PySem.W.mg_of X GG a_NotAgreed, kitAll_ok kt_NotAgreed⟩, ⟨_, PySem.W.mg_of X GG a_NotPossible, kitAll_ok kt_NotPossible⟩, ⟨_, PySem.W.mg_of X GG a_BadLine, kitAll_ok kt_BadLine⟩, ⟨_, PySem.W.mg_of X GG a_BadText, kitAll_ok kt_BadText⟩, ⟨_, PySem.W.mg_of X GG a_BadSigns, kitAll_ok kt_BadSigns⟩, ⟨_, PySem.W.mg_of X GG a_BadSuspects, kitAll_ok kt_BadSuspects⟩, ⟨_, PySem.W.mg_of X GG a_BadMoves, kitAll_ok kt_BadMoves⟩, ⟨_, PySem.W.mg_of X GG a_BadCounts, kitAll_ok kt_BadCounts⟩, ⟨_, PySem.W.mg_of X GG a_BadRows, kitAll_ok kt_BadRows⟩, ⟨_, PySem.W.mg_of X GG a_BadNeeds, kitAll_ok kt_BadNeeds⟩, ⟨_, PySem.W.mg_of X GG a_BadTimes, kitAll_ok kt_BadTimes⟩, ⟨_, PySem.W.mg_of X GG a_BadCourse, kitAll_ok kt_BadCourse⟩, ⟨_, PySem.W.mg_of X GG a_TooMany, kitAll_ok kt_TooMany⟩, ⟨_, PySem.W.mg_of X GG a_UnknownHouse, kitAll_ok kt_UnknownHouse⟩, ⟨_, PySem.W.mg_of X GG a_UnknownKind, kitAll_ok kt_UnknownKind⟩, ⟨_, PySem.W.mg_of X GG a_BadOrder, kitAll_ok kt_BadOrder⟩, ⟨_, PySem.W.mg_of X GG a_BadNumber, kitAll_ok kt_BadNumber⟩, ⟨_, PySem.W.mg_of X GG a_BadPlan, kitAll_ok kt_BadPlan⟩, kitAll_ok kt_ValueError, noAll_ok nf_limit, noAll_ok nf_line, noAll_ok nf_name, noAll_ok nf_part, noAll_ok nf_place, noAll_ok nf_value, x_BadTimes (supK_mk o_BadTimes v_BadTimes l_BadTimes lc_BadTimes fi_BadTimes fe_BadTimes ce_BadTimes b_BadTimes (PySem.W.mg_none_of X GG z_super) htop) (PySem.W.mg_of X GG a_BadTimes) rfl⟩
  have hTB := TBs
  have m__law_least := ok__law_least (P := l.prog) (w := w) (base := base) (G := (GW K [("BadTimes", C_BadTimes)] [(P_law, (("law" : Str) ++ (".<locals>." : Str) ++ ("<lambda>" : Str)))])) T XF rfl F__law_least (PySem.W.mg_of X GG a__law_least) b__law_least 
  have m__law_taken := ok__law_taken (P := l.prog) (w := w) (base := base) (G := (GW K [("BadTimes", C_BadTimes)] [(P_law, (("law" : Str) ++ (".<locals>." : Str) ++ ("<lambda>" : Str)))])) T XF rfl F__law_taken (PySem.W.mg_of X GG a__law_taken) b__law_taken 
  have m__law_pick := ok__law_pick (P := l.prog) (w := w) (base := base) (G := (GW K [("BadTimes", C_BadTimes)] [(P_law, (("law" : Str) ++ (".<locals>." : Str) ++ ("<lambda>" : Str)))])) T XF rfl F__law_pick (PySem.W.mg_of X GG a__law_pick) b__law_pick m__law_taken
  have m__law_alike := ok__law_alike (P := l.prog) (w := w) (base := base) (G := (GW K [("BadTimes", C_BadTimes)] [(P_law, (("law" : Str) ++ (".<locals>." : Str) ++ ("<lambda>" : Str)))])) T XF rfl F__law_alike (PySem.W.mg_of X GG a__law_alike) b__law_alike 
  have m_first_long := ok_first_long (P := l.prog) (w := w) (base := base) (G := (GW K [("BadTimes", C_BadTimes)] [(P_law, (("law" : Str) ++ (".<locals>." : Str) ++ ("<lambda>" : Str)))])) T XF rfl F_first_long (PySem.W.mg_of X GG a_first_long) b_first_long 
  have m_is_row := ok_is_row (P := l.prog) (w := w) (base := base) (G := (GW K [("BadTimes", C_BadTimes)] [(P_law, (("law" : Str) ++ (".<locals>." : Str) ++ ("<lambda>" : Str)))])) T XF rfl F_is_row (PySem.W.mg_of X GG a_is_row) b_is_row 
  have m_is_whole := ok_is_whole (P := l.prog) (w := w) (base := base) (G := (GW K [("BadTimes", C_BadTimes)] [(P_law, (("law" : Str) ++ (".<locals>." : Str) ++ ("<lambda>" : Str)))])) T XF rfl F_is_whole (PySem.W.mg_of X GG a_is_whole) b_is_whole 
  have m_is_within := ok_is_within (P := l.prog) (w := w) (base := base) (G := (GW K [("BadTimes", C_BadTimes)] [(P_law, (("law" : Str) ++ (".<locals>." : Str) ++ ("<lambda>" : Str)))])) T XF rfl F_is_within (PySem.W.mg_of X GG a_is_within) b_is_within m_is_whole
  have m_is_times_row := ok_is_times_row (P := l.prog) (w := w) (base := base) (G := (GW K [("BadTimes", C_BadTimes)] [(P_law, (("law" : Str) ++ (".<locals>." : Str) ++ ("<lambda>" : Str)))])) T XF rfl F_is_times_row (PySem.W.mg_of X GG a_is_times_row) b_is_times_row m_is_row m_is_within
  have m_wrong_place := ok_wrong_place (P := l.prog) (w := w) (base := base) (G := (GW K [("BadTimes", C_BadTimes)] [(P_law, (("law" : Str) ++ (".<locals>." : Str) ++ ("<lambda>" : Str)))])) T XF rfl F_wrong_place (PySem.W.mg_of X GG a_wrong_place) b_wrong_place m_first_long m_is_times_row
  have m_are_times := ok_are_times (P := l.prog) (w := w) (base := base) (G := (GW K [("BadTimes", C_BadTimes)] [(P_law, (("law" : Str) ++ (".<locals>." : Str) ++ ("<lambda>" : Str)))])) T XF rfl F_are_times (PySem.W.mg_of X GG a_are_times) b_are_times m_wrong_place
  have m__law_refusal := ok__law_refusal (P := l.prog) (w := w) (base := base) (G := (GW K [("BadTimes", C_BadTimes)] [(P_law, (("law" : Str) ++ (".<locals>." : Str) ++ ("<lambda>" : Str)))])) T XF rfl F__law_refusal
  have m__law_told := ok__law_told (P := l.prog) (w := w) (base := base) (G := (GW K [("BadTimes", C_BadTimes)] [(P_law, (("law" : Str) ++ (".<locals>." : Str) ++ ("<lambda>" : Str)))])) F__law_told (PySem.W.mg_of X GG a__law_told) b__law_told F__law_refusal (PySem.W.mg_of X GG a__law_refusal) b__law_refusal m__law_refusal (PySem.W.mg_of X GG a_CrateError) (exmAll_ok em_CrateError)
  have m__law_same := ok__law_same (P := l.prog) (w := w) (base := base) (G := (GW K [("BadTimes", C_BadTimes)] [(P_law, (("law" : Str) ++ (".<locals>." : Str) ++ ("<lambda>" : Str)))])) T XF rfl F__law_same (PySem.W.mg_of X GG a__law_same) b__law_same 
  have m__law_odd := ok__law_odd (P := l.prog) (w := w) (base := base) (G := (GW K [("BadTimes", C_BadTimes)] [(P_law, (("law" : Str) ++ (".<locals>." : Str) ++ ("<lambda>" : Str)))])) T XF rfl F__law_odd (PySem.W.mg_of X GG a__law_odd) b__law_odd m__law_pick
  have m_shortest := ok_shortest (P := l.prog) (w := w) (base := base) (G := (GW K [("BadTimes", C_BadTimes)] [(P_law, (("law" : Str) ++ (".<locals>." : Str) ++ ("<lambda>" : Str)))])) T XF rfl F_shortest (PySem.W.mg_of X GG a_shortest) b_shortest m_is_times_row
  have m_place_told := ok_place_told (P := l.prog) (w := w) (base := base) (G := (GW K [("BadTimes", C_BadTimes)] [(P_law, (("law" : Str) ++ (".<locals>." : Str) ++ ("<lambda>" : Str)))])) T XF rfl F_place_told (PySem.W.mg_of X GG a_place_told) b_place_told 
  have m_require_times := ok_require_times (P := l.prog) (w := w) (base := base) (G := (GW K [("BadTimes", C_BadTimes)] [(P_law, (("law" : Str) ++ (".<locals>." : Str) ++ ("<lambda>" : Str)))])) T XF rfl F_require_times (PySem.W.mg_of X GG a_require_times) b_require_times m_wrong_place m_place_told
  have m_require_needs := ok_require_needs (P := l.prog) (w := w) (base := base) (G := (GW K [("BadTimes", C_BadTimes)] [(P_law, (("law" : Str) ++ (".<locals>." : Str) ++ ("<lambda>" : Str)))])) T XF rfl F_require_needs (PySem.W.mg_of X GG a_require_needs) b_require_needs m_require_times
  have m_fleet := ok_fleet (P := l.prog) (w := w) (base := base) (G := (GW K [("BadTimes", C_BadTimes)] [(P_law, (("law" : Str) ++ (".<locals>." : Str) ++ ("<lambda>" : Str)))])) T XF rfl F_fleet (PySem.W.mg_of X GG a_fleet) b_fleet m_require_needs
  have m_follows := ok_follows (P := l.prog) (w := w) (base := base) (G := (GW K [("BadTimes", C_BadTimes)] [(P_law, (("law" : Str) ++ (".<locals>." : Str) ++ ("<lambda>" : Str)))])) T XF rfl F_follows (PySem.W.mg_of X GG a_follows) b_follows m_require_needs
  have m_least_fleet := ok_least_fleet (P := l.prog) (w := w) (base := base) (G := (GW K [("BadTimes", C_BadTimes)] [(P_law, (("law" : Str) ++ (".<locals>." : Str) ++ ("<lambda>" : Str)))])) T XF rfl F_least_fleet (PySem.W.mg_of X GG a_least_fleet) b_least_fleet m_fleet
  have m_apart := ok_apart (P := l.prog) (w := w) (base := base) (G := (GW K [("BadTimes", C_BadTimes)] [(P_law, (("law" : Str) ++ (".<locals>." : Str) ++ ("<lambda>" : Str)))])) T XF rfl F_apart (PySem.W.mg_of X GG a_apart) b_apart m_require_needs
  have m_is_fleet := ok_is_fleet (P := l.prog) (w := w) (base := base) (G := (GW K [("BadTimes", C_BadTimes)] [(P_law, (("law" : Str) ++ (".<locals>." : Str) ++ ("<lambda>" : Str)))])) T XF rfl F_is_fleet (PySem.W.mg_of X GG a_is_fleet) b_is_fleet m_require_needs
  have m_are_apart := ok_are_apart (P := l.prog) (w := w) (base := base) (G := (GW K [("BadTimes", C_BadTimes)] [(P_law, (("law" : Str) ++ (".<locals>." : Str) ++ ("<lambda>" : Str)))])) T XF rfl F_are_apart (PySem.W.mg_of X GG a_are_apart) b_are_apart m_require_needs
  have m_shows_least := ok_shows_least (P := l.prog) (w := w) (base := base) (G := (GW K [("BadTimes", C_BadTimes)] [(P_law, (("law" : Str) ++ (".<locals>." : Str) ++ ("<lambda>" : Str)))])) T XF rfl F_shows_least (PySem.W.mg_of X GG a_shows_least) b_shows_least m_is_fleet m_are_apart
  have m_idle := ok_idle (P := l.prog) (w := w) (base := base) (G := (GW K [("BadTimes", C_BadTimes)] [(P_law, (("law" : Str) ++ (".<locals>." : Str) ++ ("<lambda>" : Str)))])) T XF rfl F_idle (PySem.W.mg_of X GG a_idle) b_idle m_is_fleet
  have hu_law : ∀ p ∈ (GW K [("BadTimes", C_BadTimes)] [(P_law, (("law" : Str) ++ (".<locals>." : Str) ++ ("<lambda>" : Str)))]).T, p.1 = P_law → p.2 = (("law" : Str) ++ (".<locals>." : Str) ++ ("<lambda>" : Str)) := by
    intro p hp e
    simp only [GW, List.mem_cons, List.not_mem_nil, or_false] at hp
    rcases hp with rfl
    rfl
  exact ok_law (P := l.prog) (w := w) (base := base) (G := (GW K [("BadTimes", C_BadTimes)] [(P_law, (("law" : Str) ++ (".<locals>." : Str) ++ ("<lambda>" : Str)))])) T XF rfl (hTB (cd_law, P_law) (by simp)) (by simp [GW]) hu_law F_law hfa b_law m__law_least m__law_taken m__law_pick (m__law_alike 10) m_are_times m__law_told m__law_same m__law_odd m_shortest m_fleet m_follows m_least_fleet m_apart m_is_fleet m_are_apart m_shows_least m_idle
theorem walk {l : PySem.W.OpenLaw} {q : Program} {loose : List Str} {XP : (Str → Option Value) → Heap → Prop} {YP : World → Heap → Prop} {d : DefRec} {K : Params → PySem.W.Frag} (hn : l.most = some 63) (hdf : d.params.defaults = [])
    (hY : ∀ (w : World) (h : Heap), YP w h → (K w.params).In h)
    (F : ∀ (w : World) (mg mb : Str → Option Value) (mean : ExcName → Option Value) (fa : Addr) (h : Heap), PyProof.Rows.Top q (PySem.W.looseW q loose) mean mg mb h → (K w.params).In h → mg d.name = some (.ref fa) → AtCall l.prog w (K w.params) mg 12 63 "script" fa h) :
    PySem.W.WalkO q loose XP YP l.row.toRowW d [] (fun f vs => PySem.call f vs) :=
  M.walk_at hn (by rw [sizeLine_eq]; decide) hdf ⟨rfl, by decide, by decide⟩ hY F
end Law
namespace Law
open PySem PySem.Spec L2 M
theorem sm31 : small 31 = true := small_iff.mpr (by omega)
theorem sm48 : small 48271 = true := small_iff.mpr (by omega)
theorem taken {ns : List Int} {row : List D} {rest : Sto} {m : Int} (hr : RowOk ns row) (hf : Flat rest) (h0 : 0 < m) (h1 : m ≤ 1000000) :
    ∃ v row', RowOk ns row' ∧ 0 ≤ v ∧ v < m ∧ dn__law_taken [.r 0, .p (.int m)] (.lst row :: rest) = .ok (.int v) (.lst row' :: rest) := by
  obtain ⟨i, r, c, rfl, hi, hr0, hr1, hc⟩ := hr
  have hm : m < 1073741824 := by omega
  by_cases hc0 : 0 < c
  · refine ⟨c % m, [.scr ns, .int i, .int r, .int (c / m)], ⟨i, r, c / m, rfl, hi, hr0, hr1, Int.ediv_nonneg hc (by omega)⟩, Int.emod_nonneg _ (by omega), Int.emod_lt_of_pos _ h0, ?_⟩
    simp [dn__law_taken, lstAt, thaw, dIx, atI, ixN, dGt, dMod, dInt, dFdiv, hc0, h0, hm, hf.all]
  · have hc0' : c = 0 := by omega
    subst hc0'
    by_cases hl : (ns.length : Int) < i + 1
    · refine ⟨(r * 48271 + 11) % 2147483647 / 7 % m, [.scr ns, .int (i + 1), .int ((r * 48271 + 11) % 2147483647), .int 0], ⟨_, _, _, rfl, by omega, Int.emod_nonneg _ (by omega), Int.emod_lt_of_pos _ (by omega), by omega⟩, Int.emod_nonneg _ (by omega), Int.emod_lt_of_pos _ h0, ?_⟩
      simp [dn__law_taken, lstAt, thaw, dIx, atI, ixN, dGt, dMod, dInt, dFdiv, dAdd, dMul, dLen, sm31, sm48, h0, hm, hl, hf.all]
    · obtain ⟨cell, hcell⟩ : ∃ cell, ns[i.toNat]? = some cell := ⟨_, List.getElem?_eq_getElem (show i.toNat < ns.length by omega)⟩
      have hi2 : i < (ns.length : Int) := by omega
      have hx : atI ns i = some cell := by
        unfold atI ixN
        rw [if_pos hi, if_pos hi2]
        exact hcell
      have hp : (10 : Int) ^ (18 : Nat) = 1000000000000000000 := by decide
      have hsm : ∀ z : Int, small (z % 1000003) = true := fun z => by
        have h1 := Int.emod_nonneg z (show (1000003 : Int) ≠ 0 by decide)
        have h2 := Int.emod_lt_of_pos z (show (0 : Int) < 1000003 by decide)
        exact small_iff.mpr (by omega)
      by_cases hg : (1000000000000000000 : Int) ≤ cell
      · refine ⟨cell % m, [.scr ns, .int (i + 1), .int ((r * 48271 + cell + 11) % 2147483647), .int (cell / m)], ⟨_, _, _, rfl, by omega, Int.emod_nonneg _ (by omega), Int.emod_lt_of_pos _ (by omega), Int.ediv_nonneg (by omega) (by omega)⟩, Int.emod_nonneg _ (by omega), Int.emod_lt_of_pos _ h0, ?_⟩
        simp [dn__law_taken, lstAt, thaw, dIx, ixN, atI_4, hx, dGt, dGe, dMod, dInt, dFdiv, dAdd, dSub, dMul, dPow, dLen, sm31, sm48, h0, hm, hl, hf.all, hg, hp]
      · refine ⟨(cell % 1000003 * 31 + (r * 48271 + cell + 11) % 2147483647 / 11) % m, [.scr ns, .int (i + 1), .int ((r * 48271 + cell + 11) % 2147483647), .int 0], ⟨_, _, _, rfl, by omega, Int.emod_nonneg _ (by omega), Int.emod_lt_of_pos _ (by omega), by omega⟩, Int.emod_nonneg _ (by omega), Int.emod_lt_of_pos _ h0, ?_⟩
        simp [dn__law_taken, lstAt, thaw, dIx, ixN, atI_4, hx, dGt, dGe, dMod, dInt, dFdiv, dAdd, dSub, dMul, dPow, dLen, sm31, sm48, h0, hm, hl, hf.all, hg, hp]
theorem pick_ok {ns : List Int} {row : List D} {rest : Sto} {ds : List D} (hr : RowOk ns row) (hf : Flat rest) (h0 : 0 < ds.length) (h1 : ds.length ≤ 1000000) :
    ∃ d row', RowOk ns row' ∧ d ∈ ds ∧ dn__law_pick [.r 0, .p (.lst ds)] (.lst row :: rest) = .ok d (.lst row' :: rest) := by
  obtain ⟨v, row', hr', v0, v1, e⟩ := taken (m := ds.length) hr hf (by omega) (by omega)
  obtain ⟨n, rfl⟩ := Int.eq_ofNat_of_zero_le v0
  have hn : n < ds.length := by omega
  refine ⟨ds[n], row', hr', List.getElem_mem hn, ?_⟩
  simp [dn__law_pick, dLen, e, dIx, atI_nat ds n hn, hf.all]
/-! ### alike -/
theorem alike_int (n : Nat) (a b : Int) : dn__law_alike (n + 1) [.p (.int a), .p (.int b)] [] = .ok (.bl (a == b)) [] := by
  unfold dn__law_alike
  simp [dIs, dEq, D.isNon]
theorem alike_non (n : Nat) : dn__law_alike (n + 1) [.p .non, .p .non] [] = .ok (.bl true) [] := by
  unfold dn__law_alike
  simp [dIs, dEq, D.isNon]
theorem alike_bl (n : Nat) (a b : Bool) : dn__law_alike (n + 1) [.p (.bl a), .p (.bl b)] [] = .ok (.bl (a == b)) [] := by
  unfold dn__law_alike
  simp [dIs, dEq, D.isNon]
inductive Good : Nat → D → Prop
  | non {n} : Good n .non
  | int {n i} : Good n (.int i)
  | bl {n b} : Good n (.bl b)
  | tup {n l} : l.length ≤ 1000000 → (∀ x ∈ l, Good n x) → Good (n + 1) (.tup l)
theorem Good.flat : ∀ {n : Nat} {d : D}, Good n d → D.flat n d = true
  | _, _, .non => by simp
  | _, _, .int => by simp
  | _, _, .bl => by simp
  | n + 1, .tup l, .tup _ h => by
    rw [flat_tup, flats_all, List.all_eq_true]
    exact fun x hx => Good.flat (h x hx)
theorem alike_refl : ∀ (n : Nat) (d : D), Good n d → dn__law_alike (n + 1) [.p d, .p d] [] = .ok (.bl true) []
  | n, _, .non => alike_non n
  | n, _, .int => by rw [alike_int]; simp
  | n, _, .bl => by rw [alike_bl]; simp
  | n + 1, .tup l, .tup hl h => by
    have hc := compL_map (g := gN 2) (ft := eNot (eB (eCall 2 (dn__law_alike (n + 1)) (eCons (eOp2 dIx (eVar 0) (eVar 2)) (eCons (eOp2 dIx (eVar 1) (eVar 2)) eNil))))) (fe := eVar 2) (ρ := [some (.p (.tup l)), some (.p (.tup l)), none]) (st := []) (fun i : Nat => D.int (i : Nat)) (fun _ => false) (fun i : Nat => D.int (i : Nat)) (List.range l.length) (by
      intro i hi
      have hi := List.mem_range.mp hi
      refine ⟨_, rfl, ?_, by simp⟩
      have ih := alike_refl n l[i] (h _ (List.getElem_mem hi))
      simp [dIx, atI_nat l i hi, ih])
    have hf : (List.range l.length).filter (fun _ => false) = [] := by simp
    rw [hf, List.map_nil] at hc
    unfold dn__law_alike
    simp [dLen, dNe, dEq, bigR_of (i := (l.length : Int)) (by omega) (by omega), rngL0, wipeE, sz hl, hc]
theorem is_whole_int (i : Int) : dn_is_whole [.p (.int i)] [] = .ok (.bl true) [] := by
  simp [dn_is_whole]
theorem is_within_int (v a b : Int) : dn_is_within [.p (.int v), .p (.int a), .p (.int b)] [] = .ok (.bl (decide (a ≤ v) && decide (v ≤ b))) [] := by
  simp [dn_is_within, is_whole_int, dLe]
  by_cases h : a ≤ v <;> simp [h]
/-- what is no number in the bounds -/
inductive BadN (lo hi : Int) : D → Prop
  | int {i} : ¬ (lo ≤ i ∧ i ≤ hi) → BadN lo hi (.int i) | non : BadN lo hi .non | bl b : BadN lo hi (.bl b) | str x : BadN lo hi (.str x)
theorem within_bad {lo hi : Int} {d : D} (h : BadN lo hi d) : dn_is_within [.p d, .p (.int lo), .p (.int hi)] [] = .ok (.bl false) [] := by
  cases h with
  | int h => rw [is_within_int, ← Bool.decide_and, decide_eq_false h]
  | _ => simp [dn_is_within, dn_is_whole]
theorem same_ok {d : D} {w : Nat} (h : Rp 60 d w) (hw : w ≤ 10000) : dn__law_same [.p d, .p d] [] = .ok (.bl true) [] := by
  simp [dn__law_same, dRepr_of h hw, dEqS]
end Law
namespace M
open PySem PySem.Spec L2
theorem compNL_all {α : Type} {g : GD} {fe : Env → Sto → Res O} {ρ : Env} (enc : α → D) (f : α → O) : ∀ (xs : List α) (st : Sto), (∀ x ∈ xs, ∃ ρ1, g (enc x) ρ = some ρ1 ∧ ∀ st, fe ρ1 st = .ok (f x) st) → compNL g eYes fe ρ (xs.map enc) st = .ok ((List.range xs.length).map (· + st.length)) (st ++ xs.map f)
  | [], st, _ => by simp [compNL]
  | x :: xs, st, h => by
    obtain ⟨ρ1, h1, h2⟩ := h x List.mem_cons_self
    have ih := compNL_all enc f xs (st ++ [f x]) fun y hy => h y (List.mem_cons_of_mem _ hy)
    rw [List.map_cons]
    unfold compNL
    simp only [h1, eYes, h2, ih, Res.bind, List.length_cons, List.map_cons, List.append_assoc, List.singleton_append]
    rw [List.range_succ_eq_map, List.map_cons, List.map_map]
    congr 1
    rw [Nat.zero_add]
    congr 1
    apply List.map_congr_left
    intro i _
    simp only [Function.comp_apply, List.length_append, List.length_singleton]
    omega
theorem frzAll_lst : ∀ (rs : List (List D)) (pre tail : Sto), frzAll ((List.range rs.length).map (· + pre.length)) (pre ++ rs.map O.lst ++ tail) = pre ++ rs.map (fun l => O.frz (.lst l)) ++ tail
  | [], pre, tail => by simp [frzAll]
  | r :: rs, pre, tail => by
    have ih := frzAll_lst rs (pre ++ [O.frz (.lst r)]) tail
    rw [List.length_cons, List.range_succ_eq_map, List.map_cons, List.map_map]
    unfold frzAll
    have e1 : (pre ++ (r :: rs).map O.lst ++ tail)[0 + pre.length]? = some (.lst r) := by simp
    have e2 : (pre ++ (r :: rs).map O.lst ++ tail).set (0 + pre.length) (.frz (.lst r)) = (pre ++ [O.frz (.lst r)]) ++ rs.map O.lst ++ tail := by simp
    rw [e1]
    simp only [Option.bind, thaw]
    rw [e2]
    have e3 : (List.range rs.length).map ((· + pre.length) ∘ Nat.succ) = (List.range rs.length).map (· + (pre ++ [O.frz (.lst r)]).length) := by
      apply List.map_congr_left
      intro i _
      simp only [Function.comp_apply, List.length_append, List.length_singleton]
      omega
    rw [e3, ih]
    simp
theorem frozen_lst : ∀ (rs : List (List D)) (pre tail : Sto), frozen (pre ++ rs.map (fun l => O.frz (.lst l)) ++ tail) ((List.range rs.length).map (· + pre.length)) = some (rs.map D.lst)
  | [], pre, tail => by simp [frozen]
  | r :: rs, pre, tail => by
    have ih := frozen_lst rs (pre ++ [O.frz (.lst r)]) tail
    rw [List.length_cons, List.range_succ_eq_map, List.map_cons (f := (· + pre.length)), List.map_map (f := Nat.succ)]
    unfold frozen
    have e1 : (pre ++ (r :: rs).map (fun l => O.frz (.lst l)) ++ tail)[0 + pre.length]? = some (.frz (.lst r)) := by simp
    rw [e1]
    have e3 : (List.range rs.length).map ((· + pre.length) ∘ Nat.succ) = (List.range rs.length).map (· + (pre ++ [O.frz (.lst r)]).length) := by
      apply List.map_congr_left
      intro i _
      simp only [Function.comp_apply, List.length_append, List.length_singleton]
      omega
    have e4 : pre ++ (r :: rs).map (fun l => O.frz (.lst l)) ++ tail = (pre ++ [O.frz (.lst r)]) ++ rs.map (fun l => O.frz (.lst l)) ++ tail := by simp
    rw [e3, e4, ih]
    rfl
/-! ### square tables -/
def rowL (n : Nat) (F : Nat → Nat → Int) (a : Nat) : List Int := (List.range n).map fun b => F a b
def rowD (n : Nat) (F : Nat → Nat → Int) (a : Nat) : List D := (rowL n F a).map .int
def matD (n : Nat) (F : Nat → Nat → Int) : List D := (List.range n).map fun a => D.tup (rowD n F a)
def stM (n : Nat) (F : Nat → Nat → Int) : Sto := (List.range n).map (fun a => O.lst (rowD n F a)) ++ [.rows (List.range n)]
def upd2 (F : Nat → Nat → Int) (a b : Nat) (v : Int) : Nat → Nat → Int := fun i j => if i = a ∧ j = b then v else F i j
theorem rowL_len {n F a} : (rowL n F a).length = n := by simp [rowL]
theorem rowD_len {n F a} : (rowD n F a).length = n := by simp [rowD, rowL]
theorem matD_len {n F} : (matD n F).length = n := by simp [matD]
theorem rowD_congr {n : Nat} {F E : Nat → Nat → Int} {a : Nat} (h : ∀ b < n, F a b = E a b) : rowD n F a = rowD n E a := by
  unfold rowD rowL
  rw [List.map_congr_left fun b hb => h b (List.mem_range.mp hb)]
theorem stM_congr {n : Nat} {F E : Nat → Nat → Int} (h : ∀ a < n, ∀ b < n, F a b = E a b) : stM n F = stM n E := by
  unfold stM
  rw [List.map_congr_left fun a ha => congrArg O.lst (rowD_congr (h a (List.mem_range.mp ha)))]
theorem matD_congr {n : Nat} {F E : Nat → Nat → Int} (h : ∀ a < n, ∀ b < n, F a b = E a b) : matD n F = matD n E := by
  unfold matD
  exact List.map_congr_left fun a ha => congrArg D.tup (rowD_congr (h a (List.mem_range.mp ha)))
theorem atI_rowD {n : Nat} {F : Nat → Nat → Int} {a b : Nat} (hb : b < n) : atI (rowD n F a) (b : Int) = some (.int (F a b)) := by
  rw [atI_nat _ b (by rw [rowD_len]; exact hb)]
  simp [rowD, rowL]
theorem atI_matD {n : Nat} {F : Nat → Nat → Int} {a : Nat} (ha : a < n) : atI (matD n F) (a : Int) = some (.tup (rowD n F a)) := by
  rw [atI_nat _ a (by rw [matD_len]; exact ha)]
  simp [matD]
theorem stM_end {n : Nat} {F : Nat → Nat → Int} : (stM n F)[n]? = some (.rows (List.range n)) := by
  unfold stM
  rw [List.getElem?_append_right (by simp)]
  simp
theorem stM_row {n : Nat} {F : Nat → Nat → Int} {a : Nat} (ha : a < n) : (stM n F)[a]? = some (.lst (rowD n F a)) := by
  unfold stM
  rw [List.getElem?_append_left (by simpa using ha), List.getElem?_map, List.getElem?_range ha]
  rfl
theorem rowsAt_stM {n i : Nat} {F : Nat → Nat → Int} {ρ : Env} (hi : ρ[i]? = some (some (.r n))) : rowsAt i ρ (stM n F) = some (List.range n) := by
  unfold rowsAt
  rw [hi]
  simp only [stM_end]
theorem rowNo_range {n a : Nat} (ha : a < n) : rowNo (.int (a : Nat)) (some (List.range n)) = some a := by
  show atI (List.range n) (a : Int) = some a
  rw [atI_nat _ a (by simpa using ha)]
  simp
theorem lstN_stM {n a : Nat} {F : Nat → Nat → Int} (ha : a < n) : lstN a (stM n F) = some (rowD n F a) := by
  unfold lstN
  rw [stM_row ha]
theorem ix2_ok {n i a b : Nat} {F : Nat → Nat → Int} {ρ : Env} {f h : Den} (hi : ρ[i]? = some (some (.r n))) (ha : a < n) (hb : b < n) (hf : f ρ (stM n F) = .ok (.int (a : Nat)) (stM n F)) (hh : h ρ (stM n F) = .ok (.int (b : Nat)) (stM n F)) :
    eIx2 i f h ρ (stM n F) = .ok (.int (F a b)) (stM n F) := by
  have e : cellN (lstN a (stM n F)) (.int (b : Nat)) = some (.int (F a b)) := by
    rw [lstN_stM ha]
    exact atI_rowD hb
  simp only [eIx2, rowsAt_stM hi, hf, Res.bind, rowNo_range ha, hh, e]
theorem rowD_upd {n a b : Nat} {F : Nat → Nat → Int} {v : Int} (hb : b < n) : (rowD n F a).set b (.int v) = rowD n (upd2 F a b v) a := by
  apply List.ext_getElem
  · simp [rowD_len]
  · intro i h1 h2
    rw [List.getElem_set]
    simp only [rowD, rowL, List.getElem_map, List.getElem_range, upd2]
    split
    · rename_i h; subst h; simp
    · rename_i h
      have : ¬ (i = b) := fun e => h e.symm
      simp [this]
theorem stM_upd {n a b : Nat} {F : Nat → Nat → Int} {v : Int} (ha : a < n) (hb : b < n) : (stM n F).set a (.lst ((rowD n F a).set b (.int v))) = stM n (upd2 F a b v) := by
  rw [rowD_upd hb]
  unfold stM
  rw [List.set_append_left _ _ (by simpa using ha)]
  congr 1
  apply List.ext_getElem
  · simp
  · intro i h1 h2
    rw [List.getElem_set]
    simp only [List.getElem_map, List.getElem_range]
    split
    · rename_i h; subst h; rfl
    · rename_i h
      exact congrArg O.lst (rowD_congr fun c _ => by unfold upd2; rw [if_neg fun q => h q.1.symm])
theorem set2_ok {n i a b : Nat} {F : Nat → Nat → Int} {v : Int} {ρ : Env} {f h fe : Den} (hi : ρ[i]? = some (some (.r n))) (ha : a < n) (hb : b < n) (he : fe ρ (stM n F) = .ok (.int v) (stM n F)) (hf : f ρ (stM n F) = .ok (.int (a : Nat)) (stM n F)) (hh : h ρ (stM n F) = .ok (.int (b : Nat)) (stM n F)) :
    sSetIx2 i f h fe ρ (stM n F) = .next ρ (stM n (upd2 F a b v)) := by
  have hx : ixN (rowD n F a).length (b : Int) = some b := by
    unfold ixN
    rw [if_pos (by omega), rowD_len, if_pos (by omega)]
    simp
  simp only [sSetIx2, sOf, he, rowsAt_stM hi, hf, rowNo_range ha, hh, setRow, lstN_stM ha, hx, stM_upd ha hb]
theorem varR_ok {n i : Nat} {F : Nat → Nat → Int} {ρ : Env} (hi : ρ[i]? = some (some (.r n))) : ∃ st', eVarR i ρ (stM n F) = .ok (.lst ((List.range n).map fun a => D.lst (rowD n F a))) st' := by
  have e0 : stM n F = [] ++ ((List.range n).map fun a => rowD n F a).map O.lst ++ [.rows (List.range n)] := by
    unfold stM
    rw [List.map_map]
    rfl
  have e1 := frzAll_lst ((List.range n).map fun a => rowD n F a) [] [.rows (List.range n)]
  have e2 := frozen_lst ((List.range n).map fun a => rowD n F a) [] [.rows (List.range n)]
  rw [← e0] at e1
  simp only [List.length_map, List.length_range, List.length_nil, Nat.add_zero, List.map_id', List.map_id_fun'] at e1 e2
  have e3 : rowsAt i ρ (frzAll (List.range n) (stM n F)) = some (List.range n) := by
    unfold rowsAt
    rw [hi]
    simp only
    rw [show frzAll (List.range n) (stM n F) = _ from (by simpa using e1)]
    rw [List.getElem?_append_right (by simp)]
    simp
  have e4 : frozen (frzAll (List.range n) (stM n F)) (List.range n) = some ((List.range n).map fun a => D.lst (rowD n F a)) := by
    rw [show frzAll (List.range n) (stM n F) = _ from (by simpa using e1)]
    have := e2
    simp only [List.nil_append, List.map_map] at this
    simpa [Function.comp_def] using this
  refine ⟨(frzAll (List.range n) (stM n F)).set n (.frz (.lst ((List.range n).map fun a => D.lst (rowD n F a)))), ?_⟩
  simp only [eVarR, hi, rowsAt_stM hi, e3, e4]
end M
namespace Law
/-! ### least ways: the plain law -/
def W (A : Nat → Nat → Int) : Nat → Nat → Nat → Int
  | 0 => A
  | t + 1 => fun a b => min (W A t a b) (W A t a t + W A t t b)
section
variable {A : Nat → Nat → Int}
structure Tab (A : Nat → Nat → Int) : Prop where
  nn : ∀ a b, 0 ≤ A a b
  dg : ∀ a, A a a = 0
theorem W_nn (h : Tab A) : ∀ t a b, 0 ≤ W A t a b
  | 0, a, b => h.nn a b
  | t + 1, a, b => by
    have h1 := W_nn h t a b
    have h2 := W_nn h t a t
    have h3 := W_nn h t t b
    show 0 ≤ min _ _
    omega
theorem W_dg (h : Tab A) : ∀ t a, W A t a a = 0
  | 0, a => h.dg a
  | t + 1, a => by
    have h1 := W_dg h t a
    have h2 := W_nn h t a t
    have h3 := W_nn h t t a
    show min _ _ = 0
    omega
theorem W_step (t a b : Nat) : W A (t + 1) a b ≤ W A t a b := by show min _ _ ≤ _; omega
theorem W_le : ∀ t a b, W A t a b ≤ A a b
  | 0, a, b => Int.le_refl _
  | t + 1, a, b => Int.le_trans (W_step t a b) (W_le t a b)
theorem W_row (h : Tab A) (t b : Nat) : W A (t + 1) t b = W A t t b := by
  have := W_dg h t t
  show min _ _ = _
  omega
theorem W_col (h : Tab A) (t a : Nat) : W A (t + 1) a t = W A t a t := by
  have := W_dg h t t
  show min _ _ = _
  omega
theorem W_tri (h : Tab A) : ∀ t k, k < t → ∀ a b, W A t a b ≤ W A t a k + W A t k b
  | t + 1, k, hk, a, b => by
    by_cases e : k = t
    · subst e
      rw [W_row h, W_col h]
      show min _ _ ≤ _
      omega
    · have hk : k < t := by omega
      have q1 := W_tri h t k hk a b
      have q2 := W_tri h t k hk t b
      have q3 := W_tri h t k hk a t
      have n1 := W_nn h t t k
      have n2 := W_nn h t k t
      show min (W A t a b) (W A t a t + W A t t b) ≤ min (W A t a k) (W A t a t + W A t t k) + min (W A t k b) (W A t k t + W A t t b)
      omega
theorem W_fix {n : Nat} (h : ∀ a < n, ∀ b < n, ∀ c < n, A a b ≤ A a c + A c b) : ∀ t, t ≤ n → ∀ a < n, ∀ b < n, W A t a b = A a b
  | 0, _, _, _, _, _ => rfl
  | t + 1, ht, a, ha, b, hb => by
    have e1 := W_fix h t (by omega) a ha b hb
    have e2 := W_fix h t (by omega) a ha t (by omega)
    have e3 := W_fix h t (by omega) t (by omega) b hb
    have := h a ha b hb t (by omega)
    show min _ _ = _
    rw [e1, e2, e3]
    omega
end
end Law
namespace M
open PySem PySem.Spec L2
theorem forL_findA {α : Type} {v : Nat} {fb : SDen} {st : Sto} {vs : List Nat} {base : Env} (enc : α → D) (r : α → Option D) (hv : v ∈ vs) (hl : v < base.length) : ∀ (xs : List α), (∀ x ∈ xs, ∀ ρ, Agr vs base ρ → At ρ v (enc x) → match r x with | some d => fb ρ st = .ret d st | none => ∃ ρ', Agr vs base ρ' ∧ fb ρ st = .next ρ' st) →
    ∀ ρ, Agr vs base ρ → match xs.findSome? r with | some d => forL (gN v) fb (xs.map enc) ρ st = .ret d st | none => ∃ ρ', Agr vs base ρ' ∧ forL (gN v) fb (xs.map enc) ρ st = .next ρ' st
  | [], _, ρ, h => ⟨ρ, h, rfl⟩
  | x :: xs, hs, ρ, h => by
    have h1 := hs x List.mem_cons_self (ρ.set v (some (.p (enc x)))) (h.set hv) (gself (by rw [h.1]; exact hl))
    rw [List.findSome?_cons]
    cases hr : r x with
    | some d =>
      rw [hr] at h1
      simp only
      rw [List.map_cons, forL_ret (ρ1 := ρ.set v (some (.p (enc x)))) rfl h1]
    | none =>
      rw [hr] at h1
      obtain ⟨ρ1, a1, e1⟩ := h1
      have ih := forL_findA enc r hv hl xs (fun y hy => hs y (List.mem_cons_of_mem _ hy)) ρ1 a1
      simp only
      rw [List.map_cons, forL_cons (ρ1 := ρ.set v (some (.p (enc x)))) rfl e1]
      exact ih
abbrev gE (p r : Nat) : GD := gT (gsCons (gN p) (gsCons (gN r) gsNil)) 2
theorem gE_ok {p r k : Nat} {d : D} {ρ : Env} : gE p r (.tup [.int (k : Nat), d]) ρ = some ((ρ.set p (some (.p (.int (k : Nat))))).set r (some (.p d))) := rfl
/-- enumerate: a turn that goes on or leaves -/
theorem enum_all {p r : Nat} (hpr : p ≠ r) {fb : SDen} {st : Sto} {base : Env} (hp : p < base.length) (hr : r < base.length) : ∀ (ds : List D) (k : Nat), (∀ i d ρ, ds[i]? = some d → Agr [p, r] base ρ → At ρ p (.int ((k + i : Nat) : Int)) → At ρ r d → fb ρ st = .next ρ st) →
    ∀ ρ, Agr [p, r] base ρ → ∀ rest, ∃ ρ', Agr [p, r] base ρ' ∧ forL (gE p r) fb (enumL k ds ++ rest) ρ st = forL (gE p r) fb rest ρ' st
  | [], k, _, ρ, h, rest => ⟨ρ, h, rfl⟩
  | d :: ds, k, hs, ρ, h, rest => by
    have a1 : Agr [p, r] base ((ρ.set p (some (.p (.int (k : Nat))))).set r (some (.p d))) := (h.set (by simp)).set (by simp)
    have lp : p < ρ.length := by rw [h.1]; exact hp
    have lr : r < ρ.length := by rw [h.1]; exact hr
    have e1 := hs 0 d _ rfl a1 ((gset (Ne.symm hpr)).trans (gself lp)) (gself (by simpa using lr))
    obtain ⟨ρ', a2, e2⟩ := enum_all hpr hp hr ds (k + 1) (fun i d ρ hd a b c => hs (i + 1) d ρ (by simpa using hd) a (by rw [show k + (i + 1) = k + 1 + i by omega]; exact b) c) _ a1 rest
    refine ⟨ρ', a2, ?_⟩
    unfold enumL
    rw [List.cons_append, forL_cons gE_ok e1]
    exact e2
theorem enumL_app : ∀ (a b : List D) (k : Nat), enumL k (a ++ b) = enumL k a ++ enumL (k + a.length) b
  | [], b, k => by simp [enumL]
  | x :: a, b, k => by
    simp only [List.cons_append, enumL, enumL_app a b (k + 1), List.length_cons]
    rw [show k + 1 + a.length = k + (a.length + 1) by omega]
end M
namespace Law
open PySem PySem.Spec L2 M
def okE : D → Bool | .int i => decide (0 ≤ i) && decide (i ≤ 99) | _ => false
def okZ (xs : List D) (a : Nat) : Bool := match xs[a]? with | some (.int i) => i == 0 | _ => false
/-- a right row of a table -/
def okT (n a : Nat) : D → Bool | .tup xs => decide (xs.length = n) && (xs.all okE && okZ xs a) | _ => false
/-- what can stand in a row's place -/
inductive RowV : D → Prop
  | no {d} : NoTup d → RowV d | tup {xs : List D} : xs.length ≤ 1000 → (∀ d ∈ xs, d = .non ∨ ∃ i, d = .int i) → RowV (.tup xs)
theorem is_row_tup (l : List D) (n : Int) : dn_is_row [.p (.tup l), .p (.int n)] [] = .ok (.bl ((l.length : Int) == n)) [] := by
  simp [dn_is_row, dLen, dEq]
theorem is_row_no {d : D} (h : NoTup d) (n : Int) : dn_is_row [.p d, .p (.int n)] [] = .ok (.bl false) [] := by
  cases h <;> simp [dn_is_row]
theorem within_el {d : D} (h : d = .non ∨ ∃ i, d = .int i) : dn_is_within [.p d, .p (.int 0), .p (.int 99)] [] = .ok (.bl (okE d)) [] := by
  rcases h with rfl | ⟨i, rfl⟩
  · exact within_bad .non
  · exact is_within_int i 0 99
theorem times_row {d : D} (h : RowV d) {n a : Nat} (ha : a < n) : dn_is_times_row [.p d, .p (.int (n : Nat)), .p (.int (a : Nat))] [] = .ok (.bl (okT n a d)) [] := by
  cases h with
  | no h =>
    have e : okT n a d = false := by cases h <;> rfl
    simp [dn_is_times_row, is_row_no h, e]
  | @tup xs hl hx =>
    have hc := compL_all (g := gN 3) (fe := eCall 3 dn_is_within (eCons (eVar 3) (eCons (eC (.int 0)) (eCons (eC (.int 99)) eNil)))) (ρ := [some (.p (.tup xs)), some (.p (.int (n : Nat))), some (.p (.int (a : Nat))), none]) (st := []) (fun d : D => d) (fun d => D.bl (okE d)) xs (by
      intro d hd
      exact ⟨_, rfl, by simp [within_el (hx d hd)]⟩)
    rw [List.map_id'] at hc
    have hs : xs.length ≤ sizeLine := sz (by omega)
    by_cases e1 : xs.length = n
    · subst e1
      cases e2 : xs.all okE with
      | false => simp [dn_is_times_row, is_row_tup, itemsOf, hs, wipeE, hc, dAll_bl, e2, okT]
      | true =>
        have hi : ∃ i, xs[a]? = some (.int i) := by
          have h0 : xs[a]? = some xs[a] := List.getElem?_eq_getElem ha
          rcases hx xs[a] (List.getElem_mem ha) with h | ⟨i, h⟩
          · have := List.all_eq_true.mp e2 xs[a] (List.getElem_mem ha)
            rw [h] at this
            cases this
          · exact ⟨i, by rw [h0, h]⟩
        obtain ⟨i, hi⟩ := hi
        have hat : atI xs (a : Int) = some (.int i) := by
          rw [atI_nat xs a ha]
          rw [List.getElem?_eq_getElem ha] at hi
          exact hi
        simp [dn_is_times_row, is_row_tup, itemsOf, hs, wipeE, hc, dAll_bl, e2, okT, dIx, hat, okZ, hi, dEq]
    · have e : ¬ ((xs.length : Int) = (n : Int)) := by omega
      simp [dn_is_times_row, is_row_tup, e, okT, e1]
section
variable {n : Nat} {F : Nat → Nat → Int}
theorem okT_row {a : Nat} (ha : a < n) (h0 : ∀ b < n, 0 ≤ F a b ∧ F a b ≤ 99) (hd : F a a = 0) : okT n a (.tup (rowD n F a)) = true := by
  have h1 : (rowD n F a).all okE = true := by
    rw [List.all_eq_true]
    intro d hd
    obtain ⟨i, hi, rfl⟩ := List.mem_map.mp hd
    obtain ⟨b, hb, rfl⟩ := List.mem_map.mp hi
    obtain ⟨q1, q2⟩ := h0 b (List.mem_range.mp hb)
    simp [okE, q1, q2]
  have h2 : okZ (rowD n F a) a = true := by
    unfold okZ
    have : (rowD n F a)[a]? = some (.int (F a a)) := by
      rw [List.getElem?_eq_getElem (by rw [rowD_len]; exact ha)]
      simp [rowD, rowL]
    rw [this, hd]
    rfl
  show (decide ((rowD n F a).length = n) && ((rowD n F a).all okE && okZ (rowD n F a) a)) = true
  rw [rowD_len, h1, h2]
  simp
theorem rowV_row {a : Nat} (hn : n ≤ 1000) : RowV (.tup (rowD n F a)) := .tup (by rw [rowD_len]; exact hn) fun d hd => by
  obtain ⟨i, _, rfl⟩ := List.mem_map.mp hd
  exact .inr ⟨i, rfl⟩
/-! ### first_long -/
def longC (F : Nat → Nat → Int) (a b c : Nat) : Bool := decide (F a c + F c b < F a b)
def longB (n : Nat) (F : Nat → Nat → Int) (a b : Nat) : Bool := (List.range n).any (longC F a b)
def longA (n : Nat) (F : Nat → Nat → Int) (a : Nat) : Bool := (List.range n).any (longB n F a)
def firstLong (n : Nat) (F : Nat → Nat → Int) : Option D := ((List.range n).find? (longA n F)).map fun a => D.int (a : Nat)
theorem dAny_bl {α : Type} (f : α → Bool) (l : List α) : dAny (.lst (l.map fun x => D.bl (f x))) = some (.bl (l.any f)) := by
  unfold dAny
  simp only
  rw [dBools_map2]
  simp [List.any_map]
theorem fl_e1 {ρ : M.Env} {a b c : Nat} (ha : a < n) (hb : b < n) (hc : c < n) (h0 : At ρ 0 (.tup (matD n F))) (h2 : At ρ 2 (.int (a : Nat))) (h3 : At ρ 3 (.int (b : Nat))) (h4 : At ρ 4 (.int (c : Nat))) {st : Sto} :
    dn_first_long_e1 ρ st = .ok (.bl (longC F a b c)) st := by
  simp [dn_first_long_e1, h0, h2, h3, h4, dIx, atI_matD ha, atI_matD hc, atI_rowD hb, atI_rowD hc, dAdd, dLt, longC]
theorem fl_s2 {ρ : M.Env} {a b : Nat} (hn : n ≤ 1000) (hl : ρ.length = 5) (ha : a < n) (hb : b < n) (h0 : At ρ 0 (.tup (matD n F))) (h1 : At ρ 1 (.lst ((List.range n).map fun i : Nat => D.int (i : Nat)))) (h2 : At ρ 2 (.int (a : Nat))) (h3 : At ρ 3 (.int (b : Nat))) {st : Sto} :
    dn_first_long_s2 ρ st = if longB n F a b = true then .ret (.int (a : Nat)) st else .next ρ st := by
  have hc := compL_all (g := gN 4) (fe := dn_first_long_e1) (ρ := wipeE ρ [4]) (st := st) (fun i : Nat => D.int (i : Nat)) (fun c => D.bl (longC F a b c)) (List.range n) (by
    intro c hc
    refine ⟨(wipeE ρ [4]).set 4 (some (.p (.int (c : Nat)))), rfl, ?_⟩
    exact fl_e1 ha hb (List.mem_range.mp hc) (by (first | assumption | (((try simp only [At, wipeE]); (repeat rw [gset (by decide)])); first | assumption | (rw [gself (by (try simp only [List.length_set]); omega)])) | (simp only [wipeE, List.length_set]; omega))) (by (first | assumption | (((try simp only [At, wipeE]); (repeat rw [gset (by decide)])); first | assumption | (rw [gself (by (try simp only [List.length_set]); omega)])) | (simp only [wipeE, List.length_set]; omega))) (by (first | assumption | (((try simp only [At, wipeE]); (repeat rw [gset (by decide)])); first | assumption | (rw [gself (by (try simp only [List.length_set]); omega)])) | (simp only [wipeE, List.length_set]; omega))) (by (first | assumption | (((try simp only [At, wipeE]); (repeat rw [gset (by decide)])); first | assumption | (rw [gself (by (try simp only [List.length_set]); omega)])) | (simp only [wipeE, List.length_set]; omega))))
  have hs : n ≤ sizeLine := sz (by omega)
  simp only [dn_first_long_s2]
  cases h : longB n F a b with
  | true => unfold longB at h; simp [h1, itemsOf, hs, hc, dAny_bl, h, h2]
  | false => unfold longB at h; simp [h1, itemsOf, hs, hc, dAny_bl, h]
theorem findSome_const {α β : Type} (p : α → Bool) (z : β) (l : List α) : l.findSome? (fun x => if p x = true then some z else none) = if l.any p = true then some z else none := by
  induction l with
  | nil => simp
  | cons x l ih =>
    rw [List.findSome?_cons, List.any_cons]
    cases h : p x <;> simp [ih]
theorem findSome_find {α β : Type} (p : α → Bool) (z : α → β) (l : List α) : l.findSome? (fun x => if p x = true then some (z x) else none) = (l.find? p).map z := by
  induction l with
  | nil => simp
  | cons x l ih =>
    rw [List.findSome?_cons, List.find?_cons]
    cases h : p x <;> simp [ih]
theorem first_long (hn : n ≤ 1000) : dn_first_long [.p (.tup (matD n F))] [] = .ok ((firstLong n F).getD .non) [] := by
  have hsp : rgB 0 (n : Int) = true := rgB_of (by omega) (by omega) (by omega) (by omega)
  have hg : ∀ ρ : M.Env, ρ.length = 5 → At ρ 0 (.tup (matD n F)) → At ρ 1 (.lst ((List.range n).map fun i : Nat => D.int (i : Nat))) →
      match firstLong n F with | some d => dn_first_long_s4 ρ [] = .ret d [] | none => ∃ ρ', dn_first_long_s4 ρ [] = .next ρ' [] := by
    intro ρ hl h0 h1
    have hf := forL_findA (v := 2) (fb := dn_first_long_s3) (st := []) (vs := [2, 3]) (base := ρ) (fun i : Nat => D.int (i : Nat)) (fun a => if longA n F a = true then some (D.int (a : Nat)) else none) (by simp) (by omega) (List.range n) (by
      intro a ha ρ1 ag h2
      have ha := List.mem_range.mp ha
      have b0 : At ρ1 0 (.tup (matD n F)) := (ag.2 0 (by decide)).trans h0
      have b1 : At ρ1 1 (.lst ((List.range n).map fun i : Nat => D.int (i : Nat))) := (ag.2 1 (by decide)).trans h1
      have bl : ρ1.length = 5 := ag.1.trans hl
      have hf := forL_findA (v := 3) (fb := dn_first_long_s2) (st := []) (vs := [3]) (base := ρ1) (fun i : Nat => D.int (i : Nat)) (fun b => if longB n F a b = true then some (D.int (a : Nat)) else none) (by simp) (by omega) (List.range n) (by
        intro b hb ρ2 ag2 h3
        have hb := List.mem_range.mp hb
        have e := fl_s2 (st := []) hn (ag2.1.trans bl) ha hb ((ag2.2 0 (by decide)).trans b0) ((ag2.2 1 (by decide)).trans b1) ((ag2.2 2 (by decide)).trans h2) h3
        cases hB : longB n F a b with
        | true => rw [hB, if_pos rfl] at e; exact e
        | false => rw [hB, if_neg (by simp)] at e; exact ⟨ρ2, ag2, e⟩) ρ1 Agr.refl
      rw [findSome_const] at hf
      have hx : (List.range n).any (longB n F a) = longA n F a := rfl
      rw [hx] at hf
      cases hA : longA n F a with
      | true =>
        rw [hA, if_pos rfl] at hf
        simp only [if_true]
        simp only [dn_first_long_s3, sFor, sOf, iSeq, eVar, b1, Res.bind, itemsOf]
        exact hf
      | false =>
        rw [hA, if_neg (by simp)] at hf
        obtain ⟨ρ', a', e'⟩ := hf
        simp only [Bool.false_eq_true, if_false]
        refine ⟨ρ', ag.trans (a'.mono (by simp)), ?_⟩
        simp only [dn_first_long_s3, sFor, sOf, iSeq, eVar, b1, Res.bind, itemsOf]
        exact e') ρ Agr.refl
    rw [findSome_find (longA n F) (fun a : Nat => D.int (a : Nat))] at hf
    show match ((List.range n).find? (longA n F)).map (fun a : Nat => D.int (a : Nat)) with | some d => dn_first_long_s4 ρ [] = .ret d [] | none => ∃ ρ', dn_first_long_s4 ρ [] = .next ρ' []
    revert hf
    cases ((List.range n).find? (longA n F)).map (fun a : Nat => D.int (a : Nat)) with
    | some d =>
      intro hf
      simp only [dn_first_long_s4, sFor, sOf, iSeq, eVar, h1, Res.bind, itemsOf]
      exact hf
    | none =>
      rintro ⟨ρ', _, e'⟩
      refine ⟨ρ', ?_⟩
      simp only [dn_first_long_s4, sFor, sOf, iSeq, eVar, h1, Res.bind, itemsOf]
      exact e'
  have h1 : dn_first_long_s1 [some (.p (.tup (matD n F))), none, none, none, none] [] = .next [some (.p (.tup (matD n F))), some (.p (.lst ((List.range n).map fun i : Nat => D.int (i : Nat)))), none, none, none] [] := by
    simp [dn_first_long_s1, dLen, matD_len, rgO, hsp, rngL0]
  have h4 := hg [some (.p (.tup (matD n F))), some (.p (.lst ((List.range n).map fun i : Nat => D.int (i : Nat)))), none, none, none] rfl rfl rfl
  refine dFn_ret rfl (st' := []) ?_
  show sSeq dn_first_long_s1 (sSeq dn_first_long_s4 (sRet (eC .non))) [some (.p (.tup (matD n F))), none, none, none, none] [] = _
  rw [sSeq_next h1]
  revert h4
  cases firstLong n F with
  | some d => intro h4; exact sSeq_ret h4
  | none => rintro ⟨ρ', h4⟩; rw [sSeq_next h4]; rfl
end
end Law
namespace Law
open PySem PySem.Spec L2 M
section
variable {n : Nat} {F : Nat → Nat → Int}
/-! ### wrong_place -/
def env3 (v : D) (x y : Option S) : M.Env := [some (.p v), x, y]
theorem wp_no {v : D} (h : NoTup v) : dn_wrong_place [.p v] [] = .ok (.int (-1)) [] := by
  cases h <;> simp [dn_wrong_place, dn_wrong_place_s1, dNeg]
theorem wp_len {ds : List D} (h : ¬ (1 ≤ ds.length ∧ ds.length ≤ 6)) : dn_wrong_place [.p (.tup ds)] [] = .ok (.int (-1)) [] := by
  by_cases h1 : 1 ≤ ds.length
  · have h2 : ¬ ((ds.length : Int) ≤ 6) := by omega
    have h3 : (1 : Int) ≤ (ds.length : Int) := by omega
    simp [dn_wrong_place, dn_wrong_place_s1, dNeg, dLen, dLe, h2, h3]
  · have h3 : ¬ (1 : Int) ≤ (ds.length : Int) := by omega
    simp [dn_wrong_place, dn_wrong_place_s1, dNeg, dLen, dLe, h3]
theorem wp_s1 {ds : List D} {x y : Option S} (h1 : 1 ≤ ds.length) (h2 : ds.length ≤ 6) : dn_wrong_place_s1 (env3 (.tup ds) x y) [] = .next (env3 (.tup ds) x y) [] := by
  have h3 : (1 : Int) ≤ (ds.length : Int) := by omega
  have h4 : (ds.length : Int) ≤ 6 := by omega
  simp [dn_wrong_place_s1, env3, dLen, dLe, h3, h4]
theorem wp_s2 {ds : List D} {ρ : M.Env} {a : Nat} {d : D} (ha : a < ds.length) (hd : RowV d) (h0 : At ρ 0 (.tup ds)) (h1 : At ρ 1 (.int (a : Nat))) (h2 : At ρ 2 d) :
    dn_wrong_place_s2 ρ [] = if okT ds.length a d = true then .next ρ [] else .ret (.int (a : Nat)) [] := by
  have e := times_row hd ha
  cases h : okT ds.length a d <;> simp [dn_wrong_place_s2, h0, h1, h2, dLen, e, h]
/-- all rows right: on to first_long ; a first wrong row -/
theorem wp_all {ds : List D} (h1 : 1 ≤ ds.length) (h2 : ds.length ≤ 6) (hv : ∀ d ∈ ds, RowV d) (hok : ∀ i d, ds[i]? = some d → okT ds.length i d = true) {d : D} (hf : dn_first_long [.p (.tup ds)] [] = .ok d []) :
    dn_wrong_place [.p (.tup ds)] [] = .ok d [] := by
  obtain ⟨ρ', a, e⟩ := enum_all (p := 1) (r := 2) (by decide) (fb := dn_wrong_place_s2) (st := []) (base := env3 (.tup ds) none none) (by simp [env3]) (by simp [env3]) ds 0 (by
    intro i d ρ hd ag b1 b2
    rw [Nat.zero_add] at b1
    have hi : i < ds.length := (List.getElem?_eq_some_iff.mp hd).1
    have := wp_s2 (ρ := ρ) hi (hv d (List.mem_of_getElem? hd)) ((ag.2 0 (by decide)).trans rfl) b1 b2
    rw [if_pos (hok i d hd)] at this
    exact this) _ Agr.refl []
  rw [List.append_nil] at e
  have b0 : At ρ' 0 (.tup ds) := (a.2 0 (by decide)).trans rfl
  refine dFn_ret rfl (st' := []) ?_
  show sSeq dn_wrong_place_s1 (sSeq dn_wrong_place_s3 dn_wrong_place_s4) (env3 (.tup ds) none none) [] = _
  have e3 : dn_wrong_place_s3 (env3 (.tup ds) none none) [] = .next ρ' [] := by
    simp only [dn_wrong_place_s3, sFor, sOf, iEnumD, eVar, env3, Res.bind, List.getElem?_cons_zero]
    exact e.trans rfl
  rw [sSeq_next (wp_s1 h1 h2), sSeq_next e3]
  simp [dn_wrong_place_s4, b0, hf]
theorem wp_bad {pre post : List D} {d : D} (h2 : (pre ++ d :: post).length ≤ 6) (hv : ∀ d ∈ pre, RowV d) (hd : RowV d) (hb : okT (pre ++ d :: post).length pre.length d = false) (hok' : ∀ i z, pre[i]? = some z → okT (pre ++ d :: post).length i z = true) :
    dn_wrong_place [.p (.tup (pre ++ d :: post))] [] = .ok (.int (pre.length : Nat)) [] := by
  have hl : (pre ++ d :: post).length = pre.length + 1 + post.length := by simp; omega
  obtain ⟨ρ', a, e⟩ := enum_all (p := 1) (r := 2) (by decide) (fb := dn_wrong_place_s2) (st := []) (base := env3 (.tup (pre ++ d :: post)) none none) (by simp [env3]) (by simp [env3]) pre 0 (by
    intro i z ρ hz ag b1 b2
    rw [Nat.zero_add] at b1
    have hi : i < pre.length := (List.getElem?_eq_some_iff.mp hz).1
    have := wp_s2 (ds := pre ++ d :: post) (ρ := ρ) (a := i) (d := z) (by omega) (hv z (List.mem_of_getElem? hz)) ((ag.2 0 (by decide)).trans rfl) b1 b2
    rw [if_pos (hok' i z hz)] at this
    exact this) _ Agr.refl (enumL pre.length (d :: post))
  have hle : ρ'.length = 3 := a.1
  have e2 := wp_s2 (ds := pre ++ d :: post) (ρ := (ρ'.set 1 (some (.p (.int (pre.length : Nat))))).set 2 (some (.p d))) (a := pre.length) (d := d) (by omega) hd (by
    have : ρ'[0]? = some (some (.p (.tup (pre ++ d :: post)))) := (a.2 0 (by decide)).trans rfl
    (first | assumption | (((try simp only [At, wipeE]); (repeat rw [gset (by decide)])); first | assumption | (rw [gself (by (try simp only [List.length_set]); omega)])) | (simp only [wipeE, List.length_set]; omega))) (by (first | assumption | (((try simp only [At, wipeE]); (repeat rw [gset (by decide)])); first | assumption | (rw [gself (by (try simp only [List.length_set]); omega)])) | (simp only [wipeE, List.length_set]; omega))) (by (first | assumption | (((try simp only [At, wipeE]); (repeat rw [gset (by decide)])); first | assumption | (rw [gself (by (try simp only [List.length_set]); omega)])) | (simp only [wipeE, List.length_set]; omega)))
  rw [if_neg (by rw [hb]; simp)] at e2
  refine dFn_ret rfl (st' := []) ?_
  show sSeq dn_wrong_place_s1 (sSeq dn_wrong_place_s3 dn_wrong_place_s4) (env3 (.tup (pre ++ d :: post)) none none) [] = _
  have e3 : dn_wrong_place_s3 (env3 (.tup (pre ++ d :: post)) none none) [] = .ret (.int (pre.length : Nat)) [] := by
    simp only [dn_wrong_place_s3, sFor, sOf, iEnumD, eVar, env3, Res.bind, List.getElem?_cons_zero]
    rw [enumL_app, Nat.zero_add]
    refine e.trans ?_
    unfold enumL
    exact forL_ret gE_ok e2
  rw [sSeq_next (wp_s1 (by omega) h2), sSeq_ret e3]
/-! ### shortest -/
abbrev exT (d : D) : Res D := .exc "BadTimes" [("place", d)] []
def env8 (v : D) (x1 x2 x3 x4 x5 x6 x7 : Option S) : M.Env := [some (.p v), x1, x2, x3, x4, x5, x6, x7]
theorem sh_no {v : D} (h : NoTup v) : dn_shortest [.p v] [] = exT .non := by
  cases h <;> simp [dn_shortest, dn_shortest_s2, dn_shortest_s1, flD]
theorem sh_len {ds : List D} (h : ¬ (1 ≤ ds.length ∧ ds.length ≤ 6)) : dn_shortest [.p (.tup ds)] [] = exT .non := by
  by_cases h1 : 1 ≤ ds.length
  · have h2 : ¬ ((ds.length : Int) ≤ 6) := by omega
    have h3 : (1 : Int) ≤ (ds.length : Int) := by omega
    simp [dn_shortest, dn_shortest_s2, dn_shortest_s1, flD, dLen, dLe, h2, h3]
  · have h3 : ¬ (1 : Int) ≤ (ds.length : Int) := by omega
    simp [dn_shortest, dn_shortest_s2, dn_shortest_s1, flD, dLen, dLe, h3]
theorem sh_s2 {ds : List D} {x1 x2 x3 x4 x5 x6 x7 : Option S} (h1 : 1 ≤ ds.length) (h2 : ds.length ≤ 6) : dn_shortest_s2 (env8 (.tup ds) x1 x2 x3 x4 x5 x6 x7) [] = .next (env8 (.tup ds) x1 x2 x3 x4 x5 x6 x7) [] := by
  have h3 : (1 : Int) ≤ (ds.length : Int) := by omega
  have h4 : (ds.length : Int) ≤ 6 := by omega
  simp [dn_shortest_s2, env8, dLen, dLe, h3, h4]
theorem sh_s4 {ds : List D} {ρ : M.Env} {a : Nat} {d : D} (ha : a < ds.length) (hd : RowV d) (h0 : At ρ 0 (.tup ds)) (h1 : At ρ 4 (.int (a : Nat))) (h2 : At ρ 5 d) :
    dn_shortest_s4 ρ [] = if okT ds.length a d = true then .next ρ [] else .exc "BadTimes" [("place", .int (a : Nat))] ρ [] := by
  have e := times_row hd ha
  cases h : okT ds.length a d <;> simp [dn_shortest_s4, dn_shortest_s3, h0, h1, h2, dLen, e, h, flD]
theorem forL_exc {g : GD} {fb : SDen} {d : D} {ds : List D} {ρ ρ1 ρ2 : M.Env} {st st2 : Sto} {c : PySem.Str} {fs : List (PySem.Str × D)} (h1 : g d ρ = some ρ1) (h2 : fb ρ1 st = .exc c fs ρ2 st2) : forL g fb (d :: ds) ρ st = .exc c fs ρ2 st2 := by
  rw [forL]; simp only [h1, h2]
theorem sh_bad {pre post : List D} {d : D} (h2 : (pre ++ d :: post).length ≤ 6) (hv : ∀ d ∈ pre, RowV d) (hd : RowV d) (hb : okT (pre ++ d :: post).length pre.length d = false) (hok' : ∀ i z, pre[i]? = some z → okT (pre ++ d :: post).length i z = true) :
    dn_shortest [.p (.tup (pre ++ d :: post))] [] = exT (.int (pre.length : Nat)) := by
  have hl : (pre ++ d :: post).length = pre.length + 1 + post.length := by simp; omega
  obtain ⟨ρ', a, e⟩ := enum_all (p := 4) (r := 5) (by decide) (fb := dn_shortest_s4) (st := []) (base := env8 (.tup (pre ++ d :: post)) none none none none none none none) (by simp [env8]) (by simp [env8]) pre 0 (by
    intro i z ρ hz ag b1 b2
    rw [Nat.zero_add] at b1
    have hi : i < pre.length := (List.getElem?_eq_some_iff.mp hz).1
    have := sh_s4 (ds := pre ++ d :: post) (ρ := ρ) (a := i) (d := z) (by omega) (hv z (List.mem_of_getElem? hz)) ((ag.2 0 (by decide)).trans rfl) b1 b2
    rw [if_pos (hok' i z hz)] at this
    exact this) _ Agr.refl (enumL pre.length (d :: post))
  have hle : ρ'.length = 8 := a.1
  have e2 := sh_s4 (ds := pre ++ d :: post) (ρ := (ρ'.set 4 (some (.p (.int (pre.length : Nat))))).set 5 (some (.p d))) (a := pre.length) (d := d) (by omega) hd (by
    have : ρ'[0]? = some (some (.p (.tup (pre ++ d :: post)))) := (a.2 0 (by decide)).trans rfl
    (first | assumption | (((try simp only [At, wipeE]); (repeat rw [gset (by decide)])); first | assumption | (rw [gself (by (try simp only [List.length_set]); omega)])) | (simp only [wipeE, List.length_set]; omega))) (by (first | assumption | (((try simp only [At, wipeE]); (repeat rw [gset (by decide)])); first | assumption | (rw [gself (by (try simp only [List.length_set]); omega)])) | (simp only [wipeE, List.length_set]; omega))) (by (first | assumption | (((try simp only [At, wipeE]); (repeat rw [gset (by decide)])); first | assumption | (rw [gself (by (try simp only [List.length_set]); omega)])) | (simp only [wipeE, List.length_set]; omega)))
  rw [if_neg (by rw [hb]; simp)] at e2
  have e3 : dn_shortest_s5 (env8 (.tup (pre ++ d :: post)) none none none none none none none) [] = .exc "BadTimes" [("place", .int (pre.length : Nat))] ((ρ'.set 4 (some (.p (.int (pre.length : Nat))))).set 5 (some (.p d))) [] := by
    simp only [dn_shortest_s5, sFor, sOf, iEnumD, eVar, env8, Res.bind, List.getElem?_cons_zero]
    rw [enumL_app, Nat.zero_add]
    refine e.trans ?_
    unfold enumL
    exact forL_exc gE_ok e2
  refine dFn_exc rfl (ρ' := (ρ'.set 4 (some (.p (.int (pre.length : Nat))))).set 5 (some (.p d))) (st' := []) ?_
  show sSeq dn_shortest_s2 (sSeq dn_shortest_s5 _) (env8 (.tup (pre ++ d :: post)) none none none none none none none) [] = _
  rw [sSeq_next (sh_s2 (by omega) h2), sSeq_exc e3]
/-! the loops -/
def Stp (A : Nat → Nat → Int) (t i j : Nat) : Nat → Nat → Int := fun a b => if a < i ∨ (a = i ∧ b < j) then W A (t + 1) a b else W A t a b
theorem Stp_step {A : Nat → Nat → Int} (h : Tab A) (t i j : Nat) : upd2 (Stp A t i j) i j (let x := Stp A t i j i j; let y := Stp A t i j i t + Stp A t i j t j; if y < x then y else x) = Stp A t i (j + 1) := by
  have h1 : Stp A t i j i j = W A t i j := by unfold Stp; rw [if_neg (by omega)]
  have h2 : Stp A t i j i t = W A t i t := by unfold Stp; split; exact W_col h t i; rfl
  have h3 : Stp A t i j t j = W A t t j := by unfold Stp; split; exact W_row h t j; rfl
  funext a b
  unfold upd2
  simp only [h1, h2, h3]
  split
  · rename_i q
    obtain ⟨rfl, rfl⟩ := q
    unfold Stp
    rw [show (if a < a ∨ (a = a ∧ b < b + 1) then W A (t + 1) a b else W A t a b) = min (W A t a b) (W A t a t + W A t t b) from if_pos (by omega)]
    split <;> omega
  · rename_i q
    unfold Stp
    by_cases c : a < i ∨ (a = i ∧ b < j)
    · rw [if_pos c, if_pos (by omega)]
    · rw [if_neg c, if_neg (by omega)]
end
end Law
namespace Law
open PySem PySem.Spec L2 M
abbrev rgD (n : Nat) : List D := (List.range n).map fun i : Nat => D.int (i : Nat)
section
variable {n : Nat} {A : Nat → Nat → Int}
theorem rg_get {i x : Nat} (h : (List.range n)[i]? = some x) : x = i ∧ i < n := by
  obtain ⟨h1, h2⟩ := List.getElem?_eq_some_iff.mp h
  simp only [List.getElem_range, List.length_range] at h1 h2
  exact ⟨h2.symm, h1⟩
theorem newRows {v : Nat} {ρ : M.Env} (hn : n ≤ 1000) (hv : v < ρ.length) : eCompN (fun _ st => .ok (matD n A) st) (gN v) eYes (nOf lstO (eVar v)) [v] ρ [] = .ok (.rows (List.range n)) ((List.range n).map fun a => O.lst (M.rowD n A a)) := by
  have hc := compNL_all (g := gN v) (fe := nOf lstO (eVar v)) (ρ := wipeE ρ [v]) (fun a => D.tup (M.rowD n A a)) (fun a => O.lst (M.rowD n A a)) (List.range n) [] (by
    intro a _
    refine ⟨(wipeE ρ [v]).set v (some (.p (.tup (M.rowD n A a)))), rfl, fun st => ?_⟩
    have : ((wipeE ρ [v]).set v (some (.p (.tup (M.rowD n A a)))))[v]? = some (some (.p (.tup (M.rowD n A a)))) := gself (by simpa [wipeE] using hv)
    simp [this, lstO])
  have hs : n ≤ sizeLine := sz (by omega)
  have he : (List.range n).map (fun a => D.tup (M.rowD n A a)) = matD n A := rfl
  rw [he] at hc
  simp [matD_len, hs, hc]
theorem sh_s6 {ρ : M.Env} (hn : n ≤ 1000) (hl : ρ.length = 8) (h0 : At ρ 0 (.tup (matD n A))) : dn_shortest_s6 ρ [] = .next (ρ.set 1 (some (.r n))) (stM n A) := by
  have h := newRows (n := n) (A := A) (v := 5) (ρ := ρ) hn (by omega)
  have e : eCompN (iSeq (eVar 0)) (gN 5) eYes (nOf lstO (eVar 5)) [5] ρ [] = .ok (.rows (List.range n)) ((List.range n).map fun a => O.lst (M.rowD n A a)) := by
    rw [← h]
    simp only [eCompN, iSeq, eVar, h0, Res.bind, itemsOf]
  simp only [dn_shortest_s6, sNew, sOf, e]
  simp [M.stM]
theorem sh_s7 {ρ : M.Env} {st : Sto} (hn : n ≤ 1000) (h0 : At ρ 0 (.tup (matD n A))) : dn_shortest_s7 ρ st = .next (ρ.set 2 (some (.p (.lst (rgD n))))) st := by
  have hsp : rgB 0 (n : Int) = true := rgB_of (by omega) (by omega) (by omega) (by omega)
  simp [dn_shortest_s7, h0, dLen, matD_len, rgO, hsp, rngL0]
theorem sh_s8 (hA : Tab A) {ρ : M.Env} {t i j : Nat} (ht : t < n) (hi : i < n) (hj : j < n) (h1 : ρ[1]? = some (some (.r n))) (h3 : At ρ 3 (.int (t : Nat))) (h6 : At ρ 6 (.int (i : Nat))) (h7 : At ρ 7 (.int (j : Nat))) :
    dn_shortest_s8 ρ (stM n (Stp A t i j)) = .next ρ (stM n (Stp A t i (j + 1))) := by
  have r1 := ix2_ok (n := n) (i := 1) (F := Stp A t i j) (ρ := ρ) (f := eVar 6) (h := eVar 7) h1 hi hj (by simp [h6]) (by simp [h7])
  have r2 := ix2_ok (n := n) (i := 1) (F := Stp A t i j) (ρ := ρ) (f := eVar 6) (h := eVar 3) h1 hi ht (by simp [h6]) (by simp [h3])
  have r3 := ix2_ok (n := n) (i := 1) (F := Stp A t i j) (ρ := ρ) (f := eVar 3) (h := eVar 7) h1 ht hj (by simp [h3]) (by simp [h7])
  have he : eOpN dMin2 (eCons (eIx2 1 (eVar 6) (eVar 7)) (eCons (eOp2 dAdd (eIx2 1 (eVar 6) (eVar 3)) (eIx2 1 (eVar 3) (eVar 7))) eNil)) ρ (stM n (Stp A t i j)) = .ok (.int (let x := Stp A t i j i j; let y := Stp A t i j i t + Stp A t i j t j; if y < x then y else x)) (stM n (Stp A t i j)) := by
    simp only [eOpN, eCons, eOp2, r1, r2, r3, Res.bind, dAdd, eNil, dMin2]
  have := set2_ok (n := n) (i := 1) (F := Stp A t i j) (ρ := ρ) (f := eVar 6) (h := eVar 7) h1 hi hj he (by simp [h6]) (by simp [h7])
  rw [Stp_step hA] at this
  exact this
theorem Stp_row {t i : Nat} : stM n (Stp A t i n) = stM n (Stp A t (i + 1) 0) := stM_congr fun a _ b hb => by
  unfold Stp
  have : (a < i ∨ (a = i ∧ b < n)) ↔ (a < i + 1 ∨ (a = i + 1 ∧ b < 0)) := by omega
  simp only [this]
theorem Stp_all {t : Nat} : stM n (Stp A t n 0) = stM n (Stp A (t + 1) 0 0) := stM_congr fun a ha b _ => by
  unfold Stp
  rw [if_pos (by omega), if_neg (by omega)]
theorem Stp_0 {t : Nat} : Stp A t 0 0 = W A t := by
  funext a b
  unfold Stp
  rw [if_neg (by omega)]
theorem sh_s9 (hA : Tab A) {ρ : M.Env} {t i : Nat} (ht : t < n) (hi : i < n) (hl : ρ.length = 8) (h1 : ρ[1]? = some (some (.r n))) (h2 : At ρ 2 (.lst (rgD n))) (h3 : At ρ 3 (.int (t : Nat))) (h6 : At ρ 6 (.int (i : Nat))) :
    ∃ ρ', Agr [7] ρ ρ' ∧ dn_shortest_s9 ρ (stM n (Stp A t i 0)) = .next ρ' (stM n (Stp A t (i + 1) 0)) := by
  obtain ⟨ρ', st', e, ag, rfl⟩ := forL_ix (g := gN 7) (fb := dn_shortest_s8) (fun i : Nat => D.int (i : Nat)) (List.range n) (fun j ρ' st => Agr [7] ρ ρ' ∧ st = stM n (Stp A t i j)) (ρ := ρ) (st := stM n (Stp A t i 0)) ⟨Agr.refl, rfl⟩ (by
    rintro j x ρ1 st hx ⟨ag, rfl⟩
    obtain ⟨rfl, hj⟩ := rg_get hx
    have hl1 := ag.1
    have c1 := (ag.2 1 (by decide)).trans h1
    have c3 := (ag.2 3 (by decide)).trans h3
    have c6 := (ag.2 6 (by decide)).trans h6
    refine ⟨ρ1.set 7 (some (.p (.int (x : Nat)))), _, _, rfl, .inl (sh_s8 hA ht hi hj (by (first | assumption | (((try simp only [At, wipeE]); (repeat rw [gset (by decide)])); first | assumption | (rw [gself (by (try simp only [List.length_set]); omega)])) | (simp only [wipeE, List.length_set]; omega))) (by (first | assumption | (((try simp only [At, wipeE]); (repeat rw [gset (by decide)])); first | assumption | (rw [gself (by (try simp only [List.length_set]); omega)])) | (simp only [wipeE, List.length_set]; omega))) (by (first | assumption | (((try simp only [At, wipeE]); (repeat rw [gset (by decide)])); first | assumption | (rw [gself (by (try simp only [List.length_set]); omega)])) | (simp only [wipeE, List.length_set]; omega))) (by (first | assumption | (((try simp only [At, wipeE]); (repeat rw [gset (by decide)])); first | assumption | (rw [gself (by (try simp only [List.length_set]); omega)])) | (simp only [wipeE, List.length_set]; omega)))), ag.set (by decide), rfl⟩)
  refine ⟨ρ', ag, ?_⟩
  rw [List.length_range, Stp_row] at e
  simp only [dn_shortest_s9, sFor, sOf, iSeq, eVar, h2, Res.bind, itemsOf]
  exact e
theorem sh_s10 (hA : Tab A) {ρ : M.Env} {t : Nat} (ht : t < n) (hl : ρ.length = 8) (h1 : ρ[1]? = some (some (.r n))) (h2 : At ρ 2 (.lst (rgD n))) (h3 : At ρ 3 (.int (t : Nat))) :
    ∃ ρ', Agr [6, 7] ρ ρ' ∧ dn_shortest_s10 ρ (stM n (Stp A t 0 0)) = .next ρ' (stM n (Stp A (t + 1) 0 0)) := by
  obtain ⟨ρ', st', e, ag, rfl⟩ := forL_ix (g := gN 6) (fb := dn_shortest_s9) (fun i : Nat => D.int (i : Nat)) (List.range n) (fun i ρ' st => Agr [6, 7] ρ ρ' ∧ st = stM n (Stp A t i 0)) (ρ := ρ) (st := stM n (Stp A t 0 0)) ⟨Agr.refl, rfl⟩ (by
    rintro j x ρ1 st hx ⟨ag, rfl⟩
    obtain ⟨rfl, hj⟩ := rg_get hx
    have hl1 := ag.1
    have c1 := (ag.2 1 (by decide)).trans h1
    have c2 := (ag.2 2 (by decide)).trans h2
    have c3 := (ag.2 3 (by decide)).trans h3
    obtain ⟨ρ2, a2, e2⟩ := sh_s9 (ρ := ρ1.set 6 (some (.p (.int (x : Nat))))) hA ht hj (by (first | assumption | (((try simp only [At, wipeE]); (repeat rw [gset (by decide)])); first | assumption | (rw [gself (by (try simp only [List.length_set]); omega)])) | (simp only [wipeE, List.length_set]; omega))) (by (first | assumption | (((try simp only [At, wipeE]); (repeat rw [gset (by decide)])); first | assumption | (rw [gself (by (try simp only [List.length_set]); omega)])) | (simp only [wipeE, List.length_set]; omega))) (by (first | assumption | (((try simp only [At, wipeE]); (repeat rw [gset (by decide)])); first | assumption | (rw [gself (by (try simp only [List.length_set]); omega)])) | (simp only [wipeE, List.length_set]; omega))) (by (first | assumption | (((try simp only [At, wipeE]); (repeat rw [gset (by decide)])); first | assumption | (rw [gself (by (try simp only [List.length_set]); omega)])) | (simp only [wipeE, List.length_set]; omega))) (by (first | assumption | (((try simp only [At, wipeE]); (repeat rw [gset (by decide)])); first | assumption | (rw [gself (by (try simp only [List.length_set]); omega)])) | (simp only [wipeE, List.length_set]; omega)))
    exact ⟨_, ρ2, _, rfl, .inl e2, (ag.set (by decide)).trans (a2.mono (by decide)), rfl⟩)
  refine ⟨ρ', ag, ?_⟩
  rw [List.length_range, Stp_all] at e
  simp only [dn_shortest_s10, sFor, sOf, iSeq, eVar, h2, Res.bind, itemsOf]
  exact e
theorem sh_s11 (hA : Tab A) {ρ : M.Env} (hl : ρ.length = 8) (h1 : ρ[1]? = some (some (.r n))) (h2 : At ρ 2 (.lst (rgD n))) :
    ∃ ρ', Agr [3, 6, 7] ρ ρ' ∧ dn_shortest_s11 ρ (stM n A) = .next ρ' (stM n (W A n)) := by
  obtain ⟨ρ', st', e, ag, rfl⟩ := forL_ix (g := gN 3) (fb := dn_shortest_s10) (fun i : Nat => D.int (i : Nat)) (List.range n) (fun t ρ' st => Agr [3, 6, 7] ρ ρ' ∧ st = stM n (Stp A t 0 0)) (ρ := ρ) (st := stM n (Stp A 0 0 0)) ⟨Agr.refl, rfl⟩ (by
    rintro j x ρ1 st hx ⟨ag, rfl⟩
    obtain ⟨rfl, hj⟩ := rg_get hx
    have hl1 := ag.1
    have c1 := (ag.2 1 (by decide)).trans h1
    have c2 := (ag.2 2 (by decide)).trans h2
    obtain ⟨ρ2, a2, e2⟩ := sh_s10 (ρ := ρ1.set 3 (some (.p (.int (x : Nat))))) hA hj (by (first | assumption | (((try simp only [At, wipeE]); (repeat rw [gset (by decide)])); first | assumption | (rw [gself (by (try simp only [List.length_set]); omega)])) | (simp only [wipeE, List.length_set]; omega))) (by (first | assumption | (((try simp only [At, wipeE]); (repeat rw [gset (by decide)])); first | assumption | (rw [gself (by (try simp only [List.length_set]); omega)])) | (simp only [wipeE, List.length_set]; omega))) (by (first | assumption | (((try simp only [At, wipeE]); (repeat rw [gset (by decide)])); first | assumption | (rw [gself (by (try simp only [List.length_set]); omega)])) | (simp only [wipeE, List.length_set]; omega))) (by (first | assumption | (((try simp only [At, wipeE]); (repeat rw [gset (by decide)])); first | assumption | (rw [gself (by (try simp only [List.length_set]); omega)])) | (simp only [wipeE, List.length_set]; omega)))
    exact ⟨_, ρ2, _, rfl, .inl e2, (ag.set (by decide)).trans (a2.mono (by decide)), rfl⟩)
  refine ⟨ρ', ag, ?_⟩
  rw [List.length_range, Stp_0, Stp_0] at e
  simp only [dn_shortest_s11, sFor, sOf, iSeq, eVar, h2, Res.bind, itemsOf]
  exact e
theorem retRows {v w : Nat} {ρ : M.Env} {F : Nat → Nat → Int} (hn : n ≤ 1000) (hw : w < ρ.length) (h1 : ρ[v]? = some (some (.r n))) : ∃ st', sRet (eOp1 dTuple (ePure (eComp (iSeq (eVarR v)) (gN w) eYes (eOp1 dTuple (eVar w)) [w]))) ρ (stM n F) = .ret (.tup (matD n F)) st' := by
  obtain ⟨st', e⟩ := varR_ok (F := F) h1
  have hc := compL_all (g := gN w) (fe := eOp1 dTuple (eVar w)) (ρ := wipeE ρ [w]) (st := st') (fun a => D.lst (M.rowD n F a)) (fun a => D.tup (M.rowD n F a)) (List.range n) (by
    intro a _
    refine ⟨(wipeE ρ [w]).set w (some (.p (.lst (M.rowD n F a)))), rfl, ?_⟩
    have : ((wipeE ρ [w]).set w (some (.p (.lst (M.rowD n F a)))))[w]? = some (some (.p (.lst (M.rowD n F a)))) := gself (by simpa [wipeE] using hw)
    simp [this, dTuple])
  have hs : n ≤ sizeLine := sz (by omega)
  refine ⟨st', ?_⟩
  simp only [sRet, sOf, eOp1, ePure, eComp, iSeq, e, Res.bind, itemsOf, List.length_map, List.length_range, hs, if_true, hc, thaw, dTuple, matD]
theorem shortest_ok (hA : Tab A) (h1 : 1 ≤ n) (h2 : n ≤ 6) (hb : ∀ a < n, ∀ b < n, A a b ≤ 99) : dn_shortest [.p (.tup (matD n A))] [] = .ok (.tup (matD n (W A n))) [] := by
  obtain ⟨ρ1, a1, e1⟩ := enum_all (p := 4) (r := 5) (by decide) (fb := dn_shortest_s4) (st := []) (base := env8 (.tup (matD n A)) none none none none none none none) (by simp [env8]) (by simp [env8]) (matD n A) 0 (by
    intro i z ρ hz ag b1 b2
    rw [Nat.zero_add] at b1
    have hi : i < n := by have := (List.getElem?_eq_some_iff.mp hz).1; rw [matD_len] at this; exact this
    have hz2 : z = .tup (M.rowD n A i) := by
      obtain ⟨h1, h2⟩ := List.getElem?_eq_some_iff.mp hz
      rw [← h2]
      simp [matD]
    subst hz2
    have := sh_s4 (ds := matD n A) (ρ := ρ) (a := i) (by rw [matD_len]; exact hi) (rowV_row (by omega)) ((ag.2 0 (by decide)).trans rfl) b1 b2
    rw [if_pos (by rw [matD_len]; exact okT_row hi (fun b hb' => ⟨hA.nn i b, hb i hi b hb'⟩) (hA.dg i))] at this
    exact this) _ Agr.refl []
  rw [List.append_nil] at e1
  have hl1 : ρ1.length = 8 := a1.1
  have c0 : At ρ1 0 (.tup (matD n A)) := (a1.2 0 (by decide)).trans rfl
  have e5 : dn_shortest_s5 (env8 (.tup (matD n A)) none none none none none none none) [] = .next ρ1 [] := by
    simp only [dn_shortest_s5, sFor, sOf, iEnumD, eVar, env8, Res.bind, List.getElem?_cons_zero]
    exact e1.trans rfl
  have e6 := sh_s6 (n := n) (A := A) (ρ := ρ1) (by omega) hl1 c0
  have e7 := sh_s7 (n := n) (A := A) (ρ := ρ1.set 1 (some (.r n))) (st := stM n A) (by omega) (by (first | assumption | (((try simp only [At, wipeE]); (repeat rw [gset (by decide)])); first | assumption | (rw [gself (by (try simp only [List.length_set]); omega)])) | (simp only [wipeE, List.length_set]; omega)))
  obtain ⟨ρ2, a2, e11⟩ := sh_s11 (n := n) (ρ := (ρ1.set 1 (some (.r n))).set 2 (some (.p (.lst (rgD n))))) hA (by (first | assumption | (((try simp only [At, wipeE]); (repeat rw [gset (by decide)])); first | assumption | (rw [gself (by (try simp only [List.length_set]); omega)])) | (simp only [wipeE, List.length_set]; omega))) (by (first | assumption | (((try simp only [At, wipeE]); (repeat rw [gset (by decide)])); first | assumption | (rw [gself (by (try simp only [List.length_set]); omega)])) | (simp only [wipeE, List.length_set]; omega))) (by (first | assumption | (((try simp only [At, wipeE]); (repeat rw [gset (by decide)])); first | assumption | (rw [gself (by (try simp only [List.length_set]); omega)])) | (simp only [wipeE, List.length_set]; omega)))
  have d1 : ρ2[1]? = some (some (.r n)) := (a2.2 1 (by decide)).trans (by (first | assumption | (((try simp only [At, wipeE]); (repeat rw [gset (by decide)])); first | assumption | (rw [gself (by (try simp only [List.length_set]); omega)])) | (simp only [wipeE, List.length_set]; omega)))
  have hl2 : ρ2.length = 8 := a2.1.trans (by (first | assumption | (((try simp only [At, wipeE]); (repeat rw [gset (by decide)])); first | assumption | (rw [gself (by (try simp only [List.length_set]); omega)])) | (simp only [wipeE, List.length_set]; omega)))
  obtain ⟨st', e12⟩ := retRows (n := n) (v := 1) (w := 5) (ρ := ρ2) (F := W A n) (by omega) (by omega) d1
  refine dFn_ret rfl (st' := st') ?_
  show sSeq dn_shortest_s2 (sSeq dn_shortest_s5 (sSeq dn_shortest_s6 (sSeq dn_shortest_s7 (sSeq dn_shortest_s11 dn_shortest_s12)))) (env8 (.tup (matD n A)) none none none none none none none) [] = _
  rw [sSeq_next (sh_s2 (by rw [matD_len]; exact h1) (by rw [matD_len]; exact h2)), sSeq_next e5, sSeq_next e6, sSeq_next e7, sSeq_next e11]
  exact e12
end
end Law
namespace M
theorem foldl_min_le : ∀ (l : List Int) (a : Int), l.foldl min a ≤ a ∧ ∀ x ∈ l, l.foldl min a ≤ x
  | [], a => ⟨Int.le_refl _, by simp⟩
  | y :: l, a => by
    obtain ⟨h1, h2⟩ := foldl_min_le l (min a y)
    simp only [List.foldl_cons]
    refine ⟨by omega, fun x hx => ?_⟩
    rcases List.mem_cons.mp hx with rfl | hx
    · omega
    · exact h2 x hx
theorem le_foldl_min {m : Int} : ∀ (l : List Int) (a : Int), m ≤ a → (∀ x ∈ l, m ≤ x) → m ≤ l.foldl min a
  | [], a, h, _ => h
  | y :: l, a, h, h2 => by
    simp only [List.foldl_cons]
    exact le_foldl_min l _ (by have := h2 y List.mem_cons_self; omega) fun x hx => h2 x (List.mem_cons_of_mem _ hx)
end M
namespace Law
open PySem PySem.Spec L2 M
section
variable {n : Nat} {A : Nat → Nat → Int}
def Inv (n : Nat) (A : Nat → Nat → Int) (t i j : Nat) (F : Nat → Nat → Int) : Prop := ∀ a < n, ∀ b < n, W A n a b ≤ F a b ∧ F a b ≤ Stp A t i j a b
theorem Stp_le (t i j a b : Nat) : Stp A t i j a b ≤ W A t a b := by
  unfold Stp
  split
  · exact W_step t a b
  · exact Int.le_refl _
theorem Inv.step {t i j : Nat} {F : Nat → Nat → Int} {v : Int} (h : Inv n A t i j F) (hA : Tab A) (ht : t < n) (hi : i < n) (hj : j < n) (h1 : v ≤ F i j) (h2 : v ≤ F i t + F t j) (h3 : W A n i j ≤ v) : Inv n A t i (j + 1) (upd2 F i j v) := by
  intro a ha b hb
  unfold upd2
  split
  · rename_i q
    obtain ⟨rfl, rfl⟩ := q
    refine ⟨h3, ?_⟩
    unfold Stp
    rw [if_pos (by omega)]
    have q1 := Int.le_trans (h a ha b hb).2 (Stp_le t a b a b)
    have q2 := Int.le_trans (h a ha t ht).2 (Stp_le t a b a t)
    have q3 := Int.le_trans (h t ht b hb).2 (Stp_le t a b t b)
    show v ≤ min _ _
    omega
  · rename_i q
    obtain ⟨g1, g2⟩ := h a ha b hb
    refine ⟨g1, ?_⟩
    unfold Stp at g2 ⊢
    have : (a < i ∨ (a = i ∧ b < j)) ↔ (a < i ∨ (a = i ∧ b < j + 1)) := by omega
    simp only [← this]
    exact g2
theorem Inv.row {t i : Nat} {F : Nat → Nat → Int} (h : Inv n A t i n F) : Inv n A t (i + 1) 0 F := fun a ha b hb => by
  obtain ⟨g1, g2⟩ := h a ha b hb
  refine ⟨g1, ?_⟩
  unfold Stp at g2 ⊢
  have : (a < i ∨ (a = i ∧ b < n)) ↔ (a < i + 1 ∨ (a = i + 1 ∧ b < 0)) := by omega
  simp only [← this]
  exact g2
theorem Inv.all {t : Nat} {F : Nat → Nat → Int} (h : Inv n A t n 0 F) : Inv n A (t + 1) 0 0 F := fun a ha b hb => by
  obtain ⟨g1, g2⟩ := h a ha b hb
  refine ⟨g1, ?_⟩
  unfold Stp at g2 ⊢
  rw [if_pos (by omega)] at g2
  rw [if_neg (by omega)]
  exact g2
theorem Inv.done {F : Nat → Nat → Int} (h : Inv n A n 0 0 F) : ∀ a < n, ∀ b < n, F a b = W A n a b := fun a ha b hb => by
  obtain ⟨g1, g2⟩ := h a ha b hb
  have := Int.le_trans g2 (Stp_le n 0 0 a b)
  omega
theorem ll_e1 {ρ : M.Env} {F : Nat → Nat → Int} {a b c : Nat} (ha : a < n) (hb : b < n) (hc : c < n) (h2 : ρ[2]? = some (some (.r n))) (h4 : At ρ 4 (.int (a : Nat))) (h5 : At ρ 5 (.int (b : Nat))) (h7 : At ρ 7 (.int (c : Nat))) :
    dn__law_least_e1 ρ (M.stM n F) = .ok (.int (F a c + F c b)) (M.stM n F) := by
  have r1 := ix2_ok (n := n) (i := 2) (F := F) (ρ := ρ) (f := eVar 4) (h := eVar 7) h2 ha hc (by simp [h4]) (by simp [h7])
  have r2 := ix2_ok (n := n) (i := 2) (F := F) (ρ := ρ) (f := eVar 7) (h := eVar 5) h2 hc hb (by simp [h7]) (by simp [h5])
  simp only [dn__law_least_e1, eOp2, r1, r2, Res.bind, dAdd]
theorem ll_s2 (hA : Tab A) {ρ : M.Env} {F : Nat → Nat → Int} {t a b : Nat} (hn : n ≤ 1000) (hl : ρ.length = 8) (ht : t < n) (ha : a < n) (hb : b < n) (hI : Inv n A t a b F) (h2 : ρ[2]? = some (some (.r n))) (h3 : At ρ 3 (.int (n : Nat))) (h4 : At ρ 4 (.int (a : Nat))) (h5 : At ρ 5 (.int (b : Nat))) :
    ∃ F', Inv n A t a (b + 1) F' ∧ dn__law_least_s2 ρ (M.stM n F) = .next ρ (M.stM n F') := by
  have hs : n ≤ sizeLine := sz (by omega)
  have hs1 : 1 ≤ sizeLine := sz (by omega)
  have hs2 : n + 1 ≤ sizeLine := sz (by omega)
  have r0 := ix2_ok (n := n) (i := 2) (F := F) (ρ := ρ) (f := eVar 4) (h := eVar 5) h2 ha hb (by simp [h4]) (by simp [h5])
  have hc := compL_all (g := gN 7) (fe := dn__law_least_e1) (ρ := wipeE ρ [7]) (st := M.stM n F) (fun i : Nat => D.int (i : Nat)) (fun c => D.int (F a c + F c b)) (List.range n) (by
    intro c hc
    have w2 : (wipeE ρ [7])[2]? = some (some (.r n)) := by (first | assumption | (((try simp only [At, wipeE]); (repeat rw [gset (by decide)])); first | assumption | (rw [gself (by (try simp only [List.length_set]); omega)])) | (simp only [wipeE, List.length_set]; omega))
    refine ⟨(wipeE ρ [7]).set 7 (some (.p (.int (c : Nat)))), rfl, ?_⟩
    exact ll_e1 ha hb (List.mem_range.mp hc) (by (first | assumption | (((try simp only [At, wipeE]); (repeat rw [gset (by decide)])); first | assumption | (rw [gself (by (try simp only [List.length_set]); omega)])) | (simp only [wipeE, List.length_set]; omega))) (by (first | assumption | (((try simp only [At, wipeE]); (repeat rw [gset (by decide)])); first | assumption | (rw [gself (by (try simp only [List.length_set]); omega)])) | (simp only [wipeE, List.length_set]; omega))) (by (first | assumption | (((try simp only [At, wipeE]); (repeat rw [gset (by decide)])); first | assumption | (rw [gself (by (try simp only [List.length_set]); omega)])) | (simp only [wipeE, List.length_set]; omega))) (by (first | assumption | (((try simp only [At, wipeE]); (repeat rw [gset (by decide)])); first | assumption | (rw [gself (by (try simp only [List.length_set]); omega)])) | (simp only [wipeE, List.length_set]; omega))))
  obtain ⟨v, hv⟩ : ∃ v, v = ((List.range n).map fun c => F a c + F c b).foldl min (F a b) := ⟨_, rfl⟩
  have hm := foldl_min_le ((List.range n).map fun c => F a c + F c b) (F a b)
  rw [← hv] at hm
  have v1 : v ≤ F a t + F t b := hm.2 _ (List.mem_map.mpr ⟨t, List.mem_range.mpr ht, rfl⟩)
  have v2 : W A n a b ≤ v := by
    rw [hv]
    refine le_foldl_min _ _ (hI a ha b hb).1 fun x hx => ?_
    obtain ⟨c, hc, rfl⟩ := List.mem_map.mp hx
    have hc := List.mem_range.mp hc
    have q1 := (hI a ha c hc).1
    have q2 := (hI c hc b hb).1
    have q3 := W_tri hA n c hc a b
    omega
  have he : (eOp1 dMin (eOp2 dAdd (eLst (eCons (eIx2 2 (eVar 4) (eVar 5)) eNil)) (ePure (eComp (iRange1 (eVar 3)) (gN 7) eYes dn__law_least_e1 [7])))) ρ (M.stM n F) = .ok (.int v) (M.stM n F) := by
    have hx : bigR (n : Int) = true := bigR_of (by omega) (by omega)
    have hsum : 1 + n ≤ sizeLine := by rw [Nat.add_comm]; exact hs2
    have h3' : ρ[3]? = some (some (.p (.int (n : Nat)))) := h3
    simp only [eOp1, eOp2, eLst, eCons, r0, Res.bind, eNil, List.length_cons, List.length_nil, Nat.zero_add, hs1, if_true, ePure, eComp, iRange1, eVar, h3', hx, Int.toNat_natCast, rngL0, List.length_map, List.length_range, hs, hc, thaw]
    rw [hv]
    simp [dAdd, hsum, dMin, dInts, minI]
  exact ⟨upd2 F a b v, hI.step hA ht ha hb hm.1 v1 v2, set2_ok (n := n) (i := 2) (F := F) (ρ := ρ) (f := eVar 4) (h := eVar 5) h2 ha hb he (by simp [h4]) (by simp [h5])⟩
theorem rangeV {ρ : M.Env} {v w : Nat} {g : GD} {fb : SDen} {st : Sto} {r : SRes} (hn : n ≤ 1000) (h : At ρ w (.int (n : Nat))) (e : forL g fb ((List.range n).map fun i : Nat => D.int (i : Nat)) ρ st = r) : sFor (iRange1 (eVar w)) g fb ρ st = r := by
  have hx : bigR (n : Int) = true := bigR_of (by omega) (by omega)
  have h' : ρ[w]? = some (some (.p (.int (n : Nat)))) := h
  simp only [sFor, sOf, iRange1, eVar, h', Res.bind, hx, if_true, Int.toNat_natCast, rngL0]
  exact e
theorem ll_s3 (hA : Tab A) {ρ : M.Env} {F : Nat → Nat → Int} {t a : Nat} (hn : n ≤ 1000) (hl : ρ.length = 8) (ht : t < n) (ha : a < n) (hI : Inv n A t a 0 F) (h2 : ρ[2]? = some (some (.r n))) (h3 : At ρ 3 (.int (n : Nat))) (h4 : At ρ 4 (.int (a : Nat))) :
    ∃ ρ' F', Agr [5] ρ ρ' ∧ Inv n A t (a + 1) 0 F' ∧ dn__law_least_s3 ρ (M.stM n F) = .next ρ' (M.stM n F') := by
  obtain ⟨ρ', st', e, ag, F', hI', rfl⟩ := forL_ix (g := gN 5) (fb := dn__law_least_s2) (fun i : Nat => D.int (i : Nat)) (List.range n) (fun j ρ' st => Agr [5] ρ ρ' ∧ ∃ F, Inv n A t a j F ∧ st = M.stM n F) (ρ := ρ) (st := M.stM n F) ⟨Agr.refl, F, hI, rfl⟩ (by
    rintro j x ρ1 st hx ⟨ag, F, hI, rfl⟩
    obtain ⟨rfl, hj⟩ := rg_get hx
    have hl1 := ag.1
    have c2 := (ag.2 2 (by decide)).trans h2
    have c3 := (ag.2 3 (by decide)).trans h3
    have c4 := (ag.2 4 (by decide)).trans h4
    obtain ⟨F', hI', e⟩ := ll_s2 (ρ := ρ1.set 5 (some (.p (.int (x : Nat))))) hA hn (by (first | assumption | (((try simp only [At, wipeE]); (repeat rw [gset (by decide)])); first | assumption | (rw [gself (by (try simp only [List.length_set]); omega)])) | (simp only [wipeE, List.length_set]; omega))) ht ha hj hI (by (first | assumption | (((try simp only [At, wipeE]); (repeat rw [gset (by decide)])); first | assumption | (rw [gself (by (try simp only [List.length_set]); omega)])) | (simp only [wipeE, List.length_set]; omega))) (by (first | assumption | (((try simp only [At, wipeE]); (repeat rw [gset (by decide)])); first | assumption | (rw [gself (by (try simp only [List.length_set]); omega)])) | (simp only [wipeE, List.length_set]; omega))) (by (first | assumption | (((try simp only [At, wipeE]); (repeat rw [gset (by decide)])); first | assumption | (rw [gself (by (try simp only [List.length_set]); omega)])) | (simp only [wipeE, List.length_set]; omega))) (by (first | assumption | (((try simp only [At, wipeE]); (repeat rw [gset (by decide)])); first | assumption | (rw [gself (by (try simp only [List.length_set]); omega)])) | (simp only [wipeE, List.length_set]; omega)))
    exact ⟨_, _, _, rfl, .inl e, ag.set (by decide), F', hI', rfl⟩)
  rw [List.length_range] at hI'
  exact ⟨ρ', F', ag, hI'.row, rangeV (v := 5) hn h3 e⟩
theorem ll_s4 (hA : Tab A) {ρ : M.Env} {F : Nat → Nat → Int} {t : Nat} (hn : n ≤ 1000) (hl : ρ.length = 8) (ht : t < n) (hI : Inv n A t 0 0 F) (h2 : ρ[2]? = some (some (.r n))) (h3 : At ρ 3 (.int (n : Nat))) :
    ∃ ρ' F', Agr [4, 5] ρ ρ' ∧ Inv n A (t + 1) 0 0 F' ∧ dn__law_least_s4 ρ (M.stM n F) = .next ρ' (M.stM n F') := by
  obtain ⟨ρ', st', e, ag, F', hI', rfl⟩ := forL_ix (g := gN 4) (fb := dn__law_least_s3) (fun i : Nat => D.int (i : Nat)) (List.range n) (fun j ρ' st => Agr [4, 5] ρ ρ' ∧ ∃ F, Inv n A t j 0 F ∧ st = M.stM n F) (ρ := ρ) (st := M.stM n F) ⟨Agr.refl, F, hI, rfl⟩ (by
    rintro j x ρ1 st hx ⟨ag, F, hI, rfl⟩
    obtain ⟨rfl, hj⟩ := rg_get hx
    have hl1 := ag.1
    have c2 := (ag.2 2 (by decide)).trans h2
    have c3 := (ag.2 3 (by decide)).trans h3
    obtain ⟨ρ2, F', a2, hI', e⟩ := ll_s3 (ρ := ρ1.set 4 (some (.p (.int (x : Nat))))) hA hn (by (first | assumption | (((try simp only [At, wipeE]); (repeat rw [gset (by decide)])); first | assumption | (rw [gself (by (try simp only [List.length_set]); omega)])) | (simp only [wipeE, List.length_set]; omega))) ht hj hI (by (first | assumption | (((try simp only [At, wipeE]); (repeat rw [gset (by decide)])); first | assumption | (rw [gself (by (try simp only [List.length_set]); omega)])) | (simp only [wipeE, List.length_set]; omega))) (by (first | assumption | (((try simp only [At, wipeE]); (repeat rw [gset (by decide)])); first | assumption | (rw [gself (by (try simp only [List.length_set]); omega)])) | (simp only [wipeE, List.length_set]; omega))) (by (first | assumption | (((try simp only [At, wipeE]); (repeat rw [gset (by decide)])); first | assumption | (rw [gself (by (try simp only [List.length_set]); omega)])) | (simp only [wipeE, List.length_set]; omega)))
    exact ⟨_, ρ2, _, rfl, .inl e, (ag.set (by decide)).trans (a2.mono (by decide)), F', hI', rfl⟩)
  rw [List.length_range] at hI'
  exact ⟨ρ', F', ag, hI'.all, rangeV (v := 4) hn h3 e⟩
theorem least_ok (hA : Tab A) (hn : n ≤ 1000) : dn__law_least [.p (.tup (matD n A))] [] = .ok (.tup (matD n (W A n))) [] := by
  have hr := newRows (n := n) (A := A) (v := 6) (ρ := [some (.p (.tup (matD n A))), none, none, none, none, none, none, none]) hn (by simp)
  have e1 : dn__law_least_s1 [some (.p (.tup (matD n A))), none, none, none, none, none, none, none] [] = .next [some (.p (.tup (matD n A))), none, some (.r n), some (.p (.int (n : Nat))), none, none, none, none] (M.stM n A) := by
    have e : eCompN (iSeq (eVar 0)) (gN 6) eYes (nOf lstO (eVar 6)) [6] [some (.p (.tup (matD n A))), none, none, none, none, none, none, none] [] = .ok (.rows (List.range n)) ((List.range n).map fun a => O.lst (M.rowD n A a)) := by
      rw [← hr]
      simp only [eCompN, iSeq, eVar, Res.bind, itemsOf, List.getElem?_cons_zero]
    simp only [dn__law_least_s1, sPar, sOf, aNew, e, Res.bind]
    simp [dLen, matD_len, setAll, M.stM]
  obtain ⟨ρ', st', e, ag, F', hI', rfl⟩ := forL_ix (g := gN 1) (fb := dn__law_least_s4) (fun i : Nat => D.int (i : Nat)) (List.range n) (fun t ρ' st => Agr [1, 4, 5] [some (.p (.tup (matD n A))), none, some (.r n), some (.p (.int (n : Nat))), none, none, none, none] ρ' ∧ ∃ F, Inv n A t 0 0 F ∧ st = M.stM n F) (ρ := [some (.p (.tup (matD n A))), none, some (.r n), some (.p (.int (n : Nat))), none, none, none, none]) (st := M.stM n A) ⟨Agr.refl, A, (fun a _ b _ => ⟨W_le n a b, by rw [Stp_0]; exact Int.le_refl _⟩), rfl⟩ (by
    rintro j x ρ1 st hx ⟨ag, F, hI, rfl⟩
    obtain ⟨rfl, hj⟩ := rg_get hx
    have hl1 := ag.1
    simp at hl1
    have c2 : ρ1[2]? = some (some (.r n)) := (ag.2 2 (by decide)).trans rfl
    have c3 : At ρ1 3 (.int (n : Nat)) := (ag.2 3 (by decide)).trans rfl
    obtain ⟨ρ2, F', a2, hI', e⟩ := ll_s4 (ρ := ρ1.set 1 (some (.p (.int (x : Nat))))) hA hn (by (first | assumption | (((try simp only [At, wipeE]); (repeat rw [gset (by decide)])); first | assumption | (rw [gself (by (try simp only [List.length_set]); omega)])) | (simp only [wipeE, List.length_set]; omega))) hj hI (by (first | assumption | (((try simp only [At, wipeE]); (repeat rw [gset (by decide)])); first | assumption | (rw [gself (by (try simp only [List.length_set]); omega)])) | (simp only [wipeE, List.length_set]; omega))) (by (first | assumption | (((try simp only [At, wipeE]); (repeat rw [gset (by decide)])); first | assumption | (rw [gself (by (try simp only [List.length_set]); omega)])) | (simp only [wipeE, List.length_set]; omega)))
    exact ⟨_, ρ2, _, rfl, .inl e, (ag.set (by decide)).trans (a2.mono (by decide)), F', hI', rfl⟩)
  rw [List.length_range] at hI'
  have e5 : dn__law_least_s5 [some (.p (.tup (matD n A))), none, some (.r n), some (.p (.int (n : Nat))), none, none, none, none] (M.stM n A) = .next ρ' (M.stM n F') := rangeV (v := 1) hn rfl e
  have c2 : ρ'[2]? = some (some (.r n)) := (ag.2 2 (by decide)).trans rfl
  have cl : ρ'.length = 8 := ag.1
  obtain ⟨st', e6⟩ := retRows (n := n) (v := 2) (w := 6) (ρ := ρ') (F := F') hn (by omega) c2
  rw [matD_congr hI'.done] at e6
  refine dFn_ret rfl (st' := st') ?_
  show sSeq dn__law_least_s1 (sSeq dn__law_least_s5 dn__law_least_s6) [some (.p (.tup (matD n A))), none, none, none, none, none, none, none] [] = _
  rw [sSeq_next e1, sSeq_next e5]
  exact e6
end
end Law
namespace Law
open PySem PySem.Spec L2 M
/-! ### what is told of a refused value -/
abbrev T (v : D) : D := .tup [.str "BadTimes", v]
theorem strs1 : (("BadTimes" : PySem.Str) == "BadTimes") = true ∧ (("BadTimes" : PySem.Str) == "BadPlan") = false ∧ (("BadNumber" : PySem.Str) == "BadTimes") = false ∧ (("BadOrder" : PySem.Str) == "BadTimes") = false ∧ (("UnknownKind" : PySem.Str) == "BadTimes") = false ∧ (("UnknownHouse" : PySem.Str) == "BadTimes") = false ∧ (("BadTimes" : PySem.Str) == "TooMany") = false ∧ (("BadText" : PySem.Str) == "BadTimes") = false ∧ (("BadLine" : PySem.Str) == "BadTimes") = false ∧ (("NotPossible" : PySem.Str) == "BadTimes") = false ∧ (("NotAgreed" : PySem.Str) == "BadTimes") = false ∧ (("BadClaim" : PySem.Str) == "BadTimes") = false ∧ (("NothingDone" : PySem.Str) == "BadTimes") = false := by decide +kernel
theorem strs2 : PyData.strOk "BadTimes" = true ∧ PyData.strOk "BadNumber" = true ∧ PyData.strOk "BadPlan" = true ∧ PyData.strOk "BadOrder" = true ∧ PyData.strOk "UnknownKind" = true ∧ PyData.strOk "UnknownHouse" = true ∧ PyData.strOk "TooMany" = true ∧ PyData.strOk "BadText" = true ∧ PyData.strOk "BadLine" = true ∧ PyData.strOk "NotPossible" = true ∧ PyData.strOk "NotAgreed" = true ∧ PyData.strOk "BadClaim" = true ∧ PyData.strOk "NothingDone" = true := by decide +kernel
theorem refusal_ok (d : D) : dn__law_refusal [.x "BadTimes" [("place", d)]] [] = .ok (T d) [] := by
  obtain ⟨s1, s2, s3, s4, s5, s6, s7, s8, s9, s10, s11, s12, s13⟩ := strs1
  obtain ⟨o1, o2, o3, o4, o5, o6, o7, o8, o9, o10, o11, o12, o13⟩ := strs2
  have e1 : ∀ l : List (PySem.Str × Bool), subT l "BadTimes" = l.lookup ("BadTimes" : PySem.Str) := fun _ => rfl
  simp [dn__law_refusal, e1, t_BadPlan, t_BadNumber, t_BadOrder, t_UnknownKind, t_UnknownHouse, t_TooMany, t_BadCourse, t_BadTimes, t_BadNeeds, t_BadRows, t_BadCounts, t_BadMoves, t_BadSuspects, t_BadSigns, t_BadText, t_BadLine, t_NotPossible, t_NotAgreed, t_BadClaim, t_NothingDone, t_ValueError, List.lookup, dCount, dIndex, List.findIdx?_cons, szs, dNe, dIx, atI, ixN, dEq, dIn, pysIn, s1, s2, s3, s4, s5, s6, s7, s8, s9, s10, s11, s12, s13, o1, o2, o3, o4, o5, o6, o7, o8, o9, o10, o11, o12, o13]
theorem told_bad {ρ : M.Env} {st : Sto} {fe : Den} {ds : List D} {v : D} (h : fe (plainE ρ ++ ds.map fun d => some (.p d)) [] = exT v) : eTold "told" (fun _ => some true) dn__law_refusal ds fe ρ st = .ok (T v) st := by
  unfold eTold
  rw [h]
  simp only
  rw [refusal_ok]
/-! ### what a wrong table makes the functions say -/
/-- v is refused, d told of it -/
structure Wrong (v d : D) : Prop where
  req : dn_require_times [.p v] [] = exT d
  are : dn_are_times [.p v] [] = .ok (.bl false) []
theorem wrong_neg {v : D} (h : dn_wrong_place [.p v] [] = .ok (.int (-1)) []) : Wrong v .non :=
  ⟨by simp [dn_require_times, h, dIsNot, D.isNon, dn_place_told, dEq, dNeg, flD], by simp [dn_are_times, h, dIs, D.isNon]⟩
theorem wrong_pos {v : D} {j : Nat} (h : dn_wrong_place [.p v] [] = .ok (.int (j : Nat)) []) : Wrong v (.int (j : Nat)) := by
  have e : ¬ ((j : Int) = -1) := by omega
  exact ⟨by simp [dn_require_times, h, dIsNot, D.isNon, dn_place_told, dEq, dNeg, flD, e], by simp [dn_are_times, h, dIs, D.isNon]⟩
section
variable {v d w x y : D} (h : Wrong v d)
include h
theorem w_needs : dn_require_needs [.p v, .p w] [] = exT d := by simp [dn_require_needs, h.req]
theorem w_fleet : dn_fleet [.p v, .p w] [] = exT d := by simp [dn_fleet, w_needs h]
theorem w_follows : dn_follows [.p v, .p w] [] = exT d := by simp [dn_follows, w_needs h]
theorem w_least : dn_least_fleet [.p v, .p w] [] = exT d := by simp [dn_least_fleet, w_fleet h]
theorem w_apart : dn_apart [.p v, .p w] [] = exT d := by simp [dn_apart, w_needs h]
theorem w_isf : dn_is_fleet [.p v, .p w, .p x] [] = exT d := by simp [dn_is_fleet, w_needs h]
theorem w_area : dn_are_apart [.p v, .p w, .p x] [] = exT d := by simp [dn_are_apart, w_needs h]
theorem w_shows : dn_shows_least [.p v, .p w, .p x, .p y] [] = exT d := by simp [dn_shows_least, w_isf h]
theorem w_idle : dn_idle [.p v, .p w, .p x] [] = exT d := by simp [dn_idle, w_isf h]
end
/-! ### the table that is drawn -/
def Row1 (a : Nat) : List Nat → List Int → Prop
  | [], [] => True
  | b :: bs, v :: vs => ((b = a → v = 0) ∧ 0 ≤ v ∧ v ≤ 99) ∧ Row1 a bs vs
  | _, _ => False
theorem Row1.len {a : Nat} : ∀ {bs : List Nat} {vs : List Int}, Row1 a bs vs → vs.length = bs.length
  | [], [], _ => rfl
  | _ :: _, _ :: _, h => congrArg (· + 1) (Row1.len h.2)
  | [], _ :: _, h => h.elim
  | _ :: _, [], h => h.elim
theorem Row1.get {a : Nat} : ∀ {bs : List Nat} {vs : List Int} {i b : Nat}, Row1 a bs vs → bs[i]? = some b → (b = a → vs.getD i 0 = 0) ∧ 0 ≤ vs.getD i 0 ∧ vs.getD i 0 ≤ 99
  | [], [], _, _, _, e => by simp at e
  | _ :: _, _ :: _, 0, _, h, e => by
    simp at e
    subst e
    simpa using h.1
  | _ :: _, _ :: _, i + 1, _, h, e => by
    have := Row1.get (i := i) h.2 (by simpa using e)
    simpa using this
  | [], _ :: _, _, _, h, _ => h.elim
  | _ :: _, [], _, _, h, _ => h.elim
section
variable {ns : List Int} {row : List D} {rest : Sto} {ρ : M.Env}
theorem draw_row {far a : Nat} (h0 : 0 < far) (h1 : far ≤ 100) : ∀ (bs : List Nat) (row : List D), RowOk ns row → Flat rest → ρ.length = 18 → ρ[1]? = some (some (.r 0)) → At ρ 10 (.int (far : Nat)) → At ρ 15 (.int (a : Nat)) →
    ∃ (l : List Int) (row' : List D), Row1 a bs l ∧ RowOk ns row' ∧ compL (gN 16) eYes dn_law_e1 ρ (bs.map fun i : Nat => D.int (i : Nat)) (.lst row :: rest) = .ok (l.map .int) (.lst row' :: rest)
  | [], row, hr, hf, _, _, _, _ => ⟨[], row, trivial, hr, rfl⟩
  | b :: bs, row, hr, hf, hl, r1, h10, h15 => by
    have g1 : (ρ.set 16 (some (.p (.int (b : Nat)))))[1]? = some (some (.r 0)) := by (first | assumption | (((try simp only [At, wipeE]); (repeat rw [gset (by decide)])); first | assumption | (rw [gself (by (try simp only [List.length_set]); omega)])) | (simp only [wipeE, List.length_set]; omega))
    have g10 : (ρ.set 16 (some (.p (.int (b : Nat)))))[10]? = some (some (.p (.int (far : Nat)))) := by (first | assumption | (((try simp only [At, wipeE]); (repeat rw [gset (by decide)])); first | assumption | (rw [gself (by (try simp only [List.length_set]); omega)])) | (simp only [wipeE, List.length_set]; omega))
    have g15 : (ρ.set 16 (some (.p (.int (b : Nat)))))[15]? = some (some (.p (.int (a : Nat)))) := by (first | assumption | (((try simp only [At, wipeE]); (repeat rw [gset (by decide)])); first | assumption | (rw [gself (by (try simp only [List.length_set]); omega)])) | (simp only [wipeE, List.length_set]; omega))
    have g16 : (ρ.set 16 (some (.p (.int (b : Nat)))))[16]? = some (some (.p (.int (b : Nat)))) := by (first | assumption | (((try simp only [At, wipeE]); (repeat rw [gset (by decide)])); first | assumption | (rw [gself (by (try simp only [List.length_set]); omega)])) | (simp only [wipeE, List.length_set]; omega))
    by_cases e : a = b
    · obtain ⟨l, row2, hl2, hr2, e2⟩ := draw_row (a := a) h0 h1 bs row hr hf hl r1 h10 h15
      refine ⟨0 :: l, row2, ⟨⟨fun _ => rfl, by omega, by omega⟩, hl2⟩, hr2, ?_⟩
      have he : dn_law_e1 (ρ.set 16 (some (.p (.int (b : Nat))))) (.lst row :: rest) = .ok (.int 0) (.lst row :: rest) := by
        subst e
        simp [dn_law_e1, g15, g16, dEq]
      rw [List.map_cons]
      unfold compL
      simp [he, e2]
    · obtain ⟨v, row1, hr1, a1, b1, e1⟩ := taken (m := (far : Int)) hr hf (by omega) (by omega)
      obtain ⟨l, row2, hl2, hr2, e2⟩ := draw_row (a := a) h0 h1 bs row1 hr1 hf hl r1 h10 h15
      refine ⟨v :: l, row2, ⟨⟨fun q => absurd q.symm e, a1, by omega⟩, hl2⟩, hr2, ?_⟩
      have hne : ((a : Int) == (b : Int)) = false := by
        rw [Bool.eq_false_iff]
        simp
        omega
      have he : dn_law_e1 (ρ.set 16 (some (.p (.int (b : Nat))))) (.lst row :: rest) = .ok (.int v) (.lst row1 :: rest) := by
        simp [dn_law_e1, g15, g16, g1, g10, dEq, e1]
        intro h
        omega
      rw [List.map_cons]
      unfold compL
      simp [he, e2]
def Rows1 (n : Nat) : List Nat → List (List Int) → Prop
  | [], [] => True
  | a :: as, l :: ls => Row1 a (List.range n) l ∧ Rows1 n as ls
  | _, _ => False
theorem Rows1.len {n : Nat} : ∀ {bs : List Nat} {vs : List (List Int)}, Rows1 n bs vs → vs.length = bs.length
  | [], [], _ => rfl
  | _ :: _, _ :: _, h => congrArg (· + 1) (Rows1.len h.2)
  | [], _ :: _, h => h.elim
  | _ :: _, [], h => h.elim
theorem Rows1.get {n : Nat} : ∀ {bs : List Nat} {vs : List (List Int)} {i b : Nat}, Rows1 n bs vs → bs[i]? = some b → Row1 b (List.range n) (vs.getD i [])
  | [], [], _, _, _, e => by simp at e
  | _ :: _, _ :: _, 0, _, h, e => by
    simp at e
    subst e
    simpa using h.1
  | _ :: _, _ :: _, i + 1, _, h, e => by
    have := Rows1.get (i := i) h.2 (by simpa using e)
    simpa using this
  | [], _ :: _, _, _, h, _ => h.elim
  | _ :: _, [], _, _, h, _ => h.elim
theorem draw_rows {n far : Nat} (hn : n ≤ 6) (h0 : 0 < far) (h1 : far ≤ 100) : ∀ (as : List Nat) (row : List D), RowOk ns row → Flat rest → ρ.length = 18 → ρ[1]? = some (some (.r 0)) → At ρ 9 (.int (n : Nat)) → At ρ 10 (.int (far : Nat)) →
    ∃ (ls : List (List Int)) (row' : List D), Rows1 n as ls ∧ RowOk ns row' ∧ compL (gN 15) eYes dn_law_e2 ρ (as.map fun i : Nat => D.int (i : Nat)) (.lst row :: rest) = .ok (ls.map fun l => D.tup (l.map .int)) (.lst row' :: rest)
  | [], row, hr, hf, _, _, _, _ => ⟨[], row, trivial, hr, rfl⟩
  | a :: as, row, hr, hf, hl, r1, h9, h10 => by
    have hs : n ≤ sizeLine := sz (by omega)
    have g9 : (ρ.set 15 (some (.p (.int (a : Nat)))))[9]? = some (some (.p (.int (n : Nat)))) := by (first | assumption | (((try simp only [At, wipeE]); (repeat rw [gset (by decide)])); first | assumption | (rw [gself (by (try simp only [List.length_set]); omega)])) | (simp only [wipeE, List.length_set]; omega))
    have g1 : (ρ.set 15 (some (.p (.int (a : Nat)))))[1]? = some (some (.r 0)) := by (first | assumption | (((try simp only [At, wipeE]); (repeat rw [gset (by decide)])); first | assumption | (rw [gself (by (try simp only [List.length_set]); omega)])) | (simp only [wipeE, List.length_set]; omega))
    have g10 : (ρ.set 15 (some (.p (.int (a : Nat)))))[10]? = some (some (.p (.int (far : Nat)))) := by (first | assumption | (((try simp only [At, wipeE]); (repeat rw [gset (by decide)])); first | assumption | (rw [gself (by (try simp only [List.length_set]); omega)])) | (simp only [wipeE, List.length_set]; omega))
    have g15 : (ρ.set 15 (some (.p (.int (a : Nat)))))[15]? = some (some (.p (.int (a : Nat)))) := by (first | assumption | (((try simp only [At, wipeE]); (repeat rw [gset (by decide)])); first | assumption | (rw [gself (by (try simp only [List.length_set]); omega)])) | (simp only [wipeE, List.length_set]; omega))
    have gl : (ρ.set 15 (some (.p (.int (a : Nat))))).length = 18 := by (first | assumption | (((try simp only [At, wipeE]); (repeat rw [gset (by decide)])); first | assumption | (rw [gself (by (try simp only [List.length_set]); omega)])) | (simp only [wipeE, List.length_set]; omega))
    obtain ⟨l, row1, hl1, hr1, e1⟩ := draw_row (a := a) (ρ := wipeE (ρ.set 15 (some (.p (.int (a : Nat))))) [16]) h0 h1 (List.range n) row hr hf (by (first | assumption | (((try simp only [At, wipeE]); (repeat rw [gset (by decide)])); first | assumption | (rw [gself (by (try simp only [List.length_set]); omega)])) | (simp only [wipeE, List.length_set]; omega))) (by (first | assumption | (((try simp only [At, wipeE]); (repeat rw [gset (by decide)])); first | assumption | (rw [gself (by (try simp only [List.length_set]); omega)])) | (simp only [wipeE, List.length_set]; omega))) (by (first | assumption | (((try simp only [At, wipeE]); (repeat rw [gset (by decide)])); first | assumption | (rw [gself (by (try simp only [List.length_set]); omega)])) | (simp only [wipeE, List.length_set]; omega))) (by (first | assumption | (((try simp only [At, wipeE]); (repeat rw [gset (by decide)])); first | assumption | (rw [gself (by (try simp only [List.length_set]); omega)])) | (simp only [wipeE, List.length_set]; omega)))
    obtain ⟨ls, row2, hl2, hr2, e2⟩ := draw_rows hn h0 h1 as row1 hr1 hf hl r1 h9 h10
    refine ⟨l :: ls, row2, ⟨hl1, hl2⟩, hr2, ?_⟩
    have he : dn_law_e2 (ρ.set 15 (some (.p (.int (a : Nat))))) (.lst row :: rest) = .ok (.tup (l.map .int)) (.lst row1 :: rest) := by
      have hx : bigR (n : Int) = true := bigR_of (by omega) (by omega)
      simp only [dn_law_e2, eOp1, ePure, eComp, iRange1, eVar, g9, Res.bind, hx, if_true, Int.toNat_natCast, rngL0, List.length_map, List.length_range, hs, e1, thaw, dTuple]
    rw [List.map_cons]
    unfold compL
    simp [he, e2]
/-- a drawn table -/
theorem rows_ok {n far : Nat} (h1 : 1 ≤ n) (hn : n ≤ 6) (h0 : 0 < far) (hf1 : far ≤ 100) (hr : RowOk ns row) (hf : Flat rest) (hl : ρ.length = 18) (r1 : ρ[1]? = some (some (.r 0))) (h9 : At ρ 9 (.int (n : Nat))) (h10 : At ρ 10 (.int (far : Nat))) :
    ∃ (A : Nat → Nat → Int) (row' : List D), Tab A ∧ (∀ a < n, ∀ b < n, A a b ≤ 99) ∧ RowOk ns row' ∧ dn_law_s3 ρ (.lst row :: rest) = .next (ρ.set 3 (some (.p (.tup (matD n A))))) (.lst row' :: rest) := by
  obtain ⟨ls, row1, hls, hr1, e1⟩ := draw_rows (ρ := wipeE ρ [15]) hn h0 hf1 (List.range n) row hr hf (by (first | assumption | (((try simp only [At, wipeE]); (repeat rw [gset (by decide)])); first | assumption | (rw [gself (by (try simp only [List.length_set]); omega)])) | (simp only [wipeE, List.length_set]; omega))) (by (first | assumption | (((try simp only [At, wipeE]); (repeat rw [gset (by decide)])); first | assumption | (rw [gself (by (try simp only [List.length_set]); omega)])) | (simp only [wipeE, List.length_set]; omega))) (by (first | assumption | (((try simp only [At, wipeE]); (repeat rw [gset (by decide)])); first | assumption | (rw [gself (by (try simp only [List.length_set]); omega)])) | (simp only [wipeE, List.length_set]; omega))) (by (first | assumption | (((try simp only [At, wipeE]); (repeat rw [gset (by decide)])); first | assumption | (rw [gself (by (try simp only [List.length_set]); omega)])) | (simp only [wipeE, List.length_set]; omega)))
  have hln := hls.len
  rw [List.length_range] at hln
  have key : ∀ a < n, ∀ b < n, (b = a → ((ls.getD a []).getD b 0) = 0) ∧ 0 ≤ ((ls.getD a []).getD b 0) ∧ ((ls.getD a []).getD b 0) ≤ 99 := fun a ha b hb =>
    (hls.get (List.getElem?_range ha)).get (List.getElem?_range hb)
  refine ⟨fun a b => if a < n ∧ b < n then (ls.getD a []).getD b 0 else 0, row1, ⟨fun a b => ?_, fun a => ?_⟩, fun a ha b hb => ?_, hr1, ?_⟩
  · show 0 ≤ (if a < n ∧ b < n then (ls.getD a []).getD b 0 else 0)
    split
    · rename_i h; exact (key a h.1 b h.2).2.1
    · omega
  · show (if a < n ∧ a < n then (ls.getD a []).getD a 0 else 0) = 0
    split
    · rename_i h; exact (key a h.1 a h.2).1 rfl
    · rfl
  · show (if a < n ∧ b < n then (ls.getD a []).getD b 0 else 0) ≤ 99
    split
    · exact (key a ha b hb).2.2
    · omega
  · have hm : ls.map (fun l => D.tup (l.map .int)) = matD n (fun a b => if a < n ∧ b < n then (ls.getD a []).getD b 0 else 0) := by
      apply List.ext_getElem
      · simp [matD_len, hln]
      · intro i q1 q2
        rw [matD_len] at q2
        have q3 : i < ls.length := by omega
        have q4 := (hls.get (List.getElem?_range q2)).len
        rw [List.length_range] at q4
        have q5 : ls.getD i [] = ls[i] := by simp [List.getD, List.getElem?_eq_getElem q3]
        rw [q5] at q4
        simp only [List.getElem_map, matD, List.getElem_range, M.rowD, rowL]
        congr 2
        apply List.ext_getElem
        · simp [q4]
        · intro j p1 p2
          have p3 : j < n := by simpa using p2
          simp only [List.getElem_map, List.getElem_range, q2, p3, and_self, if_true, q5]
          simp [List.getD, List.getElem?_eq_getElem p1]
    have hs : n ≤ sizeLine := sz (by omega)
    have hx : bigR (n : Int) = true := bigR_of (by omega) (by omega)
    have h9' : ρ[9]? = some (some (.p (.int (n : Nat)))) := h9
    rw [hm] at e1
    simp only [dn_law_s3, sSet, sOf, eOp1, ePure, eComp, iRange1, eVar, h9', Res.bind, hx, if_true, Int.toNat_natCast, rngL0, List.length_map, List.length_range, hs, e1, thaw, dTuple]
theorem s2_ok (hl : ρ.length = 18) (h1 : ρ[1]? = some (some (.r 0))) (hr : RowOk ns row) (hf : Flat rest) : ∃ (n far : Nat) (row' : List D), (1 ≤ n ∧ n ≤ 6) ∧ (0 < far ∧ far ≤ 100) ∧ RowOk ns row' ∧
    dn_law_s2 ρ (.lst row :: rest) = .next ((ρ.set 9 (some (.p (.int (n : Nat))))).set 10 (some (.p (.int (far : Nat))))) (.lst row' :: rest) := by
  obtain ⟨v1, row1, hr1, a1, b1, e1⟩ := taken (m := 6) hr hf (by omega) (by omega)
  obtain ⟨d, row2, hr2, hd, e2⟩ := pick_ok (ds := [.int 3, .int 10, .int 100]) hr1 hf (by simp) (by simp)
  obtain ⟨far, rfl, f0, f1⟩ : ∃ far : Nat, d = .int (far : Nat) ∧ 0 < far ∧ far ≤ 100 := by
    simp only [List.mem_cons, List.not_mem_nil, or_false] at hd
    rcases hd with rfl | rfl | rfl
    · exact ⟨3, rfl, by omega, by omega⟩
    · exact ⟨10, rfl, by omega, by omega⟩
    · exact ⟨100, rfl, by omega, by omega⟩
  obtain ⟨n, rfl⟩ := Int.eq_ofNat_of_zero_le a1
  refine ⟨1 + n, far, row2, ⟨by omega, by omega⟩, ⟨f0, f1⟩, hr2, ?_⟩
  simp [dn_law_s2, h1, e1, e2, dAdd, setAll, szs]
end
end Law
namespace M
theorem eqvs_map {α : Type} (f g : α → D) : ∀ l : List α, D.eqvs (l.map f) (l.map g) = l.all fun x => D.eqv (f x) (g x)
  | [] => rfl
  | x :: l => by simp [eqvs_map f g l]
end M
namespace Law
open PySem PySem.Spec L2 M
section
variable {n : Nat} {A B : Nat → Nat → Int}
theorem good_mat (hn : n ≤ 1000) : Good 9 (.tup (matD n A)) := .tup (by rw [matD_len]; omega) fun d hd => by
  obtain ⟨a, _, rfl⟩ := List.mem_map.mp hd
  refine .tup (by rw [rowD_len]; omega) fun d hd => ?_
  obtain ⟨i, _, rfl⟩ := List.mem_map.mp hd
  exact .int
theorem flat_rows : ∀ a, D.flat 60 (.tup (M.rowD n A a)) = true := fun a => by rw [flat_tup]; exact flats_ints _
theorem flat_mat : D.flat 60 (.tup (matD n A)) = true := by
  rw [flat_tup, flats_all, List.all_eq_true]
  intro d hd
  obtain ⟨a, _, rfl⟩ := List.mem_map.mp hd
  rw [flat_tup]
  exact flats_ints _
/-- rows, tables that differ -/
def rowDif (n : Nat) (A B : Nat → Nat → Int) (a : Nat) : Bool := !decide (rowL n A a = rowL n B a)
theorem eqv_row (a : Nat) : D.eqv (.tup (M.rowD n A a)) (.tup (M.rowD n B a)) = !rowDif n A B a := by
  rw [eqv_tt, M.rowD, M.rowD, eqvs_ints]
  unfold rowDif
  simp
theorem eqv_mat : D.eqv (.tup (matD n A)) (.tup (matD n B)) = (List.range n).all fun a => !rowDif n A B a := by
  rw [eqv_tt, matD, matD, eqvs_map]
  simp only [eqv_row]
theorem rowDif_false {a : Nat} : rowDif n A B a = false ↔ ∀ b < n, A a b = B a b := by
  unfold rowDif
  simp only [Bool.not_eq_false', decide_eq_true_eq]
  constructor
  · intro h b hb
    have := congrArg (fun l : List Int => l[b]?) h
    simpa [rowL, List.getElem?_map, List.getElem?_range hb] using this
  · intro h
    exact List.map_congr_left fun b hb => h b (List.mem_range.mp hb)
theorem long_dif (hA : Tab A) {a : Nat} (ha : a < n) (h : longA n A a = true) : rowDif n A (W A n) a = true := by
  unfold longA at h
  obtain ⟨b, hb, h⟩ := List.any_eq_true.mp h
  unfold longB at h
  obtain ⟨c, hc, h⟩ := List.any_eq_true.mp h
  have hb := List.mem_range.mp hb
  have hc := List.mem_range.mp hc
  have h : A a c + A c b < A a b := of_decide_eq_true h
  cases q : rowDif n A (W A n) a with
  | true => rfl
  | false =>
    have q := rowDif_false.mp q b hb
    have t := W_tri hA n c hc a b
    have l1 := W_le (A := A) n a c
    have l2 := W_le (A := A) n c b
    omega
theorem no_long {F : Nat → Nat → Int} (h : ∀ a < n, longA n F a = false) : ∀ a < n, ∀ b < n, ∀ c < n, F a b ≤ F a c + F c b := by
  intro a ha b hb c hc
  have h := h a ha
  unfold longA at h
  rw [List.any_eq_false] at h
  have h := h b (List.mem_range.mpr hb)
  unfold longB at h
  simp only [Bool.not_eq_true] at h
  rw [List.any_eq_false] at h
  have h := h c (List.mem_range.mpr hc)
  unfold longC at h
  simp only [decide_eq_true_eq] at h
  omega
theorem firstLong_none {F : Nat → Nat → Int} : firstLong n F = none ↔ ∀ a < n, longA n F a = false := by
  unfold firstLong
  rw [Option.map_eq_none_iff, List.find?_eq_none]
  simp [List.mem_range]
theorem due_tri (hA : Tab A) : firstLong n (W A n) = none := by
  rw [firstLong_none]
  intro a ha
  rw [Bool.eq_false_iff]
  intro h
  unfold longA at h
  obtain ⟨b, hb, h⟩ := List.any_eq_true.mp h
  unfold longB at h
  obtain ⟨c, hc, h⟩ := List.any_eq_true.mp h
  have hc := List.mem_range.mp hc
  have h : _ < _ := of_decide_eq_true h
  have := W_tri hA n c hc a b
  omega
/-- the two tests of the law agree -/
theorem long_iff (hA : Tab A) : (firstLong n A).isNone = D.eqv (.tup (matD n A)) (.tup (matD n (W A n))) := by
  rw [eqv_mat, Bool.eq_iff_iff, Option.isNone_iff_eq_none, firstLong_none, List.all_eq_true]
  constructor
  · intro h a ha
    have ha := List.mem_range.mp ha
    have : rowDif n A (W A n) a = false := rowDif_false.mpr fun b hb => (W_fix (no_long h) n (Nat.le_refl _) a ha b hb).symm
    simp [this]
  · intro h a ha
    rw [Bool.eq_false_iff]
    intro q
    have := h a (List.mem_range.mpr ha)
    rw [long_dif hA ha q] at this
    cases this
theorem matD_get {i : Nat} {z : D} (h : (matD n A)[i]? = some z) : z = .tup (M.rowD n A i) ∧ i < n := by
  obtain ⟨h1, h2⟩ := List.getElem?_eq_some_iff.mp h
  refine ⟨?_, by rw [matD_len] at h1; exact h1⟩
  rw [← h2]
  simp [matD]
theorem tab_wp (hA : Tab A) (h1 : 1 ≤ n) (h2 : n ≤ 6) (hb : ∀ a < n, ∀ b < n, A a b ≤ 99) : dn_wrong_place [.p (.tup (matD n A))] [] = .ok ((firstLong n A).getD .non) [] := by
  refine wp_all (by rw [matD_len]; exact h1) (by rw [matD_len]; exact h2) ?_ ?_ (first_long (by omega))
  · intro d hd
    obtain ⟨a, _, rfl⟩ := List.mem_map.mp hd
    exact rowV_row (by omega)
  · intro i d hd
    obtain ⟨rfl, hi⟩ := matD_get hd
    rw [matD_len]
    exact okT_row hi (fun b hb' => ⟨hA.nn i b, hb i hi b hb'⟩) (hA.dg i)
theorem W_tab (hA : Tab A) : Tab (W A n) := ⟨W_nn hA n, W_dg hA n⟩
theorem W_99 (hb : ∀ a < n, ∀ b < n, A a b ≤ 99) : ∀ a < n, ∀ b < n, W A n a b ≤ 99 := fun a ha b hb' => Int.le_trans (W_le n a b) (hb a ha b hb')
theorem are_tab (hA : Tab A) (h1 : 1 ≤ n) (h2 : n ≤ 6) (hb : ∀ a < n, ∀ b < n, A a b ≤ 99) : dn_are_times [.p (.tup (matD n A))] [] = .ok (.bl (firstLong n A).isNone) [] := by
  have e := tab_wp hA h1 h2 hb
  have : ((firstLong n A).getD .non).isNon = (firstLong n A).isNone := by
    unfold firstLong
    cases (List.range n).find? (longA n A) <;> rfl
  simp [dn_are_times, e, dIs, this]
end
/-! ### the law's own steps -/
structure TF (ns : List Int) (ρ : M.Env) (n : Nat) (A : Nat → Nat → Int) : Prop where
  tab : Tab A
  n1 : 1 ≤ n
  n6 : n ≤ 6
  b99 : ∀ a < n, ∀ b < n, A a b ≤ 99
  len : ρ.length = 18
  r1 : ρ[1]? = some (some (.r 0))
  a3 : At ρ 3 (.tup (matD n A))
  a4 : At ρ 4 (.tup (matD n (W A n)))
  a9 : At ρ 9 (.int (n : Nat))
section
variable {ns : List Int} {row : List D} {rest : Sto} {ρ : M.Env} {n : Nat} {A : Nat → Nat → Int} {st : Sto}
theorem TF.agr {vs : List Nat} {ρ' : M.Env} (t : TF ns ρ n A) (a : Agr vs ρ ρ') (h : 1 ∉ vs ∧ 3 ∉ vs ∧ 4 ∉ vs ∧ 9 ∉ vs) : TF ns ρ' n A :=
  ⟨t.tab, t.n1, t.n6, t.b99, a.1.trans t.len, (a.2 1 h.1).trans t.r1, (a.2 3 h.2.1).trans t.a3, (a.2 4 h.2.2.1).trans t.a4, (a.2 9 h.2.2.2).trans t.a9⟩
theorem s4_ok (hA : Tab A) (hn : n ≤ 1000) (h3 : At ρ 3 (.tup (matD n A))) : dn_law_s4 ρ st = .next (ρ.set 4 (some (.p (.tup (matD n (W A n)))))) st := by
  simp [dn_law_s4, h3, least_ok hA hn]
theorem s5_ok (t : TF ns ρ n A) : dn_law_s5 ρ st = .next ρ st := by
  have e1 := shortest_ok t.tab t.n1 t.n6 t.b99
  have e2 := alike_refl 9 _ (good_mat (n := n) (A := W A n) (by have := t.n6; omega))
  have e3 := are_tab t.tab t.n1 t.n6 t.b99
  have e4 := are_tab (W_tab (n := n) t.tab) t.n1 t.n6 (W_99 t.b99)
  rw [due_tri t.tab] at e4
  rw [long_iff t.tab] at e3
  have e5 : ∀ b : Bool, dn__law_alike 10 [.p (.bl b), .p (.bl b)] [] = .ok (.bl true) [] := fun b => by rw [alike_bl]; simp
  have a3 := t.a3
  have a4 := t.a4
  simp [dn_law_s5, a3, a4, e1, e2, e3, e4, dIsNot, dEq, -flat_tup, flat_mat, e5, -eqv_tt]
def badL (n : Nat) (A : Nat → Nat → Int) : List Nat := (List.range n).filter (rowDif n A (W A n))
def firstL (n : Nat) (A : Nat → Nat → Int) : List Nat := (badL n A).filter (longA n A)
theorem s6_ok (t : TF ns ρ n A) : dn_law_s6 ρ st = .next (ρ.set 7 (some (.p (.lst ((badL n A).map fun i : Nat => D.int (i : Nat)))))) st := by
  have a3 := t.a3
  have a4 := t.a4
  have l0 := t.len
  have hn := t.n6
  have hc := compL_map (g := gN 15) (ft := dn_law_t1) (fe := eVar 15) (ρ := wipeE ρ [15]) (st := st) (fun i : Nat => D.int (i : Nat)) (rowDif n A (W A n)) (fun i : Nat => D.int (i : Nat)) (List.range n) (by
    intro a ha
    have ha := List.mem_range.mp ha
    have g3 : ((wipeE ρ [15]).set 15 (some (.p (.int (a : Nat)))))[3]? = some (some (.p (.tup (matD n A)))) := by (first | assumption | (((try simp only [At, wipeE]); (repeat rw [gset (by decide)])); first | assumption | (rw [gself (by (try simp only [List.length_set]); omega)])) | (simp only [wipeE, List.length_set]; omega))
    have g4 : ((wipeE ρ [15]).set 15 (some (.p (.int (a : Nat)))))[4]? = some (some (.p (.tup (matD n (W A n))))) := by (first | assumption | (((try simp only [At, wipeE]); (repeat rw [gset (by decide)])); first | assumption | (rw [gself (by (try simp only [List.length_set]); omega)])) | (simp only [wipeE, List.length_set]; omega))
    have g15 : ((wipeE ρ [15]).set 15 (some (.p (.int (a : Nat)))))[15]? = some (some (.p (.int (a : Nat)))) := by (first | assumption | (((try simp only [At, wipeE]); (repeat rw [gset (by decide)])); first | assumption | (rw [gself (by (try simp only [List.length_set]); omega)])) | (simp only [wipeE, List.length_set]; omega))
    refine ⟨_, rfl, ?_, fun _ => by simp [g15]⟩
    simp [dn_law_t1, g3, g4, g15, dIx, atI_matD ha, dNe, -flat_tup, flat_rows, -eqv_tt, eqv_row])
  have hx : bigR (n : Int) = true := bigR_of (by omega) (by omega)
  have hs : n ≤ sizeLine := sz (by omega)
  have a9' : ρ[9]? = some (some (.p (.int (n : Nat)))) := t.a9
  simp only [dn_law_s6, sSet, sOf, ePure, eComp, iRange1, eVar, a9', Res.bind, hx, if_true, Int.toNat_natCast, rngL0, List.length_map, List.length_range, hs, hc, thaw, badL]
theorem t2_ok {a b c : Nat} (h3 : At ρ 3 (.tup (matD n A))) (ha : a < n) (hb : b < n) (hc : c < n) (h15 : At ρ 15 (.int (a : Nat))) (h16 : At ρ 16 (.int (b : Nat))) (h17 : At ρ 17 (.int (c : Nat))) : dn_law_t2 ρ st = .ok (longC A a b c) st := by
  simp [dn_law_t2, h3, h15, h16, h17, dIx, atI_matD ha, atI_matD hc, atI_rowD hb, atI_rowD hc, dAdd, dLt, longC]
theorem filt_any {p : Nat → Bool} (l : List Nat) : (!((l.filter p).map fun i : Nat => D.int (i : Nat)).isEmpty) = l.any p := by
  rw [List.isEmpty_map]
  induction l with
  | nil => rfl
  | cons x l ih =>
    rw [List.filter_cons, List.any_cons]
    cases p x with
    | true => rfl
    | false => simpa using ih
theorem flat_nat (l : List Nat) {k : Nat} : D.flats k (l.map fun i : Nat => D.int (i : Nat)) = true := by
  rw [map_ints (fun i : Nat => (i : Int)) l]
  exact flats_ints _
theorem t3_ok {a b : Nat} (hn : n ≤ 6) (hl : ρ.length = 18) (h3 : At ρ 3 (.tup (matD n A))) (h9 : At ρ 9 (.int (n : Nat))) (ha : a < n) (hb : b < n) (h15 : At ρ 15 (.int (a : Nat))) (h16 : At ρ 16 (.int (b : Nat))) : dn_law_t3 ρ st = .ok (longB n A a b) st := by
  have hc := compL_map (g := gN 17) (ft := dn_law_t2) (fe := eVar 17) (ρ := wipeE ρ [17]) (st := st) (fun i : Nat => D.int (i : Nat)) (longC A a b) (fun i : Nat => D.int (i : Nat)) (List.range n) (by
    intro c hc
    have hc := List.mem_range.mp hc
    have g17 : ((wipeE ρ [17]).set 17 (some (.p (.int (c : Nat)))))[17]? = some (some (.p (.int (c : Nat)))) := by (first | assumption | (((try simp only [At, wipeE]); (repeat rw [gset (by decide)])); first | assumption | (rw [gself (by (try simp only [List.length_set]); omega)])) | (simp only [wipeE, List.length_set]; omega))
    exact ⟨(wipeE ρ [17]).set 17 (some (.p (.int (c : Nat)))), rfl, t2_ok (by (first | assumption | (((try simp only [At, wipeE]); (repeat rw [gset (by decide)])); first | assumption | (rw [gself (by (try simp only [List.length_set]); omega)])) | (simp only [wipeE, List.length_set]; omega))) ha hb hc (by (first | assumption | (((try simp only [At, wipeE]); (repeat rw [gset (by decide)])); first | assumption | (rw [gself (by (try simp only [List.length_set]); omega)])) | (simp only [wipeE, List.length_set]; omega))) (by (first | assumption | (((try simp only [At, wipeE]); (repeat rw [gset (by decide)])); first | assumption | (rw [gself (by (try simp only [List.length_set]); omega)])) | (simp only [wipeE, List.length_set]; omega))) (by (first | assumption | (((try simp only [At, wipeE]); (repeat rw [gset (by decide)])); first | assumption | (rw [gself (by (try simp only [List.length_set]); omega)])) | (simp only [wipeE, List.length_set]; omega))), fun _ => by simp [g17]⟩)
  have hx : bigR (n : Int) = true := bigR_of (by omega) (by omega)
  have hs : n ≤ sizeLine := sz (by omega)
  have h9' : ρ[9]? = some (some (.p (.int (n : Nat)))) := h9
  have f1 := flat_nat ((List.range n).filter (longC A a b)) (k := 59)
  have f2 := filt_any (p := longC A a b) (List.range n)
  generalize (((List.range n).filter (longC A a b)).map fun i : Nat => D.int (i : Nat)) = ds at hc f1 f2
  have f3 : (!ds.isEmpty) = longB n A a b := f2
  simp [dn_law_t3, h9', hx, rngL0, hs, hc, dNe, f1, eqvs_nil, f3]
theorem t4_ok {a : Nat} (hn : n ≤ 6) (hl : ρ.length = 18) (h3 : At ρ 3 (.tup (matD n A))) (h9 : At ρ 9 (.int (n : Nat))) (ha : a < n) (h15 : At ρ 15 (.int (a : Nat))) : dn_law_t4 ρ st = .ok (longA n A a) st := by
  have hc := compL_map (g := gN 16) (ft := dn_law_t3) (fe := eVar 16) (ρ := wipeE ρ [16]) (st := st) (fun i : Nat => D.int (i : Nat)) (longB n A a) (fun i : Nat => D.int (i : Nat)) (List.range n) (by
    intro b hb
    have hb := List.mem_range.mp hb
    have g16 : ((wipeE ρ [16]).set 16 (some (.p (.int (b : Nat)))))[16]? = some (some (.p (.int (b : Nat)))) := by (first | assumption | (((try simp only [At, wipeE]); (repeat rw [gset (by decide)])); first | assumption | (rw [gself (by (try simp only [List.length_set]); omega)])) | (simp only [wipeE, List.length_set]; omega))
    exact ⟨(wipeE ρ [16]).set 16 (some (.p (.int (b : Nat)))), rfl, t3_ok hn (by (first | assumption | (((try simp only [At, wipeE]); (repeat rw [gset (by decide)])); first | assumption | (rw [gself (by (try simp only [List.length_set]); omega)])) | (simp only [wipeE, List.length_set]; omega))) (by (first | assumption | (((try simp only [At, wipeE]); (repeat rw [gset (by decide)])); first | assumption | (rw [gself (by (try simp only [List.length_set]); omega)])) | (simp only [wipeE, List.length_set]; omega))) (by (first | assumption | (((try simp only [At, wipeE]); (repeat rw [gset (by decide)])); first | assumption | (rw [gself (by (try simp only [List.length_set]); omega)])) | (simp only [wipeE, List.length_set]; omega))) ha hb (by (first | assumption | (((try simp only [At, wipeE]); (repeat rw [gset (by decide)])); first | assumption | (rw [gself (by (try simp only [List.length_set]); omega)])) | (simp only [wipeE, List.length_set]; omega))) (by (first | assumption | (((try simp only [At, wipeE]); (repeat rw [gset (by decide)])); first | assumption | (rw [gself (by (try simp only [List.length_set]); omega)])) | (simp only [wipeE, List.length_set]; omega))), fun _ => by simp [g16]⟩)
  have hx : bigR (n : Int) = true := bigR_of (by omega) (by omega)
  have hs : n ≤ sizeLine := sz (by omega)
  have h9' : ρ[9]? = some (some (.p (.int (n : Nat)))) := h9
  have f1 := flat_nat ((List.range n).filter (longB n A a)) (k := 59)
  have f2 := filt_any (p := longB n A a) (List.range n)
  generalize (((List.range n).filter (longB n A a)).map fun i : Nat => D.int (i : Nat)) = ds at hc f1 f2
  have f3 : (!ds.isEmpty) = longA n A a := f2
  simp [dn_law_t4, h9', hx, rngL0, hs, hc, dNe, f1, eqvs_nil, f3]
theorem s7_ok (t : TF ns ρ n A) (h7 : At ρ 7 (.lst ((badL n A).map fun i : Nat => D.int (i : Nat)))) : dn_law_s7 ρ st = .next (ρ.set 11 (some (.p (.lst ((firstL n A).map fun i : Nat => D.int (i : Nat)))))) st := by
  have hn := t.n6
  have l0 := t.len
  have a3 := t.a3
  have a9 := t.a9
  have hc := compL_map (g := gN 15) (ft := dn_law_t4) (fe := eVar 15) (ρ := wipeE ρ [15]) (st := st) (fun i : Nat => D.int (i : Nat)) (longA n A) (fun i : Nat => D.int (i : Nat)) (badL n A) (by
    intro a ha
    have ha : a < n := List.mem_range.mp (List.mem_filter.mp ha).1
    have g15 : ((wipeE ρ [15]).set 15 (some (.p (.int (a : Nat)))))[15]? = some (some (.p (.int (a : Nat)))) := by (first | assumption | (((try simp only [At, wipeE]); (repeat rw [gset (by decide)])); first | assumption | (rw [gself (by (try simp only [List.length_set]); omega)])) | (simp only [wipeE, List.length_set]; omega))
    exact ⟨(wipeE ρ [15]).set 15 (some (.p (.int (a : Nat)))), rfl, t4_ok hn (by (first | assumption | (((try simp only [At, wipeE]); (repeat rw [gset (by decide)])); first | assumption | (rw [gself (by (try simp only [List.length_set]); omega)])) | (simp only [wipeE, List.length_set]; omega))) (by (first | assumption | (((try simp only [At, wipeE]); (repeat rw [gset (by decide)])); first | assumption | (rw [gself (by (try simp only [List.length_set]); omega)])) | (simp only [wipeE, List.length_set]; omega))) (by (first | assumption | (((try simp only [At, wipeE]); (repeat rw [gset (by decide)])); first | assumption | (rw [gself (by (try simp only [List.length_set]); omega)])) | (simp only [wipeE, List.length_set]; omega))) ha (by (first | assumption | (((try simp only [At, wipeE]); (repeat rw [gset (by decide)])); first | assumption | (rw [gself (by (try simp only [List.length_set]); omega)])) | (simp only [wipeE, List.length_set]; omega))), fun _ => by simp [g15]⟩)
  have hs : (badL n A).length ≤ sizeLine := sz (by
    have : (badL n A).length ≤ (List.range n).length := List.length_filter_le _ _
    rw [List.length_range] at this
    omega)
  have h7' : ρ[7]? = some (some (.p (.lst ((badL n A).map fun i : Nat => D.int (i : Nat))))) := h7
  simp only [dn_law_s7, sSet, sOf, ePure, eComp, iSeq, eVar, h7', Res.bind, itemsOf, List.length_map, hs, if_true, hc, thaw, firstL]
theorem first_head (hA : Tab A) {a : Nat} (h : firstLong n A = some (.int (a : Nat))) : ∃ l, firstL n A = a :: l := by
  have hf : (List.range n).find? (longA n A) = some a := by
    unfold firstLong at h
    obtain ⟨b, hb, e⟩ := Option.map_eq_some_iff.mp h
    have : (b : Int) = (a : Int) := D.int.inj e
    have : b = a := by omega
    rw [hb, this]
  have e : firstL n A = (List.range n).filter (longA n A) := by
    unfold firstL badL
    rw [List.filter_filter]
    apply List.filter_congr
    intro x hx
    have hx := List.mem_range.mp hx
    cases q : longA n A x with
    | false => simp
    | true => rw [long_dif hA hx q]; rfl
  have hh : (firstL n A).head? = some a := by rw [e, List.head?_filter, hf]
  cases hl : firstL n A with
  | nil => rw [hl] at hh; cases hh
  | cons x l =>
    rw [hl] at hh
    cases hh
    exact ⟨l, rfl⟩
end
end Law
namespace M
theorem dMul_lst {xs : List D} {k : Nat} (hk : k ≤ 1000) (hx : xs.length * k ≤ 1000000) : dMul (.lst xs) (.int (k : Nat)) = some (.lst (List.replicate k xs).flatten) := by
  unfold dMul
  simp only
  rw [if_pos ⟨by omega, by omega, sz (by simpa using hx)⟩]
  simp
theorem cutD_drop (xs : List D) (m : Nat) (h : m ≤ xs.length) : cutD xs (some (m : Int)) none = xs.drop m := by
  unfold cutD
  have h1 : HT.sIx xs.length 0 (some (m : Int)) = m := by
    rw [HT.sIx_nat]
    omega
  have h2 : HT.sIx xs.length xs.length none = xs.length := by unfold HT.sIx; rfl
  rw [h1, h2]
  apply List.take_of_length_le
  simp
end M
namespace Law
open PySem PySem.Spec L2 M
theorem rpB : Rp 58 (.str "BadTimes") 20 := rp_of (by decide +kernel)
theorem rpN : Rp 58 .non 20 := rp_of (by decide +kernel)
theorem rpI : ∀ j : Nat, j < 6 → Rp 58 (.int (j : Nat)) 20 := by
  intro j hj
  have : j = 0 ∨ j = 1 ∨ j = 2 ∨ j = 3 ∨ j = 4 ∨ j = 5 := by omega
  rcases this with rfl | rfl | rfl | rfl | rfl | rfl <;> exact rp_of (by decide +kernel)
theorem T_rp {v : D} (h : Rp 58 v 20) : Rp 59 (T v) 100 := by
  have := (Rps.cons rpB (Rps.cons h Rps.nil)).tup
  exact ⟨this.flat, this.show_, this.short, by have := this.wt; show (D.tup [.str "BadTimes", v]).py.weight ≤ 100; omega⟩
theorem same_T {d : D} {k : Nat} (h : Rp 58 d 20) (hk : k ≤ 6) : dn__law_same [.p (.lst (List.replicate k (T d))), .p (.lst (List.replicate k (T d)))] [] = .ok (.bl true) [] :=
  same_ok (Rps.of (w := 100) fun x hx => by rw [(List.mem_replicate.mp hx).2]; exact T_rp h).lst (by rw [List.length_replicate]; omega)
/-- a value that the table functions refuse so -/
structure BadV (v d : D) : Prop where
  w : Wrong v d
  s : dn_shortest [.p v] [] = exT d
section
variable {ns : List Int} {row : List D} {rest : Sto} {ρ : M.Env} {n : Nat} {A : Nat → Nat → Int} {st : Sto}
theorem s8_ok {d : D} (h : Wrong (.tup (matD n A)) d) (h3 : At ρ 3 (.tup (matD n A))) : dn_law_s8 ρ st = .next (ρ.set 12 (some (.p (.lst (List.replicate 4 (T d)))))) st := by
  have g0 := plainE_at (l := []) h3
  have g1 := plainE_at (l := [some (.p (.int 0))]) h3
  have e1 := told_bad (ρ := ρ) (st := st) (ds := []) (v := d) (fe := eCall 2 dn_fleet (eCons (eVar 3) (eCons (eC (.int 1)) eNil))) (by
    simp only [List.append_nil] at g0
    simp [g0, w_fleet h])
  have e2 := told_bad (ρ := ρ) (st := st) (ds := [.int 0]) (v := d) (fe := eCall 2 dn_follows (eCons (eVar 3) (eCons (eC (.int 1)) eNil))) (by simp [g1, w_follows h])
  have e3 := told_bad (ρ := ρ) (st := st) (ds := [.int 0]) (v := d) (fe := eCall 2 dn_least_fleet (eCons (eVar 3) (eCons (eC (.int 1)) eNil))) (by simp [g1, w_least h])
  have e4 := told_bad (ρ := ρ) (st := st) (ds := [.int 0]) (v := d) (fe := eCall 2 dn_apart (eCons (eVar 3) (eCons (eC (.int 1)) eNil))) (by simp [g1, w_apart h])
  simp only [dn_law_s8, sSet, sOf, eLst, eCons, e1, e2, e3, e4, eNil, Res.bind]
  simp [szs, List.replicate]
theorem s9_ok {a : Nat} {l : List D} (ha : a < 6) (h12 : At ρ 12 (.lst (List.replicate 4 (T (.int (a : Nat)))))) (h11 : At ρ 11 (.lst (.int (a : Nat) :: l))) : dn_law_s9 ρ st = .next ρ st := by
  have hs := same_T (k := 4) (rpI a ha) (by omega)
  have h0 : atI (D.int (a : Nat) :: l) 0 = some (.int (a : Nat)) := by simp [atI, ixN]
  have hm : dMul (.lst [T (.int (a : Nat))]) (.int 4) = some (.lst (List.replicate 4 (T (.int (a : Nat))))) := (dMul_lst (k := 4) (by omega) (by simp)).trans rfl
  have h11' : ρ[11]? = some (some (.p (.lst (.int (a : Nat) :: l)))) := h11
  have h12' : ρ[12]? = some (some (.p (.lst (List.replicate 4 (T (.int (a : Nat))))))) := h12
  have z1 : 1 ≤ sizeLine := sz (by omega)
  have z2 : 2 ≤ sizeLine := sz (by omega)
  simp only [dn_law_s9, sIf, sOf, eNot, eB, eCall, eOp2, eVar, h11', h12', eLst, eTup, eC, eCons, eNil, Res.bind, dIx, h0, List.length_cons, List.length_nil, Nat.zero_add, Nat.reduceAdd, z1, z2, if_true, hm, List.map_cons, List.map_nil, hs]
  simp
theorem s10_ok (t : TF ns ρ n A) : ∃ ρ', Agr [7, 11, 12] ρ ρ' ∧ dn_law_s10 ρ st = .next ρ' st := by
  have a3 := t.a3
  have a4 := t.a4
  have l0 := t.len
  cases h : D.eqv (.tup (matD n A)) (.tup (matD n (W A n))) with
  | true => exact ⟨ρ, Agr.refl, by simp [dn_law_s10, a3, a4, dNe, -flat_tup, flat_mat, -eqv_tt, h]⟩
  | false =>
    have hi := long_iff (n := n) t.tab
    rw [h] at hi
    obtain ⟨d, hd⟩ : ∃ d, firstLong n A = some d := by
      cases q : firstLong n A with
      | none => rw [q] at hi; cases hi
      | some d => exact ⟨d, rfl⟩
    obtain ⟨a, ha, rfl⟩ : ∃ a, a < n ∧ d = .int (a : Nat) := by
      unfold firstLong at hd
      obtain ⟨a, h1, h2⟩ := Option.map_eq_some_iff.mp hd
      exact ⟨a, List.mem_range.mp (List.mem_of_find?_eq_some h1), h2.symm⟩
    have hw : Wrong (.tup (matD n A)) (.int (a : Nat)) := wrong_pos (by rw [tab_wp t.tab t.n1 t.n6 t.b99, hd]; rfl)
    obtain ⟨l, hl⟩ := first_head t.tab hd
    have e6 := s6_ok (st := st) t
    have t7 : TF ns (ρ.set 7 (some (.p (.lst ((badL n A).map fun i : Nat => D.int (i : Nat)))))) n A := t.agr (Agr.refl.set (vs := [7]) (by decide)) (by decide)
    have e7 := s7_ok (st := st) t7 (by (first | assumption | (((try simp only [At, wipeE]); (repeat rw [gset (by decide)])); first | assumption | (rw [gself (by (try simp only [List.length_set]); omega)])) | (simp only [wipeE, List.length_set]; omega)))
    rw [hl, List.map_cons] at e7
    have t11 : TF ns ((ρ.set 7 (some (.p (.lst ((badL n A).map fun i : Nat => D.int (i : Nat)))))).set 11 (some (.p (.lst (.int (a : Nat) :: l.map fun i : Nat => D.int (i : Nat)))))) n A := t7.agr (Agr.refl.set (vs := [11]) (by decide)) (by decide)
    have e8 := s8_ok (st := st) hw t11.a3
    have l11 := t11.len
    have e9 := s9_ok (st := st) (ρ := ((ρ.set 7 (some (.p (.lst ((badL n A).map fun i : Nat => D.int (i : Nat)))))).set 11 (some (.p (.lst (.int (a : Nat) :: l.map fun i : Nat => D.int (i : Nat)))))).set 12 (some (.p (.lst (List.replicate 4 (T (.int (a : Nat)))))))) (a := a) (l := l.map fun i : Nat => D.int (i : Nat)) (by have := t.n6; omega) (by (first | assumption | (((try simp only [At, wipeE]); (repeat rw [gset (by decide)])); first | assumption | (rw [gself (by (try simp only [List.length_set]); omega)])) | (simp only [wipeE, List.length_set]; omega))) (by (first | assumption | (((try simp only [At, wipeE]); (repeat rw [gset (by decide)])); first | assumption | (rw [gself (by (try simp only [List.length_set]); omega)])) | (simp only [wipeE, List.length_set]; omega)))
    refine ⟨((ρ.set 7 (some (.p (.lst ((badL n A).map fun i : Nat => D.int (i : Nat)))))).set 11 (some (.p (.lst (.int (a : Nat) :: l.map fun i : Nat => D.int (i : Nat)))))).set 12 (some (.p (.lst (List.replicate 4 (T (.int (a : Nat))))))), ((Agr.refl.set (by decide)).set (by decide)).set (by decide), ?_⟩
    have hc : (eB (eOp2 dNe (eVar 3) (eVar 4))) ρ st = .ok true st := by simp [a3, a4, dNe, -flat_tup, flat_mat, -eqv_tt, h]
    simp only [dn_law_s10, sIf, sOf, hc, if_true]
    rw [sSeq_next e6, sSeq_next e7, sSeq_next e8, e9]
theorem s11_ok (t : TF ns ρ n A) (hr : RowOk ns row) (hf : Flat rest) : ∃ (p : Nat) (row' : List D), p < n ∧ RowOk ns row' ∧ dn_law_s11 ρ (.lst row :: rest) = .next (ρ.set 5 (some (.p (.int (p : Nat))))) (.lst row' :: rest) := by
  have hn := t.n1
  have hn6 := t.n6
  obtain ⟨v1, row1, hr1, a1, b1, e1⟩ := taken (m := (n : Int)) hr hf (by omega) (by omega)
  obtain ⟨p, rfl⟩ := Int.eq_ofNat_of_zero_le a1
  have r1 := t.r1
  have a9 := t.a9
  refine ⟨p, row1, by omega, hr1, ?_⟩
  simp [dn_law_s11, r1, a9, e1]
/-- what may stand in place of row p, wrong -/
structure WR (n p : Nat) (d : D) : Prop where
  v : RowV d
  bad : okT n p d = false
theorem wr_no {p : Nat} {d : D} (h : NoTup d) : WR n p d := ⟨.no h, by cases h <;> rfl⟩
theorem rowD_ints {B : Nat → Nat → Int} {p : Nat} : ∀ d ∈ M.rowD n B p, d = .non ∨ ∃ i, d = .int i := fun d hd => by
  obtain ⟨i, _, rfl⟩ := List.mem_map.mp hd
  exact .inr ⟨i, rfl⟩
theorem wr_len {p : Nat} {xs : List D} (h1 : xs.length ≤ 1000) (h2 : ∀ d ∈ xs, d = .non ∨ ∃ i, d = .int i) (h : xs.length ≠ n) : WR n p (.tup xs) := ⟨.tup h1 h2, by simp [okT, h]⟩
theorem wr_first {p : Nat} {x : D} {xs : List D} (h1 : xs.length ≤ 999) (h2 : ∀ d ∈ x :: xs, d = .non ∨ ∃ i, d = .int i) (h : okE x = false) : WR n p (.tup (x :: xs)) := ⟨.tup (by simp; omega) h2, by simp [okT, h]⟩
theorem s12_ok {p : Nat} (t : TF ns ρ n A) (hp : p < n) (h5 : At ρ 5 (.int (p : Nat))) :
    ∃ w : List D, w.length = 4 ∧ (∀ d ∈ w, WR n p d) ∧ dn_law_s12 ρ st = .next (ρ.set 6 (some (.p (.lst w)))) st := by
  have hn := t.n1
  have hn6 := t.n6
  have a4 := t.a4
  have z4 : 4 ≤ sizeLine := sz (by omega)
  have z1 : 1 ≤ sizeLine := sz (by omega)
  have z7 : n + 1 ≤ sizeLine := sz (by omega)
  refine ⟨[.non, .lst (M.rowD n (W A n) p), .tup (M.rowD n (W A n) p ++ [.int 0]), .tup (M.rowD n (W A n) p).tail], rfl, ?_, ?_⟩
  · intro d hd
    simp only [List.mem_cons, List.not_mem_nil, or_false] at hd
    rcases hd with rfl | rfl | rfl | rfl
    · exact wr_no .non
    · exact wr_no (.lst _)
    · refine wr_len (by simp [rowD_len]; omega) (fun d hd => ?_) (by simp [rowD_len])
      rcases List.mem_append.mp hd with hd | hd
      · exact rowD_ints d hd
      · rw [List.mem_singleton.mp hd]; exact .inr ⟨_, rfl⟩
    · exact wr_len (by simp [rowD_len]; omega) (fun d hd => rowD_ints d (List.mem_of_mem_tail hd)) (by simp [rowD_len]; omega)
  · simp [dn_law_s12, a4, h5, dIx, atI_matD hp, dList, dAdd, rowD_len, dCut, cutD_tail, szs, z7]
theorem s13_ok {p : Nat} {w : List D} (t : TF ns ρ n A) (hp : p < n) (h5 : At ρ 5 (.int (p : Nat))) (h6 : At ρ 6 (.lst w)) (hw : w.length = 4) (hwr : ∀ d ∈ w, WR n p d) :
    ∃ w' : List D, w'.length = 8 ∧ (∀ d ∈ w', WR n p d) ∧ dn_law_s13 ρ st = .next (ρ.set 6 (some (.p (.lst w')))) st := by
  have hn := t.n1
  have hn6 := t.n6
  have a4 := t.a4
  have a9 := t.a9
  have hB := W_tab (n := n) t.tab
  have tl : (M.rowD n (W A n) p).tail.length = n - 1 := by simp [rowD_len]
  have ti : ∀ d ∈ (M.rowD n (W A n) p).tail, d = .non ∨ ∃ i, d = .int i := fun d hd => rowD_ints d (List.mem_of_mem_tail hd)
  have hA : WR n p (.tup (((M.rowD n (W A n) p).take p ++ [.int 1]) ++ (M.rowD n (W A n) p).drop (p + 1))) := by
    refine ⟨.tup (by simp [rowD_len]; omega) (fun d hd => ?_), ?_⟩
    · rcases List.mem_append.mp hd with hd | hd
      · rcases List.mem_append.mp hd with hd | hd
        · exact rowD_ints d (List.mem_of_mem_take hd)
        · rw [List.mem_singleton.mp hd]; exact .inr ⟨_, rfl⟩
      · exact rowD_ints d (List.mem_of_mem_drop hd)
    · have hz : okZ (((M.rowD n (W A n) p).take p ++ [.int 1]) ++ (M.rowD n (W A n) p).drop (p + 1)) p = false := by
        unfold okZ
        have : (((M.rowD n (W A n) p).take p ++ [D.int 1]) ++ (M.rowD n (W A n) p).drop (p + 1))[p]? = some (.int 1) := by
          rw [List.getElem?_append_left (by simp [rowD_len]; omega), List.getElem?_append_right (by simp [rowD_len]; omega)]
          simp [rowD_len, Nat.min_eq_left (Nat.le_of_lt hp)]
        rw [this]
        rfl
      show (decide _ && (_ && okZ _ p)) = false
      rw [hz]
      simp
  have hN : WR n p (.tup (List.replicate n .non)) := by
    obtain ⟨m, rfl⟩ : ∃ m, n = m + 1 := ⟨n - 1, by omega⟩
    rw [List.replicate_succ]
    exact wr_first (by simp; omega) (fun d hd => by
      rcases List.mem_cons.mp hd with rfl | hd
      · exact .inl rfl
      · exact .inl (List.mem_replicate.mp hd).2) rfl
  have z8 : 8 ≤ sizeLine := sz (by omega)
  have z1 : p + 1 ≤ sizeLine := sz (by omega)
  have zt : min p n + 1 ≤ sizeLine := sz (by omega)
  have zn : min p n + 1 + (n - (p + 1)) ≤ sizeLine := sz (by omega)
  have zm : n - 1 + 1 ≤ sizeLine := sz (by omega)
  have zm' : 1 + (n - 1) ≤ sizeLine := sz (by omega)
  have ct := cutD_take (M.rowD n (W A n) p) p (by rw [rowD_len]; omega)
  have cd := cutD_drop (M.rowD n (W A n) p) (p + 1) (by rw [rowD_len]; omega)
  have cd' : cutD (M.rowD n (W A n) p) (some ((p : Int) + 1)) none = (M.rowD n (W A n) p).drop (p + 1) := by rw [← cd]; congr 1
  have hk : (n : Int) ≤ 1000 := by omega
  have hrep : (List.replicate n [D.non]).flatten = List.replicate n .non := by
    induction n with
    | zero => rfl
    | succ m _ => simp
  by_cases h0 : 0 < p
  · refine ⟨w ++ [.tup (((M.rowD n (W A n) p).take p ++ [.int 1]) ++ (M.rowD n (W A n) p).drop (p + 1)), .tup (.int (-1) :: (M.rowD n (W A n) p).tail), .tup (.int 100 :: (M.rowD n (W A n) p).tail), .tup (List.replicate n .non)], by simp [hw], ?_, ?_⟩
    · intro d hd
      rcases List.mem_append.mp hd with hd | hd
      · exact hwr d hd
      · simp only [List.mem_cons, List.not_mem_nil, or_false] at hd
        rcases hd with rfl | rfl | rfl | rfl
        · exact hA
        · exact wr_first (by omega) (fun d hd => by
            rcases List.mem_cons.mp hd with rfl | hd
            · exact .inr ⟨_, rfl⟩
            · exact ti d hd) (by simp [okE])
        · exact wr_first (by omega) (fun d hd => by
            rcases List.mem_cons.mp hd with rfl | hd
            · exact .inr ⟨_, rfl⟩
            · exact ti d hd) (by simp [okE])
        · exact hN
    · simp [dn_law_s13, a4, a9, h5, h6, dIx, atI_matD hp, dAdd, rowD_len, dCut, cutD_tail, ct, cd', szs, dGt, h0, dNeg, zt, zn, zm, zm', z1, dMul, hk, hrep, hw]
  · have hp0 : p = 0 := by omega
    refine ⟨w ++ [.tup (((M.rowD n (W A n) p).take p ++ [.int 1]) ++ (M.rowD n (W A n) p).drop (p + 1)), .non, .int 1, .tup (List.replicate n .non)], by simp [hw], ?_, ?_⟩
    · intro d hd
      rcases List.mem_append.mp hd with hd | hd
      · exact hwr d hd
      · simp only [List.mem_cons, List.not_mem_nil, or_false] at hd
        rcases hd with rfl | rfl | rfl | rfl
        · exact hA
        · exact wr_no .non
        · exact wr_no (.int _)
        · exact hN
    · simp [dn_law_s13, a4, a9, h5, h6, dIx, atI_matD hp, dAdd, rowD_len, dCut, cutD_tail, ct, cd', szs, dGt, h0, dNeg, zt, zn, zm, zm', z1, dMul, hk, hrep, hw]
end
end Law
namespace Law
open PySem PySem.Spec L2 M
section
variable {ns : List Int} {row : List D} {rest : Sto} {ρ : M.Env} {n : Nat} {A : Nat → Nat → Int} {st : Sto}
theorem odd_ok (hr : RowOk ns row) (hf : Flat rest) : ∃ (d : D) (row' : List D), NoTup d ∧ RowOk ns row' ∧ dn__law_odd [.r 0] (.lst row :: rest) = .ok d (.lst row' :: rest) := by
  have hp : (10 : Int) ^ (30 : Nat) = 1000000000000000000000000000000 := by decide
  obtain ⟨d, row1, hr1, hd, e1⟩ := pick_ok (ds := [.non, .bl true, .bl false, .int (-1), .int 1000000000000000000000000000000, .str "", .str "A", .str "a1", .str "abcdefghi", .lst [], .lst [.int 1], .dic [], .dic [(.str "a", .int 1)], .str "a b", .int 61, .str "-"]) hr hf (by simp) (by simp)
  refine ⟨d, row1, ?_, hr1, ?_⟩
  · simp only [List.mem_cons, List.not_mem_nil, or_false] at hd
    rcases hd with rfl | rfl | rfl | rfl | rfl | rfl | rfl | rfl | rfl | rfl | rfl | rfl | rfl | rfl | rfl | rfl <;> constructor
  · simp [dn__law_odd, szs, dNeg, dPow, hp, e1, hf.all]
theorem badv_no {v : D} (h : NoTup v) : BadV v .non := ⟨wrong_neg (wp_no h), sh_no h⟩
theorem badv_len {ds : List D} (h : ¬ (1 ≤ ds.length ∧ ds.length ≤ 6)) : BadV (.tup ds) .non := ⟨wrong_neg (wp_len h), sh_len h⟩
theorem badv_row {B : Nat → Nat → Int} {p : Nat} {d : D} (hB : Tab B) (h6 : n ≤ 6) (hb : ∀ a < n, ∀ b < n, B a b ≤ 99) (hp : p < n) (w : WR n p d) : BadV (.tup ((matD n B).take p ++ d :: (matD n B).drop (p + 1))) (.int (p : Nat)) := by
  have hpl : ((matD n B).take p).length = p := by simp [matD_len]; omega
  have hl : ((matD n B).take p ++ d :: (matD n B).drop (p + 1)).length = n := by simp [matD_len]; omega
  have hv : ∀ z ∈ (matD n B).take p, RowV z := fun z hz => by
    obtain ⟨a, _, rfl⟩ := List.mem_map.mp (List.mem_of_mem_take hz)
    exact rowV_row (by omega)
  have hok : ∀ i z, ((matD n B).take p)[i]? = some z → okT ((matD n B).take p ++ d :: (matD n B).drop (p + 1)).length i z = true := fun i z hz => by
    rw [hl]
    have hi : i < p := by
      have := (List.getElem?_eq_some_iff.mp hz).1
      omega
    rw [List.getElem?_take_of_lt hi] at hz
    obtain ⟨rfl, hi2⟩ := matD_get hz
    exact okT_row hi2 (fun b hb' => ⟨hB.nn i b, hb i hi2 b hb'⟩) (hB.dg i)
  have hbad : okT ((matD n B).take p ++ d :: (matD n B).drop (p + 1)).length ((matD n B).take p).length d = false := by rw [hl, hpl]; exact w.bad
  have e1 := wp_bad (by omega) hv w.v hbad hok
  have e2 := sh_bad (by omega) hv w.v hbad hok
  rw [hpl] at e1 e2
  exact ⟨wrong_pos e1, e2⟩
theorem s14_ok {p : Nat} {w : List D} (t : TF ns ρ n A) (hp : p < n) (h5 : At ρ 5 (.int (p : Nat))) (h6 : At ρ 6 (.lst w)) (hw : w.length = 8) (hwr : ∀ d ∈ w, WR n p d) (hr : RowOk ns row) (hf : Flat rest) :
    ∃ (v : D) (row' : List D), BadV v (.int (p : Nat)) ∧ RowOk ns row' ∧ dn_law_s14 ρ (.lst row :: rest) = .next (ρ.set 7 (some (.p v))) (.lst row' :: rest) := by
  have hn6 := t.n6
  have a4 := t.a4
  have r1 := t.r1
  obtain ⟨d, row1, hr1, hd, e1⟩ := pick_ok (ds := w) hr hf (by omega) (by omega)
  refine ⟨_, row1, badv_row (W_tab (n := n) t.tab) hn6 (W_99 t.b99) hp (hwr d hd), hr1, ?_⟩
  have ct := cutD_take (matD n (W A n)) p (by rw [matD_len]; omega)
  have cd := cutD_drop (matD n (W A n)) (p + 1) (by rw [matD_len]; omega)
  have cd' : cutD (matD n (W A n)) (some ((p : Int) + 1)) none = (matD n (W A n)).drop (p + 1) := by rw [← cd]; congr 1
  have z1 : min p n + 1 ≤ sizeLine := sz (by omega)
  have z2 : min p n + 1 + (n - (p + 1)) ≤ sizeLine := sz (by omega)
  simp [dn_law_s14, a4, r1, h5, h6, dCut, ct, cd', e1, szs, dAdd, matD_len, z1, z2]
theorem s15_ok (t : TF ns ρ n A) (hr : RowOk ns row) (hf : Flat rest) :
    ∃ (v : D) (row' : List D), BadV v .non ∧ RowOk ns row' ∧ dn_law_s15 ρ (.lst row :: rest) = .next (ρ.set 8 (some (.p v))) (.lst row' :: rest) := by
  have a4 := t.a4
  have r1 := t.r1
  obtain ⟨o, row1, ho, hr1, e1⟩ := odd_ok hr hf
  obtain ⟨X, m1⟩ : ∃ X, dMul (.tup [.int 0]) (.int 7) = some (.tup X) := ⟨_, by simp [dMul]; rfl⟩
  obtain ⟨Y, hY, m2⟩ : ∃ Y : List D, Y.length = 7 ∧ dMul (.tup [.tup X]) (.int 7) = some (.tup Y) := ⟨(List.replicate 7 [D.tup X]).flatten, by simp, by simp [dMul]⟩
  obtain ⟨d, row2, hr2, hd, e2⟩ := pick_ok (ds := [.non, .tup [], .lst (matD n (W A n)), .int 1, .tup Y, o]) hr1 hf (by simp) (by simp)
  refine ⟨d, row2, ?_, hr2, ?_⟩
  · simp only [List.mem_cons, List.not_mem_nil, or_false] at hd
    rcases hd with rfl | rfl | rfl | rfl | rfl | rfl
    · exact badv_no .non
    · exact badv_len (by simp)
    · exact badv_no (.lst _)
    · exact badv_no (.int _)
    · exact badv_len (by omega)
    · exact badv_no ho
  · simp [dn_law_s15, a4, r1, dList, szs, m1, m2, e1, e2]
theorem b1_ok {v d : D} (hl : ρ.length = 18) (h : BadV v d) (hd : Rp 58 d 20) (h13 : At ρ 13 v) (h14 : At ρ 14 (T d)) : ∃ ρ', Agr [12] ρ ρ' ∧ dn_law_b1 ρ st = .next ρ' st := by
  have g0 := plainE_at (l := []) h13
  have g1 := plainE_at (l := [some (.p (.int 0))]) h13
  have e1 := told_bad (ρ := ρ) (st := st) (ds := []) (v := d) (fe := eCall 1 dn_shortest (eCons (eVar 13) eNil)) (by
    simp only [List.append_nil] at g0
    simp [g0, h.s])
  have e2 := told_bad (ρ := ρ) (st := st) (ds := [.int 0]) (v := d) (fe := eCall 2 dn_fleet (eCons (eVar 13) (eCons (eC (.int 1)) eNil))) (by simp [g1, w_fleet h.w])
  have e3 := told_bad (ρ := ρ) (st := st) (ds := [.int 0]) (v := d) (fe := eCall 3 dn_is_fleet (eCons (eVar 13) (eCons (eC (.int 1)) (eCons (eC (.int 1)) eNil)))) (by simp [g1, w_isf h.w])
  have e4 := told_bad (ρ := ρ) (st := st) (ds := [.int 0]) (v := d) (fe := eCall 3 dn_are_apart (eCons (eVar 13) (eCons (eC (.int 1)) (eCons (eC (.int 1)) eNil)))) (by simp [g1, w_area h.w])
  have s16 : dn_law_s16 ρ st = .next (ρ.set 12 (some (.p (.lst (List.replicate 4 (T d)))))) st := by
    simp only [dn_law_s16, sSet, sOf, eLst, eCons, e1, e2, e3, e4, eNil, Res.bind]
    simp [szs, List.replicate]
  have f13 : At (ρ.set 12 (some (.p (.lst (List.replicate 4 (T d)))))) 13 v := by (first | assumption | (((try simp only [At, wipeE]); (repeat rw [gset (by decide)])); first | assumption | (rw [gself (by (try simp only [List.length_set]); omega)])) | (simp only [wipeE, List.length_set]; omega))
  have f12 : (ρ.set 12 (some (.p (.lst (List.replicate 4 (T d))))))[12]? = some (some (.p (.lst (List.replicate 4 (T d))))) := by (first | assumption | (((try simp only [At, wipeE]); (repeat rw [gset (by decide)])); first | assumption | (rw [gself (by (try simp only [List.length_set]); omega)])) | (simp only [wipeE, List.length_set]; omega))
  have f14 : At (ρ.set 12 (some (.p (.lst (List.replicate 4 (T d)))))) 14 (T d) := by (first | assumption | (((try simp only [At, wipeE]); (repeat rw [gset (by decide)])); first | assumption | (rw [gself (by (try simp only [List.length_set]); omega)])) | (simp only [wipeE, List.length_set]; omega))
  have fl : (ρ.set 12 (some (.p (.lst (List.replicate 4 (T d)))))).length = 18 := by (first | assumption | (((try simp only [At, wipeE]); (repeat rw [gset (by decide)])); first | assumption | (rw [gself (by (try simp only [List.length_set]); omega)])) | (simp only [wipeE, List.length_set]; omega))
  have ag : Agr [12] ρ (ρ.set 12 (some (.p (.lst (List.replicate 4 (T d)))))) := Agr.refl.set (by decide)
  generalize ρ.set 12 (some (.p (.lst (List.replicate 4 (T d))))) = ρ1 at s16 f13 f12 f14 fl ag
  have g1 := plainE_at (l := [some (.p (.int 0))]) f13
  have e5 := told_bad (ρ := ρ1) (st := st) (ds := [.int 0]) (v := d) (fe := eCall 4 dn_shows_least (eCons (eVar 13) (eCons (eC (.int 1)) (eCons (eC (.int 1)) (eCons (eC (.int 1)) eNil))))) (by simp [g1, w_shows h.w])
  have e6 := told_bad (ρ := ρ1) (st := st) (ds := [.int 0]) (v := d) (fe := eCall 3 dn_idle (eCons (eVar 13) (eCons (eC (.int 1)) (eCons (eC (.int 1)) eNil)))) (by simp [g1, w_idle h.w])
  have s17 : dn_law_s17 ρ1 st = .next (ρ1.set 12 (some (.p (.lst (List.replicate 6 (T d)))))) st := by
    have ha : dAdd (.lst (List.replicate 4 (T d))) (.lst [T d, T d]) = some (.lst (List.replicate 6 (T d))) := by simp [dAdd, szs, List.replicate]
    have z2 : 2 ≤ sizeLine := sz (by omega)
    simp only [dn_law_s17, sSet, sOf, eOp2, eVar, f12, eLst, eCons, e5, e6, eNil, Res.bind, List.length_cons, List.length_nil, Nat.zero_add, Nat.reduceAdd, z2, if_true, ha]
  have q13 : (ρ1.set 12 (some (.p (.lst (List.replicate 6 (T d))))))[13]? = some (some (.p v)) := by (first | assumption | (((try simp only [At, wipeE]); (repeat rw [gset (by decide)])); first | assumption | (rw [gself (by (try simp only [List.length_set]); omega)])) | (simp only [wipeE, List.length_set]; omega))
  have q12 : (ρ1.set 12 (some (.p (.lst (List.replicate 6 (T d))))))[12]? = some (some (.p (.lst (List.replicate 6 (T d))))) := by (first | assumption | (((try simp only [At, wipeE]); (repeat rw [gset (by decide)])); first | assumption | (rw [gself (by (try simp only [List.length_set]); omega)])) | (simp only [wipeE, List.length_set]; omega))
  have q14 : (ρ1.set 12 (some (.p (.lst (List.replicate 6 (T d))))))[14]? = some (some (.p (T d))) := by (first | assumption | (((try simp only [At, wipeE]); (repeat rw [gset (by decide)])); first | assumption | (rw [gself (by (try simp only [List.length_set]); omega)])) | (simp only [wipeE, List.length_set]; omega))
  refine ⟨ρ1.set 12 (some (.p (.lst (List.replicate 6 (T d))))), ag.trans (Agr.refl.set (by decide)), ?_⟩
  have hs := same_T (k := 6) hd (by omega)
  have hm : dMul (.lst [T d]) (.int 6) = some (.lst (List.replicate 6 (T d))) := (dMul_lst (k := 6) (by omega) (by simp)).trans rfl
  have z1 : 1 ≤ sizeLine := sz (by omega)
  have s18 : dn_law_s18 (ρ1.set 12 (some (.p (.lst (List.replicate 6 (T d)))))) st = .next (ρ1.set 12 (some (.p (.lst (List.replicate 6 (T d)))))) st := by
    simp only [dn_law_s18, sIf, sOf, eOr, eNot, eB, eCall, eOp2, eVar, q12, q13, q14, eLst, eC, eCons, eNil, Res.bind, List.length_cons, List.length_nil, Nat.zero_add, z1, if_true, hm, List.map_cons, List.map_nil, hs, h.w.are, if_neg Bool.false_ne_true]
    simp [hm, hs]
  unfold dn_law_b1
  rw [sSeq_next s16, sSeq_next s17, s18]
theorem s19_ok {p : Nat} {v w : D} (hl : ρ.length = 18) (hp : p < 6) (hv : BadV v (.int (p : Nat))) (hw : BadV w .non) (h5 : At ρ 5 (.int (p : Nat))) (h7 : At ρ 7 v) (h8 : At ρ 8 w) : ∃ ρ', Agr [12, 13, 14] ρ ρ' ∧ dn_law_s19 ρ st = .next ρ' st := by
  have g1 : gT (gsCons (gN 13) (gsCons (gN 14) gsNil)) 2 (.tup [v, T (.int (p : Nat))]) ρ = some ((ρ.set 13 (some (.p v))).set 14 (some (.p (T (.int (p : Nat)))))) := rfl
  obtain ⟨ρ1, a1, e1⟩ := b1_ok (st := st) (ρ := (ρ.set 13 (some (.p v))).set 14 (some (.p (T (.int (p : Nat)))))) (by (first | assumption | (((try simp only [At, wipeE]); (repeat rw [gset (by decide)])); first | assumption | (rw [gself (by (try simp only [List.length_set]); omega)])) | (simp only [wipeE, List.length_set]; omega))) hv (rpI p hp) (by (first | assumption | (((try simp only [At, wipeE]); (repeat rw [gset (by decide)])); first | assumption | (rw [gself (by (try simp only [List.length_set]); omega)])) | (simp only [wipeE, List.length_set]; omega))) (by (first | assumption | (((try simp only [At, wipeE]); (repeat rw [gset (by decide)])); first | assumption | (rw [gself (by (try simp only [List.length_set]); omega)])) | (simp only [wipeE, List.length_set]; omega)))
  have l1 : ρ1.length = 18 := a1.1.trans (by (first | assumption | (((try simp only [At, wipeE]); (repeat rw [gset (by decide)])); first | assumption | (rw [gself (by (try simp only [List.length_set]); omega)])) | (simp only [wipeE, List.length_set]; omega)))
  have g2 : gT (gsCons (gN 13) (gsCons (gN 14) gsNil)) 2 (.tup [w, T .non]) ρ1 = some ((ρ1.set 13 (some (.p w))).set 14 (some (.p (T .non)))) := rfl
  obtain ⟨ρ2, a2, e2⟩ := b1_ok (st := st) (ρ := (ρ1.set 13 (some (.p w))).set 14 (some (.p (T .non)))) (by (first | assumption | (((try simp only [At, wipeE]); (repeat rw [gset (by decide)])); first | assumption | (rw [gself (by (try simp only [List.length_set]); omega)])) | (simp only [wipeE, List.length_set]; omega))) hw rpN (by (first | assumption | (((try simp only [At, wipeE]); (repeat rw [gset (by decide)])); first | assumption | (rw [gself (by (try simp only [List.length_set]); omega)])) | (simp only [wipeE, List.length_set]; omega))) (by (first | assumption | (((try simp only [At, wipeE]); (repeat rw [gset (by decide)])); first | assumption | (rw [gself (by (try simp only [List.length_set]); omega)])) | (simp only [wipeE, List.length_set]; omega)))
  refine ⟨ρ2, ?_, ?_⟩
  · exact ((((Agr.refl.set (by decide)).set (by decide)).trans (a1.mono (by decide))).set (by decide)).set (by decide) |>.trans (a2.mono (by decide))
  · have h5' : ρ[5]? = some (some (.p (.int (p : Nat)))) := h5
    have h7' : ρ[7]? = some (some (.p v)) := h7
    have h8' : ρ[8]? = some (some (.p w)) := h8
    have z2 : 2 ≤ sizeLine := sz (by omega)
    simp only [dn_law_s19, sFor, sOf, iSeq, eLst, eTup, eCons, eC, eNil, eVar, h5', h7', h8', Res.bind, List.length_cons, List.length_nil, Nat.zero_add, Nat.reduceAdd, z2, if_true, itemsOf]
    rw [forL_cons g1 e1, forL_cons g2 e2]
    rfl
theorem b2_ok (hl : ρ.length = 18) (h1 : ρ[1]? = some (some (.r 0))) (hr : RowOk ns row) (hf : Flat rest) :
    ∃ (row' : List D) (ρ' : M.Env), ρ'.length = 18 ∧ ρ'[1]? = some (some (.r 0)) ∧ RowOk ns row' ∧ dn_law_b2 ρ (.lst row :: rest) = .next ρ' (.lst row' :: rest) := by
  obtain ⟨n, far, row1, hn, hfar, hr1, e2⟩ := s2_ok hl h1 hr hf
  generalize hρ1 : (ρ.set 9 (some (.p (.int (n : Nat))))).set 10 (some (.p (.int (far : Nat)))) = ρ1 at e2
  have b1 : ρ1.length = 18 := by rw [← hρ1]; (first | assumption | (((try simp only [At, wipeE]); (repeat rw [gset (by decide)])); first | assumption | (rw [gself (by (try simp only [List.length_set]); omega)])) | (simp only [wipeE, List.length_set]; omega))
  have b9 : At ρ1 9 (.int (n : Nat)) := by rw [← hρ1]; (first | assumption | (((try simp only [At, wipeE]); (repeat rw [gset (by decide)])); first | assumption | (rw [gself (by (try simp only [List.length_set]); omega)])) | (simp only [wipeE, List.length_set]; omega))
  have b10 : At ρ1 10 (.int (far : Nat)) := by rw [← hρ1]; (first | assumption | (((try simp only [At, wipeE]); (repeat rw [gset (by decide)])); first | assumption | (rw [gself (by (try simp only [List.length_set]); omega)])) | (simp only [wipeE, List.length_set]; omega))
  have br1 : ρ1[1]? = some (some (.r 0)) := by rw [← hρ1]; (first | assumption | (((try simp only [At, wipeE]); (repeat rw [gset (by decide)])); first | assumption | (rw [gself (by (try simp only [List.length_set]); omega)])) | (simp only [wipeE, List.length_set]; omega))
  clear hρ1
  obtain ⟨A, row2, hA, h99, hr2, e3⟩ := rows_ok hn.1 hn.2 hfar.1 hfar.2 hr1 hf b1 br1 b9 b10
  have e4 := s4_ok (n := n) (ρ := ρ1.set 3 (some (.p (.tup (matD n A))))) (st := .lst row2 :: rest) hA (by omega) (by (first | assumption | (((try simp only [At, wipeE]); (repeat rw [gset (by decide)])); first | assumption | (rw [gself (by (try simp only [List.length_set]); omega)])) | (simp only [wipeE, List.length_set]; omega)))
  have t : TF ns ((ρ1.set 3 (some (.p (.tup (matD n A))))).set 4 (some (.p (.tup (matD n (W A n)))))) n A := ⟨hA, hn.1, hn.2, h99, by (first | assumption | (((try simp only [At, wipeE]); (repeat rw [gset (by decide)])); first | assumption | (rw [gself (by (try simp only [List.length_set]); omega)])) | (simp only [wipeE, List.length_set]; omega)), by (first | assumption | (((try simp only [At, wipeE]); (repeat rw [gset (by decide)])); first | assumption | (rw [gself (by (try simp only [List.length_set]); omega)])) | (simp only [wipeE, List.length_set]; omega)), by (first | assumption | (((try simp only [At, wipeE]); (repeat rw [gset (by decide)])); first | assumption | (rw [gself (by (try simp only [List.length_set]); omega)])) | (simp only [wipeE, List.length_set]; omega)), by (first | assumption | (((try simp only [At, wipeE]); (repeat rw [gset (by decide)])); first | assumption | (rw [gself (by (try simp only [List.length_set]); omega)])) | (simp only [wipeE, List.length_set]; omega)), by (first | assumption | (((try simp only [At, wipeE]); (repeat rw [gset (by decide)])); first | assumption | (rw [gself (by (try simp only [List.length_set]); omega)])) | (simp only [wipeE, List.length_set]; omega))⟩
  generalize (ρ1.set 3 (some (.p (.tup (matD n A))))).set 4 (some (.p (.tup (matD n (W A n))))) = ρ2 at e4 t
  have e5 := s5_ok (st := .lst row2 :: rest) t
  obtain ⟨ρ3, a3, e10⟩ := s10_ok (st := .lst row2 :: rest) t
  have t3 := t.agr a3 (by decide)
  obtain ⟨p, row4, hp, hr4, e11⟩ := s11_ok t3 hr2 hf
  have t4 : TF ns (ρ3.set 5 (some (.p (.int (p : Nat))))) n A := t3.agr (Agr.refl.set (vs := [5]) (by decide)) (by decide)
  have l3 := t3.len
  have p5 : At (ρ3.set 5 (some (.p (.int (p : Nat))))) 5 (.int (p : Nat)) := by (first | assumption | (((try simp only [At, wipeE]); (repeat rw [gset (by decide)])); first | assumption | (rw [gself (by (try simp only [List.length_set]); omega)])) | (simp only [wipeE, List.length_set]; omega))
  generalize ρ3.set 5 (some (.p (.int (p : Nat)))) = ρ4 at e11 t4 p5
  obtain ⟨w4, w4l, w4w, e12⟩ := s12_ok (st := .lst row4 :: rest) t4 hp p5
  have t5 : TF ns (ρ4.set 6 (some (.p (.lst w4)))) n A := t4.agr (Agr.refl.set (vs := [6]) (by decide)) (by decide)
  have l4 := t4.len
  obtain ⟨w8, w8l, w8w, e13⟩ := s13_ok (st := .lst row4 :: rest) (ρ := ρ4.set 6 (some (.p (.lst w4)))) t5 hp (by (first | assumption | (((try simp only [At, wipeE]); (repeat rw [gset (by decide)])); first | assumption | (rw [gself (by (try simp only [List.length_set]); omega)])) | (simp only [wipeE, List.length_set]; omega))) (by (first | assumption | (((try simp only [At, wipeE]); (repeat rw [gset (by decide)])); first | assumption | (rw [gself (by (try simp only [List.length_set]); omega)])) | (simp only [wipeE, List.length_set]; omega))) w4l w4w
  have t6 : TF ns ((ρ4.set 6 (some (.p (.lst w4)))).set 6 (some (.p (.lst w8)))) n A := t5.agr (Agr.refl.set (vs := [6]) (by decide)) (by decide)
  obtain ⟨v, row5, hv, hr5, e14⟩ := s14_ok (ρ := (ρ4.set 6 (some (.p (.lst w4)))).set 6 (some (.p (.lst w8)))) t6 hp (by (first | assumption | (((try simp only [At, wipeE]); (repeat rw [gset (by decide)])); first | assumption | (rw [gself (by (try simp only [List.length_set]); omega)])) | (simp only [wipeE, List.length_set]; omega))) (by (first | assumption | (((try simp only [At, wipeE]); (repeat rw [gset (by decide)])); first | assumption | (rw [gself (by (try simp only [List.length_set]); omega)])) | (simp only [wipeE, List.length_set]; omega))) w8l w8w hr4 hf
  have t7 : TF ns (((ρ4.set 6 (some (.p (.lst w4)))).set 6 (some (.p (.lst w8)))).set 7 (some (.p v))) n A := t6.agr (Agr.refl.set (vs := [7]) (by decide)) (by decide)
  obtain ⟨w, row6, hw, hr6, e15⟩ := s15_ok t7 hr5 hf
  have t8 : TF ns ((((ρ4.set 6 (some (.p (.lst w4)))).set 6 (some (.p (.lst w8)))).set 7 (some (.p v))).set 8 (some (.p w))) n A := t7.agr (Agr.refl.set (vs := [8]) (by decide)) (by decide)
  obtain ⟨ρ9, a9, e19⟩ := s19_ok (st := .lst row6 :: rest) (ρ := (((ρ4.set 6 (some (.p (.lst w4)))).set 6 (some (.p (.lst w8)))).set 7 (some (.p v))).set 8 (some (.p w))) t8.len (by omega) hv hw (by (first | assumption | (((try simp only [At, wipeE]); (repeat rw [gset (by decide)])); first | assumption | (rw [gself (by (try simp only [List.length_set]); omega)])) | (simp only [wipeE, List.length_set]; omega))) (by (first | assumption | (((try simp only [At, wipeE]); (repeat rw [gset (by decide)])); first | assumption | (rw [gself (by (try simp only [List.length_set]); omega)])) | (simp only [wipeE, List.length_set]; omega))) (by (first | assumption | (((try simp only [At, wipeE]); (repeat rw [gset (by decide)])); first | assumption | (rw [gself (by (try simp only [List.length_set]); omega)])) | (simp only [wipeE, List.length_set]; omega)))
  have t9 := t8.agr a9 (by decide)
  refine ⟨row6, ρ9, t9.len, t9.r1, hr6, ?_⟩
  unfold dn_law_b2
  rw [sSeq_next e2, sSeq_next e3, sSeq_next e4, sSeq_next e5, sSeq_next e10, sSeq_next e11, sSeq_next e12, sSeq_next e13, sSeq_next e14, sSeq_next e15, e19]
end
theorem main (ns : List Int) (hl : ns.length ≤ 63) (hb : ∀ z ∈ ns, Builtin.Int.intBits z ≤ 1048576) : dn_law [.p (.scr ns)] [] = .ok (.bl true) [] := by
  have h4 : 4 ≤ sizeLine := sz (by omega)
  obtain ⟨ρ', st', e, _⟩ := forL_ix (g := gN 2) (fb := dn_law_b2) (fun i : Nat => D.int (i : Nat)) (List.range 5) (fun _ ρ st => (ρ.length = 18 ∧ ρ[1]? = some (some (.r 0))) ∧ ∃ row, RowOk ns row ∧ st = [.lst row])
    (ρ := [some (.p (.scr ns)), some (.r 0), none, none, none, none, none, none, none, none, none, none, none, none, none, none, none, none]) (st := [.lst [.scr ns, .int 0, .int 5161, .int 0]])
    ⟨⟨rfl, rfl⟩, _, ⟨0, 5161, 0, rfl, by omega, by omega, by omega, by omega⟩, rfl⟩ (by
      rintro i x ρ st hx ⟨⟨l0, r1⟩, row, hr, rfl⟩
      obtain ⟨row', ρ', l', r', hr', e⟩ := b2_ok (rest := []) (ρ := ρ.set 2 (some (.p (.int (x : Nat))))) (by (first | assumption | (((try simp only [At, wipeE]); (repeat rw [gset (by decide)])); first | assumption | (rw [gself (by (try simp only [List.length_set]); omega)])) | (simp only [wipeE, List.length_set]; omega))) (by (first | assumption | (((try simp only [At, wipeE]); (repeat rw [gset (by decide)])); first | assumption | (rw [gself (by (try simp only [List.length_set]); omega)])) | (simp only [wipeE, List.length_set]; omega))) hr (fun o ho => by cases ho)
      exact ⟨_, ρ', _, rfl, .inl e, ⟨l', r'⟩, row', hr', rfl⟩)
  have s1 : dn_law_s1 [some (.p (.scr ns)), none, none, none, none, none, none, none, none, none, none, none, none, none, none, none, none, none] [] = .next [some (.p (.scr ns)), some (.r 0), none, none, none, none, none, none, none, none, none, none, none, none, none, none, none, none] [.lst [.scr ns, .int 0, .int 5161, .int 0]] := by
    simp [dn_law_s1, h4]
  have s20 : dn_law_s20 [some (.p (.scr ns)), some (.r 0), none, none, none, none, none, none, none, none, none, none, none, none, none, none, none, none] [.lst [.scr ns, .int 0, .int 5161, .int 0]] = .next ρ' st' := by
    exact sFor_range (n := 5) (by omega) e
  refine dFn_ret rfl (st' := st') ?_
  show sSeq dn_law_s1 (sSeq dn_law_s20 _) [some (.p (.scr ns)), none, none, none, none, none, none, none, none, none, none, none, none, none, none, none, none, none] [] = _
  rw [sSeq_next s1, sSeq_next s20]
  simp
end Law
open PySem PySem.W PyProof.Rows
set_option maxRecDepth 100000 in
set_option maxHeartbeats 0 in
theorem PySem.Challenge.cw_craterounds_k16_whole_times_of_carrying_holds : PySem.Challenge.rw_craterounds_k16_whole_times_of_carrying.Holds := by
  w_on; o_law; k_head; (case hw => w_witness2)
  k_fill
  first | refine Law.walk (l := PySem.Challenge.rw_craterounds_k16_whole_times_of_carrying) rfl rfl (fun w h Y => PySem.W.kIn_of Y) ?F | refine Law.walk (l := PySem.Challenge.rw_craterounds_k16_whole_times_of_carrying) rfl rfl (fun w h Y => PySem.W.km_in_of Y) ?F
  case F =>
    intro w mg mb mean fa h T KX hmg
    refine' Law.all_mk Law.main T KX hmg ?z_ValueError ?z_all ?z_any ?z_bool ?z_enumerate ?z_int ?z_isinstance ?z_len ?z_list ?z_min ?z_range ?z_repr ?z_str ?z_tuple ?q_MOST_HOUSES ?q_MOST_TIME ?a_CrateError ?a_BadPlan ?a_BadNumber ?a_UnknownKind ?a_UnknownHouse ?a_TooMany ?a_BadCourse ?a_BadOrder ?a_BadTimes ?a_BadNeeds ?a_BadRows ?a_BadCounts ?a_BadMoves ?a_BadSuspects ?a_BadSigns ?a_BadText ?a_BadLine ?a_NotPossible ?a_NotAgreed ?a_BadClaim ?a_NothingDone ?z_super ?o_BadTimes ?ic_BadTimes ?l_BadTimes ?lc_BadTimes ?ce_BadTimes ?fi_BadTimes ?fe_BadTimes ?v_BadTimes ?b_BadTimes ?htop ?kt_NothingDone ?kt_BadClaim ?kt_NotAgreed ?kt_NotPossible ?kt_BadLine ?kt_BadText ?kt_BadSigns ?kt_BadSuspects ?kt_BadMoves ?kt_BadCounts ?kt_BadRows ?kt_BadNeeds ?kt_BadTimes ?kt_BadCourse ?kt_TooMany ?kt_UnknownHouse ?kt_UnknownKind ?kt_BadOrder ?kt_BadNumber ?kt_BadPlan ?kt_ValueError ?ex_all ?em_CrateError ?nf_limit ?nf_line ?nf_name ?nf_part ?nf_place ?nf_value ?a__law_least ?l__law_least ?c__law_least ?k__law_least ?a__law_taken ?l__law_taken ?c__law_taken ?k__law_taken ?a__law_pick ?l__law_pick ?c__law_pick ?k__law_pick ?a__law_alike ?l__law_alike ?c__law_alike ?k__law_alike ?a_first_long ?l_first_long ?c_first_long ?k_first_long ?a_is_row ?l_is_row ?c_is_row ?k_is_row ?a_is_whole ?l_is_whole ?c_is_whole ?k_is_whole ?a_is_within ?l_is_within ?c_is_within ?k_is_within ?a_is_times_row ?l_is_times_row ?c_is_times_row ?k_is_times_row ?a_wrong_place ?l_wrong_place ?c_wrong_place ?k_wrong_place ?a_are_times ?l_are_times ?c_are_times ?k_are_times ?a__law_refusal ?l__law_refusal ?c__law_refusal ?k__law_refusal ?a__law_told ?l__law_told ?c__law_told ?k__law_told ?a__law_same ?l__law_same ?c__law_same ?k__law_same ?a__law_odd ?l__law_odd ?c__law_odd ?k__law_odd ?a_shortest ?l_shortest ?c_shortest ?k_shortest ?a_place_told ?l_place_told ?c_place_told ?k_place_told ?a_require_times ?l_require_times ?c_require_times ?k_require_times ?a_require_needs ?l_require_needs ?c_require_needs ?k_require_needs ?a_fleet ?l_fleet ?c_fleet ?k_fleet ?a_follows ?l_follows ?c_follows ?k_follows ?a_least_fleet ?l_least_fleet ?c_least_fleet ?k_least_fleet ?a_apart ?l_apart ?c_apart ?k_apart ?a_is_fleet ?l_is_fleet ?c_is_fleet ?k_is_fleet ?a_are_apart ?l_are_apart ?c_are_apart ?k_are_apart ?a_shows_least ?l_shows_least ?c_shows_least ?k_shows_least ?a_idle ?l_idle ?c_idle ?k_idle ?a_law ?l_law ?c_law ?k_law ?tb_law ?re_law ?no_tabs
    (case z_ValueError => k_is)
    (case z_all => k_is)
    (case z_any => k_is)
    (case z_bool => k_is)
    (case z_enumerate => k_is)
    (case z_int => k_is)
    (case z_isinstance => k_is)
    (case z_len => k_is)
    (case z_list => k_is)
    (case z_min => k_is)
    (case z_range => k_is)
    (case z_repr => k_is)
    (case z_str => k_is)
    (case z_tuple => k_is)
    (case q_MOST_HOUSES => k_is)
    (case q_MOST_TIME => k_is)
    (case a_CrateError => k_is)
    (case a_BadPlan => k_is)
    (case a_BadNumber => k_is)
    (case a_UnknownKind => k_is)
    (case a_UnknownHouse => k_is)
    (case a_TooMany => k_is)
    (case a_BadCourse => k_is)
    (case a_BadOrder => k_is)
    (case a_BadTimes => k_is)
    (case a_BadNeeds => k_is)
    (case a_BadRows => k_is)
    (case a_BadCounts => k_is)
    (case a_BadMoves => k_is)
    (case a_BadSuspects => k_is)
    (case a_BadSigns => k_is)
    (case a_BadText => k_is)
    (case a_BadLine => k_is)
    (case a_NotPossible => k_is)
    (case a_NotAgreed => k_is)
    (case a_BadClaim => k_is)
    (case a_NothingDone => k_is)
    (case z_super => k_is)
    (case o_BadTimes => k_is)
    (case ic_BadTimes => k_is)
    (case l_BadTimes => k_is)
    (case lc_BadTimes => k_is)
    (case ce_BadTimes => k_is)
    (case fi_BadTimes => exact rfl)
    (case fe_BadTimes => kernel_rfl)
    (case v_BadTimes => kernel_rfl)
    (case b_BadTimes => kernel_rfl)
    (case htop => kernel_rfl)
    (case kt_NothingDone => kernel_rfl)
    (case kt_BadClaim => kernel_rfl)
    (case kt_NotAgreed => kernel_rfl)
    (case kt_NotPossible => kernel_rfl)
    (case kt_BadLine => kernel_rfl)
    (case kt_BadText => kernel_rfl)
    (case kt_BadSigns => kernel_rfl)
    (case kt_BadSuspects => kernel_rfl)
    (case kt_BadMoves => kernel_rfl)
    (case kt_BadCounts => kernel_rfl)
    (case kt_BadRows => kernel_rfl)
    (case kt_BadNeeds => kernel_rfl)
    (case kt_BadTimes => kernel_rfl)
    (case kt_BadCourse => kernel_rfl)
    (case kt_TooMany => kernel_rfl)
    (case kt_UnknownHouse => kernel_rfl)
    (case kt_UnknownKind => kernel_rfl)
    (case kt_BadOrder => kernel_rfl)
    (case kt_BadNumber => kernel_rfl)
    (case kt_BadPlan => kernel_rfl)
    (case kt_ValueError => kernel_rfl)
    (case ex_all => kernel_rfl)
    (case em_CrateError => kernel_rfl)
    (case nf_limit => kernel_rfl)
    (case nf_line => kernel_rfl)
    (case nf_name => kernel_rfl)
    (case nf_part => kernel_rfl)
    (case nf_place => kernel_rfl)
    (case nf_value => kernel_rfl)
    (case a__law_least => k_is)
    (case l__law_least => k_is)
    (case c__law_least => k_is)
    (case k__law_least => k_is)
    (case a__law_taken => k_is)
    (case l__law_taken => k_is)
    (case c__law_taken => k_is)
    (case k__law_taken => k_is)
    (case a__law_pick => k_is)
    (case l__law_pick => k_is)
    (case c__law_pick => k_is)
    (case k__law_pick => k_is)
    (case a__law_alike => k_is)
    (case l__law_alike => k_is)
    (case c__law_alike => k_is)
    (case k__law_alike => k_is)
    (case a_first_long => k_is)
    (case l_first_long => k_is)
    (case c_first_long => k_is)
    (case k_first_long => k_is)
    (case a_is_row => k_is)
    (case l_is_row => k_is)
    (case c_is_row => k_is)
    (case k_is_row => k_is)
    (case a_is_whole => k_is)
    (case l_is_whole => k_is)
    (case c_is_whole => k_is)
    (case k_is_whole => k_is)
    (case a_is_within => k_is)
    (case l_is_within => k_is)
    (case c_is_within => k_is)
    (case k_is_within => k_is)
    (case a_is_times_row => k_is)
    (case l_is_times_row => k_is)
    (case c_is_times_row => k_is)
    (case k_is_times_row => k_is)
    (case a_wrong_place => k_is)
    (case l_wrong_place => k_is)
    (case c_wrong_place => k_is)
    (case k_wrong_place => k_is)
    (case a_are_times => k_is)
    (case l_are_times => k_is)
    (case c_are_times => k_is)
    (case k_are_times => k_is)
    (case a__law_refusal => k_is)
    (case l__law_refusal => k_is)
    (case c__law_refusal => k_is)
    (case k__law_refusal => k_is)
    (case a__law_told => k_is)
    (case l__law_told => k_is)
    (case c__law_told => k_is)
    (case k__law_told => k_is)
    (case a__law_same => k_is)
    (case l__law_same => k_is)
    (case c__law_same => k_is)
    (case k__law_same => k_is)
    (case a__law_odd => k_is)
    (case l__law_odd => k_is)
    (case c__law_odd => k_is)
    (case k__law_odd => k_is)
    (case a_shortest => k_is)
    (case l_shortest => k_is)
    (case c_shortest => k_is)
    (case k_shortest => k_is)
    (case a_place_told => k_is)
    (case l_place_told => k_is)
    (case c_place_told => k_is)
    (case k_place_told => k_is)
    (case a_require_times => k_is)
    (case l_require_times => k_is)
    (case c_require_times => k_is)
    (case k_require_times => k_is)
    (case a_require_needs => k_is)
    (case l_require_needs => k_is)
    (case c_require_needs => k_is)
    (case k_require_needs => k_is)
    (case a_fleet => k_is)
    (case l_fleet => k_is)
    (case c_fleet => k_is)
    (case k_fleet => k_is)
    (case a_follows => k_is)
    (case l_follows => k_is)
    (case c_follows => k_is)
    (case k_follows => k_is)
    (case a_least_fleet => k_is)
    (case l_least_fleet => k_is)
    (case c_least_fleet => k_is)
    (case k_least_fleet => k_is)
    (case a_apart => k_is)
    (case l_apart => k_is)
    (case c_apart => k_is)
    (case k_apart => k_is)
    (case a_is_fleet => k_is)
    (case l_is_fleet => k_is)
    (case c_is_fleet => k_is)
    (case k_is_fleet => k_is)
    (case a_are_apart => k_is)
    (case l_are_apart => k_is)
    (case c_are_apart => k_is)
    (case k_are_apart => k_is)
    (case a_shows_least => k_is)
    (case l_shows_least => k_is)
    (case c_shows_least => k_is)
    (case k_shows_least => k_is)
    (case a_idle => k_is)
    (case l_idle => k_is)
    (case c_idle => k_is)
    (case k_idle => k_is)
    (case a_law => k_is)
    (case l_law => k_is)
    (case c_law => k_is)
    (case k_law => k_is)
    (case tb_law => exact rfl)
    (case re_law => kernel_rfl)
    (case no_tabs => kernel_rfl)
