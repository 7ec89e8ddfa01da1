import PyProof.Rows.All
import Wide.All
import OpenK.AllK
import Wide.FinOn
import PySem.Challenge.RW_craterounds_k20_schedules_judged
import HandS.ForMost
import HandS.ForExc
import HandS.TupAny
import HandS.Zip
import HandS.IsInst
import HandS.Steps
import HandS.Deep
import HandS.HotCalls
import HandS.ExcInit
import HandS.Lambda
import HandS.ExcField
import HandS.ExcIs
import KE.KExcSuper
import KE.KTupSum
import HandS.SortInts
import HandS.Style
import HandS.WordsDict
import HandS.TupMul
import HandS.ExcSuper
import HandS.NestedK
import HandS.EndTab
import PyProof.ReprRoads
import PyProof.ReprLen
set_option Elab.async false
set_option linter.all false
set_option maxRecDepth 100000
set_option maxHeartbeats 8000000
namespace M
open PySem PySem.Spec L2
/-! what the kernel shall not decide by counting -/
noncomputable instance (priority := high) undSz (n : Nat) : Decidable (n ≤ sizeLine) := Classical.propDecidable _
noncomputable instance (priority := high) undSzLt (n : Nat) : Decidable (n < sizeLine) := Classical.propDecidable _
noncomputable instance (priority := high) undB1 (i : Int) : Decidable (i < 4611686018427387904) := Classical.propDecidable _
noncomputable instance (priority := high) undB2 (i : Int) : Decidable (-4611686018427387904 ≤ i) := Classical.propDecidable _
noncomputable instance (priority := high) undB3 (i : Int) : Decidable (-4611686018427387904 < i) := Classical.propDecidable _

/-! ### data, store, results -/
inductive D where
  | non | bl (b : Bool) | int (i : Int) | str (x : Str) | tup (xs : List D) | lst (xs : List D) | dic (kvs : List (D × D)) | diT (kvs : List (D × D))
  | ins (c : Str) (fs : List (Str × D)) | fn (x : Str) | scr (ns : List Int)
inductive S where
  | p (d : D) | r (n : Nat) | x (c : Str) (fs : List (Str × D))
inductive O where
  | lst (ds : List D) | dic (kvs : List (D × D)) | diT (kvs : List (D × D)) | ins (c : Str) (fs : List (Str × S)) | frz (d : D) | dead
@[simp] def O.live : O → Bool
  | .lst _ => true | .dic _ => true | .diT _ => true | .ins _ _ => true | _ => false
abbrev Sto := List O
abbrev Env := List (Option S)
inductive Res (α : Type) where
  | ok (a : α) (st : Sto) | exc (c : Str) (fs : List (Str × D)) (st : Sto) | stuck
inductive SRes where
  | next (ρ : Env) (st : Sto) | ret (d : D) (st : Sto) | brk (ρ : Env) (st : Sto) | cont (ρ : Env) (st : Sto)
  | exc (c : Str) (fs : List (Str × D)) (ρ : Env) (st : Sto) | stuck
abbrev Den := Env → Sto → Res D
abbrev DenB := Env → Sto → Res Bool
abbrev DenL := Env → Sto → Res (List D)
abbrev SDen := Env → Sto → SRes
abbrev FDen := List D → Sto → Res D
@[simp] def Res.bind {α β : Type} (r : Res α) (k : α → Sto → Res β) : Res β := match r with
  | .ok a st => k a st
  | .exc c fs st => .exc c fs st
  | .stuck => .stuck

/-! ### what stands for what -/
structure Wd where
  K : PySem.W.Frag
  cls : Str → Option Addr
  fn : Str → Option Addr
  exc : Option (Addr × Addr × Option Addr) := none
  T : List (Addr × Str) := []

abbrev Zone := Addr → Prop
def KTup (K : PySem.W.Frag) (a : Addr) (xs : List V) : Prop :=
  ∃ (o : Obj) (its : Array Value) (n : Nat), K.lookup a = some o ∧ o.cls = .type "tuple" ∧ o.data = .seq its n ∧ its.size ≤ sizeLine ∧ Vals xs its.toList
def KLst (K : PySem.W.Frag) (a : Addr) (xs : List V) : Prop :=
  ∃ (o : Obj) (its : Array Value) (n : Nat), K.lookup a = some o ∧ o.cls = .type "list" ∧ o.dict = none ∧ o.data = .seq its n ∧ its.size ≤ sizeLine ∧ Vals xs its.toList
mutual
inductive Rep (G : Wd) (Z : Zone) (H : Hp) : D → V → Prop
  | non : Rep G Z H .non .non
  | bl (b : Bool) : Rep G Z H (.bl b) (.bl b)
  | int (i : Int) : Rep G Z H (.int i) (.int i)
  | str (x : Str) : Rep G Z H (.str x) (.str x)
  | tup {a : Addr} {vs : List V} {ds : List D} : Rd H a (.tup vs) → ¬ Z a → Reps G Z H ds vs → Rep G Z H (.tup ds) (.ref a)
  | tupK {a : Addr} {vs : List V} {ds : List D} : KTup G.K a vs → Reps G Z H ds vs → Rep G Z H (.tup ds) (.ref a)
  | lst {a : Addr} {vs : List V} {ds : List D} : Rd H a (.lst vs) → ¬ Z a → Reps G Z H ds vs → Rep G Z H (.lst ds) (.ref a)
  | dK {a : Addr} {kvs : List (Key × V)} {ds : List (D × D)} : Rd H a (.dK kvs) → ¬ Z a → RepK G Z H ds kvs → Rep G Z H (.dic ds) (.ref a)
  | dT {a : Addr} {kvs : List (List Key × V)} {ds : List (D × D)} : Rd H a (.dT kvs) → ¬ Z a → RepT G Z H ds kvs → Rep G Z H (.diT ds) (.ref a)
  | ins {a C dx : Addr} {c : Str} {vfs : List (Str × V)} {fs : List (Str × D)} : H a = some (.ins C dx vfs) → ¬ Z a → G.cls c = some C → RepF G Z H fs vfs → Rep G Z H (.ins c fs) (.ref a)
  | fn {a : Addr} {x : Str} : G.fn x = some a → Rep G Z H (.fn x) (.ref a)
  | scr {a : Addr} {ns : List Int} : Rd H a (.lst (ns.map V.int)) → ¬ Z a → Rep G Z H (.scr ns) (.ref a)
  | scrK {a : Addr} {ns : List Int} : KLst G.K a (ns.map V.int) → Rep G Z H (.scr ns) (.ref a)
inductive Reps (G : Wd) (Z : Zone) (H : Hp) : List D → List V → Prop
  | nil : Reps G Z H [] []
  | cons {d : D} {v : V} {ds : List D} {vs : List V} : Rep G Z H d v → Reps G Z H ds vs → Reps G Z H (d :: ds) (v :: vs)
inductive RepK (G : Wd) (Z : Zone) (H : Hp) : List (D × D) → List (Key × V) → Prop
  | nil : RepK G Z H [] []
  | int {i : Int} {d : D} {v : V} {ds : List (D × D)} {vs : List (Key × V)} : Rep G Z H d v → RepK G Z H ds vs → RepK G Z H ((.int i, d) :: ds) ((.inl i, v) :: vs)
  | str {x : Str} {d : D} {v : V} {ds : List (D × D)} {vs : List (Key × V)} : Rep G Z H d v → RepK G Z H ds vs → RepK G Z H ((.str x, d) :: ds) ((.inr x, v) :: vs)
inductive RepT (G : Wd) (Z : Zone) (H : Hp) : List (D × D) → List (List Key × V) → Prop
  | nil : RepT G Z H [] []
  | cons {ks : List Key} {es : List D} {d : D} {v : V} {ds : List (D × D)} {vs : List (List Key × V)} : Reps G Z H es (ks.map kV) → Rep G Z H d v → RepT G Z H ds vs → RepT G Z H ((.tup es, d) :: ds) ((ks, v) :: vs)
inductive RepF (G : Wd) (Z : Zone) (H : Hp) : List (Str × D) → List (Str × V) → Prop
  | nil : RepF G Z H [] []
  | cons {x : Str} {d : D} {v : V} {ds : List (Str × D)} {vs : List (Str × V)} : Rep G Z H d v → RepF G Z H ds vs → RepF G Z H ((x, d) :: ds) ((x, v) :: vs)
end

/-- an object, but for the lock of a dict that a loop walks -/
def core : HO → HO
  | .frz _ (.dK k) => .dK k | .frz _ (.dT k) => .dT k | .tbl _ => .tbl #[] | o => o
def KeepAt (H' : Hp) (a : Addr) (o : HO) : Prop := ∃ o', H' a = some o' ∧ core o' = core o
theorem KeepAt.of {H' : Hp} {a : Addr} {o : HO} (h : H' a = some o) : KeepAt H' a o := ⟨o, h, rfl⟩
theorem KeepAt.ins {H' : Hp} {a C dx : Addr} {fs : List (Str × V)} (k : KeepAt H' a (.ins C dx fs)) : H' a = some (.ins C dx fs) := by
  obtain ⟨o', h, e⟩ := k
  have e2 : core o' = .ins C dx fs := e
  unfold core at e2
  split at e2 <;> first | (cases e2; done) | exact (by rw [h, e2])
theorem KeepAt.rd {H H' : Hp} {a : Addr} {u : HO} (r : Rd H a u) (k : ∀ o, H a = some o → KeepAt H' a o) : (∃ xs, u = .lst xs) ∨ (∃ xs, u = .tup xs) ∨ (∃ xs, u = .dK xs) ∨ (∃ xs, u = .dT xs) → Rd H' a u := by
  intro hu
  have go : ∀ o, H a = some o → (o = u ∨ ∃ ob, o = .frz ob u) → Rd H' a u := fun o ho hc => by
    obtain ⟨o', h', e⟩ := k o ho
    rcases hu with ⟨xs, rfl⟩ | ⟨xs, rfl⟩ | ⟨xs, rfl⟩ | ⟨xs, rfl⟩
    · rcases hc with rfl | ⟨ob, rfl⟩
      · have e2 : core o' = .lst xs := e
        unfold core at e2
        split at e2 <;> first | (cases e2; done) | exact .inl (by rw [h', e2])
      · have e2 : core o' = .frz ob (.lst xs) := e
        unfold core at e2
        split at e2 <;> first | (cases e2; done) | exact .inr ⟨ob, by rw [h', e2]⟩
    · rcases hc with rfl | ⟨ob, rfl⟩
      · have e2 : core o' = .tup xs := e
        unfold core at e2
        split at e2 <;> first | (cases e2; done) | exact .inl (by rw [h', e2])
      · have e2 : core o' = .frz ob (.tup xs) := e
        unfold core at e2
        split at e2 <;> first | (cases e2; done) | exact .inr ⟨ob, by rw [h', e2]⟩
    · have e2 : core o' = .dK xs := by
        rcases hc with rfl | ⟨ob, rfl⟩ <;> exact e
      unfold core at e2
      split at e2
      · cases e2
        exact .inr ⟨_, h'⟩
      · cases e2
      · cases e2
      · exact .inl (by rw [h', e2])
    · have e2 : core o' = .dT xs := by
        rcases hc with rfl | ⟨ob, rfl⟩ <;> exact e
      unfold core at e2
      split at e2
      · cases e2
      · cases e2
        exact .inr ⟨_, h'⟩
      · cases e2
      · exact .inl (by rw [h', e2])
  rcases r with r | ⟨o, r⟩
  · exact go _ r (.inl rfl)
  · exact go _ r (.inr ⟨o, rfl⟩)
/-- what is read as u at an address that may be leant on is so in the other heap and zone -/
def Keeps (Z Z' : Zone) (H H' : Hp) : Prop := ∀ a o, H a = some o → ¬ Z a → KeepAt H' a o ∧ ¬ Z' a
theorem Keeps.rd {Z Z' : Zone} {H H' : Hp} (k : Keeps Z Z' H H') {a : Addr} {u : HO} (r : Rd H a u) (z : ¬ Z a) (hu : (∃ xs, u = .lst xs) ∨ (∃ xs, u = .tup xs) ∨ (∃ xs, u = .dK xs) ∨ (∃ xs, u = .dT xs)) : Rd H' a u ∧ ¬ Z' a := by
  refine ⟨KeepAt.rd r (fun o h => (k a o h z).1) hu, ?_⟩
  rcases r with r | ⟨o, r⟩
  · exact (k _ _ r z).2
  · exact (k _ _ r z).2
section
variable {G : Wd} {Z Z' : Zone} {H H' : Hp}
mutual
theorem Rep.mono (k : Keeps Z Z' H H') : ∀ {d : D} {v : V}, Rep G Z H d v → Rep G Z' H' d v
  | _, _, .non => .non
  | _, _, .bl b => .bl b
  | _, _, .int i => .int i
  | _, _, .str x => .str x
  | _, _, .tup r z h => .tup (k.rd r z (.inr (.inl ⟨_, rfl⟩))).1 (k.rd r z (.inr (.inl ⟨_, rfl⟩))).2 (Reps.mono k h)
  | _, _, .tupK r h => .tupK r (Reps.mono k h)
  | _, _, .lst r z h => .lst (k.rd r z (.inl ⟨_, rfl⟩)).1 (k.rd r z (.inl ⟨_, rfl⟩)).2 (Reps.mono k h)
  | _, _, .dK r z h => .dK (k.rd r z (.inr (.inr (.inl ⟨_, rfl⟩)))).1 (k.rd r z (.inr (.inr (.inl ⟨_, rfl⟩)))).2 (RepK.mono k h)
  | _, _, .dT r z h => .dT (k.rd r z (.inr (.inr (.inr ⟨_, rfl⟩)))).1 (k.rd r z (.inr (.inr (.inr ⟨_, rfl⟩)))).2 (RepT.mono k h)
  | _, _, .ins e z c h => .ins (k _ _ e z).1.ins (k _ _ e z).2 c (RepF.mono k h)
  | _, _, .fn e => .fn e
  | _, _, .scr r z => .scr (k.rd r z (.inl ⟨_, rfl⟩)).1 (k.rd r z (.inl ⟨_, rfl⟩)).2
  | _, _, .scrK h => .scrK h
theorem Reps.mono (k : Keeps Z Z' H H') : ∀ {d : List D} {v : List V}, Reps G Z H d v → Reps G Z' H' d v
  | _, _, .nil => .nil
  | _, _, .cons h t => .cons (Rep.mono k h) (Reps.mono k t)
theorem RepK.mono (k : Keeps Z Z' H H') : ∀ {d : List (D × D)} {v : List (Key × V)}, RepK G Z H d v → RepK G Z' H' d v
  | _, _, .nil => .nil
  | _, _, .int h t => .int (Rep.mono k h) (RepK.mono k t)
  | _, _, .str h t => .str (Rep.mono k h) (RepK.mono k t)
theorem RepT.mono (k : Keeps Z Z' H H') : ∀ {d : List (D × D)} {v : List (List Key × V)}, RepT G Z H d v → RepT G Z' H' d v
  | _, _, .nil => .nil
  | _, _, .cons e h t => .cons (Reps.mono k e) (Rep.mono k h) (RepT.mono k t)
theorem RepF.mono (k : Keeps Z Z' H H') : ∀ {d : List (Str × D)} {v : List (Str × V)}, RepF G Z H d v → RepF G Z' H' d v
  | _, _, .nil => .nil
  | _, _, .cons h t => .cons (Rep.mono k h) (RepF.mono k t)
end
theorem Reps.length : ∀ {ds : List D} {vs : List V}, Reps G Z H ds vs → ds.length = vs.length
  | _, _, .nil => rfl
  | _, _, .cons _ t => congrArg (· + 1) t.length
theorem Reps.get : ∀ {ds : List D} {vs : List V} {i : Nat} {d : D}, Reps G Z H ds vs → ds[i]? = some d → ∃ v, vs[i]? = some v ∧ Rep G Z H d v
  | _, _, _, _, .nil, e => by simp at e
  | _, _, 0, _, .cons r _, e => by simp at e; subst e; exact ⟨_, rfl, r⟩
  | _, _, i + 1, d, .cons _ t, e => by
    obtain ⟨v, h1, h2⟩ := Reps.get (i := i) (d := d) t (by simpa using e)
    exact ⟨v, by simpa using h1, h2⟩
theorem Reps.getV : ∀ {ds : List D} {vs : List V} {i : Nat} {v : V}, Reps G Z H ds vs → vs[i]? = some v → ∃ d, ds[i]? = some d ∧ Rep G Z H d v
  | _, _, _, _, .nil, e => by simp at e
  | _, _, 0, _, .cons r _, e => by simp at e; subst e; exact ⟨_, rfl, r⟩
  | _, _, i + 1, d, .cons _ t, e => by
    obtain ⟨v, h1, h2⟩ := Reps.getV (i := i) (v := d) t (by simpa using e)
    exact ⟨v, by simpa using h1, h2⟩
theorem Reps.append : ∀ {ds es : List D} {vs ws : List V}, Reps G Z H ds vs → Reps G Z H es ws → Reps G Z H (ds ++ es) (vs ++ ws)
  | _, _, _, _, .nil, s => s
  | _, _, _, _, .cons r t, s => .cons r (Reps.append t s)
theorem Reps.take : ∀ {ds : List D} {vs : List V} (n : Nat), Reps G Z H ds vs → Reps G Z H (ds.take n) (vs.take n)
  | _, _, 0, _ => .nil
  | _, _, _ + 1, .nil => .nil
  | _, _, n + 1, .cons r t => .cons r (Reps.take n t)
theorem Reps.drop : ∀ {ds : List D} {vs : List V} (n : Nat), Reps G Z H ds vs → Reps G Z H (ds.drop n) (vs.drop n)
  | _, _, 0, r => r
  | _, _, _ + 1, .nil => .nil
  | _, _, n + 1, .cons _ t => Reps.drop n t
theorem Reps.set {d : D} {v : V} (r : Rep G Z H d v) : ∀ {ds : List D} {vs : List V} (i : Nat), Reps G Z H ds vs → Reps G Z H (ds.set i d) (vs.set i v)
  | _, _, _, .nil => .nil
  | _, _, 0, .cons _ t => .cons r t
  | _, _, i + 1, .cons q t => .cons q (Reps.set r i t)
theorem Reps.one {d : D} {v : V} (r : Rep G Z H d v) : Reps G Z H [d] [v] := .cons r .nil
theorem Reps.none_of {ds : List D} {vs : List V} {i : Nat} (r : Reps G Z H ds vs) (e : ds[i]? = none) : vs[i]? = none := by
  rw [List.getElem?_eq_none_iff] at *
  have := r.length; omega
end

/-! ### the store -/
/-- the dict of an exception, if it has one -/
def XdAt (Z : Zone) (H : Hp) (dd : Option Addr) (vfs : List (Str × V)) : Prop := match dd with
  | some d => H d = some (.xd vfs) ∧ ¬ Z d
  | none => vfs = []
theorem XdAt.mono {Z Z' : Zone} {H H' : Hp} (k : Keeps Z Z' H H') {dd : Option Addr} {vfs : List (Str × V)} (h : XdAt Z H dd vfs) : XdAt Z' H' dd vfs := by
  cases dd with
  | none => exact h
  | some d =>
    obtain ⟨h1, h2⟩ := h
    obtain ⟨⟨o', e1, e2⟩, z⟩ := k d _ h1 h2
    refine ⟨?_, z⟩
    have e3 : core o' = .xd vfs := e2
    unfold core at e3
    split at e3 <;> first | (cases e3; done) | exact (by rw [e1, e3])
theorem XdAt.zone {Z Z' : Zone} {H : Hp} (h : ∀ a, Z' a → Z a) {dd : Option Addr} {vfs : List (Str × V)} (x : XdAt Z H dd vfs) : XdAt Z' H dd vfs := x.mono fun a o e z => ⟨.of e, fun q => z (h a q)⟩
def Live (L : List Addr) (st : Sto) (a : Addr) : Prop := ∃ (n : Nat) (o : O), L[n]? = some a ∧ st[n]? = some o ∧ o.live = true
def Zof (Z : Zone) (L : List Addr) (st : Sto) : Zone := fun a => Z a ∨ Live L st a
inductive SRep (G : Wd) (Z : Zone) (H : Hp) (L : List Addr) : S → V → Prop
  | p {d : D} {v : V} : Rep G Z H d v → SRep G Z H L (.p d) v
  | r {n : Nat} {a : Addr} : L[n]? = some a → SRep G Z H L (.r n) (.ref a)
  | x {a C : Addr} {dd : Option Addr} {c : Str} {fs : List (Str × D)} {vfs : List (Str × V)} : G.exc = some (a, C, dd) → G.cls c = some C → XdAt Z H dd vfs → RepF G Z H fs vfs → SRep G Z H L (.x c fs) (.ref a)
inductive SRepF (G : Wd) (Z : Zone) (H : Hp) (L : List Addr) : List (Str × S) → List (Str × V) → Prop
  | nil : SRepF G Z H L [] []
  | cons {x : Str} {d : S} {v : V} {ds : List (Str × S)} {vs : List (Str × V)} : SRep G Z H L d v → SRepF G Z H L ds vs → SRepF G Z H L ((x, d) :: ds) ((x, v) :: vs)
def OOk (G : Wd) (Z : Zone) (H : Hp) (L : List Addr) (a : Addr) : O → Prop
  | .lst ds => ∃ vs, H a = some (.lst vs) ∧ Reps G Z H ds vs
  | .dic ds => ∃ kvs, H a = some (.dK kvs) ∧ RepK G Z H ds kvs
  | .diT ds => ∃ kvs, H a = some (.dT kvs) ∧ RepT G Z H ds kvs
  | .ins c fs => ∃ C dx vfs, G.cls c = some C ∧ H a = some (.ins C dx vfs) ∧ SRepF G Z H L fs vfs
  | .frz d => Rep G Z H d (.ref a)
  | .dead => True
/-- the tables of code objects, out of the zone -/
def TabZ (T : List (Addr × Str)) (Z : Zone) (H : Hp) : Prop := ∀ p ∈ T, ¬ Z p.1 ∧ ∃ ps : Array Value, H p.1 = some (.tbl ps) ∧ TriplesOk ps.toList ∧
  ∀ (pos : Pos) (cv : Value), codeAmong pos ps.toList = some cv → ∃ c, cv = .ref c ∧ H c = some (LamX.CodeO c p.2) ∧ ¬ Z c
theorem TabZ.mono {T : List (Addr × Str)} {Z Z' : Zone} {H H' : Hp} (k : ∀ a o, H a = some o → ¬ Z a → H' a = some o ∧ ¬ Z' a) (t : TabZ T Z H) : TabZ T Z' H' := fun p hp => by
  obtain ⟨h0, ps, h1, h2, h3⟩ := t p hp
  obtain ⟨e1, e2⟩ := k _ _ h1 h0
  refine ⟨e2, ps, e1, h2, fun pos cv hc => ?_⟩
  obtain ⟨c, g1, g2, g3⟩ := h3 pos cv hc
  obtain ⟨e3, e4⟩ := k _ _ g2 g3
  exact ⟨c, g1, e3, e4⟩
theorem TabZ.zone {T : List (Addr × Str)} {Z Z' : Zone} {H : Hp} (h : ∀ a, Z' a → Z a) (t : TabZ T Z H) : TabZ T Z' H := t.mono fun a o e z => ⟨e, fun q => z (h a q)⟩
structure StOk (G : Wd) (Z : Zone) (L : List Addr) (st : Sto) (H : Hp) : Prop where
  len : L.length = st.length
  nd : L.Nodup
  obj : ∀ (n : Nat) (a : Addr) (o : O), L[n]? = some a → st[n]? = some o → OOk G (Zof Z L st) H L a o
  z0 : ∀ a, Z a → H a ≠ none
  zl : ∀ a ∈ L, ¬ Z a
  lh : ∀ a ∈ L, H a ≠ none
  tb : TabZ G.T (Zof Z L st) H
/-- from one state to a later one -/
structure Fw (Z : Zone) (L : List Addr) (st : Sto) (H : Hp) (L' : List Addr) (st' : Sto) (H' : Hp) : Prop where
  pre : ∃ M, L' = L ++ M ∧ ∀ a ∈ M, H a = none
  keep : ∀ a o, H a = some o → ¬ Live L st a → KeepAt H' a o
  there : ∀ a, H a ≠ none → H' a ≠ none
  zk : ∀ a o, Z a → H a = some o → H' a = some o
  live : ∀ (n : Nat) (o' : O), n < L.length → st'[n]? = some o' → o'.live = true → ∃ o, st[n]? = some o ∧ o.live = true
def EnvOk (G : Wd) (Z : Zone) (H : Hp) (L : List Addr) (ρ : Env) (σ : St) : Prop :=
  ρ.length = σ.length ∧ ∀ (i : Nat) (s : S), ρ[i]? = some (some s) → ∃ v, σ[i]? = some (some v) ∧ SRep G Z H L s v
section
variable {G : Wd} {Z : Zone} {L L' L2 : List Addr} {st st' st2 : Sto} {H H' H2 : Hp}
theorem Fw.refl : Fw Z L st H L st H := ⟨⟨[], by simp, by simp⟩, fun _ _ e _ => .of e, fun _ h => h, fun _ _ _ e => e, fun n o' _ e l => ⟨o', e, l⟩⟩
theorem Fw.live_of (f : Fw Z L st H L' st' H') {a : Addr} (h : Live L' st' a) : Live L st a ∨ H a = none := by
  obtain ⟨n, o', e1, e2, l⟩ := h
  obtain ⟨M, rfl, hM⟩ := f.pre
  by_cases hn : n < L.length
  · obtain ⟨o, e3, l3⟩ := f.live n o' hn e2 l
    rw [List.getElem?_append_left hn] at e1
    exact .inl ⟨n, o, e1, e3, l3⟩
  · rw [List.getElem?_append_right (by omega)] at e1
    exact .inr (hM a (List.mem_of_getElem? e1))
theorem Fw.keeps (f : Fw Z L st H L' st' H') : Keeps (Zof Z L st) (Zof Z L' st') H H' := fun a o e z => by
  have nl : ¬ Live L st a := fun q => z (.inr q)
  refine ⟨f.keep a o e nl, fun q => ?_⟩
  rcases q with q | q
  · exact z (.inl q)
  · rcases f.live_of q with q | q
    · exact nl q
    · rw [e] at q; cases q
theorem Fw.trans (f : Fw Z L st H L' st' H') (g : Fw Z L' st' H' L2 st2 H2) : Fw Z L st H L2 st2 H2 := by
  refine ⟨?_, fun a o e nl => ?_, fun a h => g.there a (f.there a h), fun a o z e => g.zk a o z (f.zk a o z e), fun n o2 hn e l => ?_⟩
  · obtain ⟨M, rfl, hM⟩ := f.pre
    obtain ⟨M2, rfl, hM2⟩ := g.pre
    refine ⟨M ++ M2, by simp, fun a ha => ?_⟩
    rcases List.mem_append.mp ha with ha | ha
    · exact hM a ha
    · cases q : H a with
      | none => rfl
      | some o => exact absurd (hM2 a ha) (f.there a (by rw [q]; simp))
  · obtain ⟨o1, e1, c1⟩ := f.keep a o e nl
    have nl1 : ¬ Live L' st' a := fun q => by
      rcases f.live_of q with q | q
      · exact nl q
      · rw [e] at q; cases q
    obtain ⟨o2, e2, c2⟩ := g.keep a o1 e1 nl1
    exact ⟨o2, e2, c2.trans c1⟩
  · obtain ⟨M, rfl, hM⟩ := f.pre
    obtain ⟨o1, e1, l1⟩ := g.live n o2 (by simp; omega) e l
    exact f.live n o1 hn e1 l1
theorem Fw.get (f : Fw Z L st H L' st' H') {n : Nat} {a : Addr} (e : L[n]? = some a) : L'[n]? = some a := by
  obtain ⟨M, rfl, _⟩ := f.pre
  rw [List.getElem?_append_left (List.getElem?_eq_some_iff.mp e).1]
  exact e
theorem SRep.mono (f : Fw Z L st H L' st' H') {s : S} {v : V} (h : SRep G (Zof Z L st) H L s v) : SRep G (Zof Z L' st') H' L' s v := by
  cases h with
  | p r => exact .p (r.mono f.keeps)
  | r e => exact .r (f.get e)
  | x e1 e2 e3 e4 => exact .x e1 e2 (e3.mono f.keeps) (e4.mono f.keeps)
theorem EnvOk.mono (f : Fw Z L st H L' st' H') {ρ : Env} {σ : St} (h : EnvOk G (Zof Z L st) H L ρ σ) : EnvOk G (Zof Z L' st') H' L' ρ σ :=
  ⟨h.1, fun i s e => let ⟨v, e2, r⟩ := h.2 i s e; ⟨v, e2, r.mono f⟩⟩
/-- only new objects -/
theorem Fw.same (e : Same H H') : Fw Z L st H L st H' := ⟨⟨[], by simp, by simp⟩, fun a o h _ => .of (e a o h), fun a h q => h (by
  cases r : H a with
  | none => rfl
  | some o => rw [e a o r] at q; cases q), fun a o _ h => e a o h, fun n o' _ e l => ⟨o', e, l⟩⟩
theorem SRepF.mono (f : Fw Z L st H L' st' H') : ∀ {ds : List (Str × S)} {vs : List (Str × V)}, SRepF G (Zof Z L st) H L ds vs → SRepF G (Zof Z L' st') H' L' ds vs
  | _, _, .nil => .nil
  | _, _, .cons h t => .cons (h.mono f) (SRepF.mono f t)
theorem OOk.same (e : Same H H') {a : Addr} : ∀ {o : O}, OOk G (Zof Z L st) H L a o → OOk G (Zof Z L st) H' L a o
  | .lst ds, ⟨vs, h, r⟩ => ⟨vs, e _ _ h, r.mono (Fw.same e).keeps⟩
  | .dic ds, ⟨vs, h, r⟩ => ⟨vs, e _ _ h, r.mono (Fw.same e).keeps⟩
  | .diT ds, ⟨vs, h, r⟩ => ⟨vs, e _ _ h, r.mono (Fw.same e).keeps⟩
  | .ins c fs, ⟨C, dx, vfs, hc, h, r⟩ => ⟨C, dx, vfs, hc, e _ _ h, r.mono (Fw.same e)⟩
  | .frz d, h => Rep.mono (Fw.same e).keeps h
  | .dead, _ => trivial
theorem some_of_same (e : Same H H') {a : Addr} (h : H a ≠ none) : H' a ≠ none := (Fw.same (Z := fun _ => False) (L := []) (st := []) e).there a h
theorem StOk.same (e : Same H H') (h : StOk G Z L st H) : StOk G Z L st H' :=
  ⟨h.len, h.nd, fun n a o e1 e2 => (h.obj n a o e1 e2).same e, fun a z => some_of_same e (h.z0 a z), h.zl, fun a m => some_of_same e (h.lh a m), h.tb.mono fun a o q z => ⟨e a o q, z⟩⟩
theorem same_new {H : Hp} {p : Addr} {o : HO} (h : H p = none) : Same H (upd H p o) := fun b x e => by
  rw [upd_ne (ne_of_none e h)]
  exact e
end

/-! ### the judgements -/
structure Stt (G : Wd) (Z : Zone) (ρ : Env) (st : Sto) (L : List Addr) (σ : St) (H : Hp) : Prop where
  ok : StOk G Z L st H
  env : EnvOk G (Zof Z L st) H L ρ σ
section
variable {G : Wd} {Z : Zone} {ρ : Env} {st st' : Sto} {L L' : List Addr} {σ : St} {H H' : Hp}
theorem Stt.to (S : Stt G Z ρ st L σ H) (f : Fw Z L st H L' st' H') (o : StOk G Z L' st' H') : Stt G Z ρ st' L' σ H' := ⟨o, S.env.mono f⟩
end
/-- an exception that leaves -/
def ExP (G : Wd) (Z : Zone) (L : List Addr) (st : Sto) (H : Hp) (c : Str) (fs : List (Str × D)) (st' : Sto) (P : Value → Option Addr → Hp → Prop) : Prop :=
  ∀ H' L' C dd vfs, Fw Z L st H L' st' H' → StOk G Z L' st' H' → G.cls c = some C → XdAt (Zof Z L' st') H' dd vfs → RepF G (Zof Z L' st') H' fs vfs → P (.ref C) dd H'
def PostR {α β : Type} (G : Wd) (Z : Zone) (W : WX) (R : Zone → Hp → α → β → Prop) (σ : St) (L : List Addr) (st : Sto) (H : Hp) (r : Res α) (Q : β → Hp → Prop) : Prop := match r with
  | .ok d st' => ∀ v H' L', Fw Z L st H L' st' H' → StOk G Z L' st' H' → R (Zof Z L' st') H' d v → Q v H'
  | .exc c fs st' => ExP G Z L st H c fs st' fun cv dd H' => W cv dd σ H'
  | .stuck => False
abbrev RB : Zone → Hp → Bool → Bool → Prop := fun _ _ a b => a = b
def tM (G : Wd) (W : WX) (f : Den) : TE := fun σ H Q => ∃ Z ρ st L, Stt G Z ρ st L σ H ∧ PostR G Z W (fun Z H => Rep G Z H) σ L st H (f ρ st) Q
def tMB (G : Wd) (W : WX) (f : DenB) : TT := fun σ H Q => ∃ Z ρ st L, Stt G Z ρ st L σ H ∧ PostR G Z W RB σ L st H (f ρ st) Q
def tMA (G : Wd) (W : WX) (f : DenL) : TA := fun σ H Q => ∃ Z ρ st L, Stt G Z ρ st L σ H ∧ PostR G Z W (fun Z H => Reps G Z H) σ L st H (f ρ st) Q
/-- an expression that hands back a new list | dict | .. of its own (C: how its content lies) -/
structure FwN (G : Wd) (Z : Zone) (L : List Addr) (st : Sto) (H : Hp) (L' : List Addr) (st' : Sto) (H' : Hp) (p : Addr) : Prop where
  fr : Fw Z L st H L' st' H'
  ok : StOk G (fun a => Z a ∨ a = p) L' st' H'
  new : H p = none
def tMN (G : Wd) (W : WX) (f : Env → Sto → Res O) : TE := fun σ H Q => ∃ Z ρ st L, Stt G Z ρ st L σ H ∧ (match f ρ st with
  | .ok o st' => ∀ p H' L', FwN G Z L st H L' st' H' p → OOk G (Zof (fun a => Z a ∨ a = p) L' st') H' L' p o → Q (.ref p) H'
  | .exc c fs st' => ExP G Z L st H c fs st' fun cv dd H' => W cv dd σ H'
  | .stuck => False)
def PostS (G : Wd) (Z : Zone) (W : WX) (L : List Addr) (st : Sto) (H : Hp) (r : SRes) (E : Ends) : Prop := match r with
  | .next ρ' st' => ∀ σ' H' L', Fw Z L st H L' st' H' → Stt G Z ρ' st' L' σ' H' → E.nx σ' H'
  | .ret d st' => ∀ v H' L', Fw Z L st H L' st' H' → StOk G Z L' st' H' → Rep G (Zof Z L' st') H' d v → E.rt v H'
  | .brk ρ' st' => ∀ σ' H' L', Fw Z L st H L' st' H' → Stt G Z ρ' st' L' σ' H' → E.bk σ' H'
  | .cont ρ' st' => ∀ σ' H' L', Fw Z L st H L' st' H' → Stt G Z ρ' st' L' σ' H' → E.ct σ' H'
  | .exc c fs ρ' st' => ∀ σ' H' L' C dd vfs, Fw Z L st H L' st' H' → Stt G Z ρ' st' L' σ' H' → G.cls c = some C → XdAt (Zof Z L' st') H' dd vfs → RepF G (Zof Z L' st') H' fs vfs → W (.ref C) dd σ' H'
  | .stuck => False
def tMS (G : Wd) (W : WX) (f : SDen) : TS := fun E σ H => ∃ Z ρ st L, Stt G Z ρ st L σ H ∧ PostS G Z W L st H (f ρ st) E
abbrev ME (G : Wd) (W : WX) (X : Cx) (e : Expr) (f : Den) : Prop := PE X e (tM G W f)
abbrev MT (G : Wd) (W : WX) (X : Cx) (e : Expr) (f : DenB) : Prop := PT X e (tMB G W f)
abbrev MW (G : Wd) (W : WX) (X : Cx) (e : Expr) (f : DenB) : Prop := PW X e (tMB G W f)
abbrev MA (G : Wd) (W : WX) (X : Cx) (es : List Expr) (f : DenL) : Prop := PA X es (tMA G W f)
abbrev MN (G : Wd) (W : WX) (X : Cx) (e : Expr) (f : Env → Sto → Res O) : Prop := PE X e (tMN G W f)
abbrev MS (G : Wd) (W : WX) (X : Cx) (s : Stmt) (f : SDen) : Prop := PS X s (tMS G W f)
abbrev MSs (G : Wd) (W : WX) (X : Cx) (s : List Stmt) (f : SDen) : Prop := PSs X s (tMS G W f)
section
variable {X : Cx} {e : Expr} {es : List Expr}
theorem PE.imp {t t' : TE} (h : PE X e t) (i : ∀ σ H Q, t' σ H Q → t σ H Q) : PE X e t' := ⟨fun pins s σ H Q I q => h.run pins s σ H Q I (i σ H Q q)⟩
theorem PT.imp {t t' : TT} (h : PT X e t) (i : ∀ σ H Q, t' σ H Q → t σ H Q) : PT X e t' := ⟨fun pins s σ H Q I q => h.run pins s σ H Q I (i σ H Q q)⟩
theorem PW.imp {t t' : TT} (h : PW X e t) (i : ∀ σ H Q, t' σ H Q → t σ H Q) : PW X e t' := ⟨fun wh pins s σ H Q I q => h.run wh pins s σ H Q I (i σ H Q q)⟩
theorem PA.imp {t t' : TA} (h : PA X es t) (i : ∀ σ H Q, t' σ H Q → t σ H Q) : PA X es t' := ⟨fun pos pins s σ H Q I q => h.run pos pins s σ H Q I (i σ H Q q)⟩
theorem PS.imp {s : Stmt} {t t' : TS} (h : PS X s t) (i : ∀ D σ H, t' D σ H → t D σ H) : PS X s t' := ⟨fun pins sh σ H D I q => h.run pins sh σ H D I (i D σ H q)⟩
theorem PSs.imp {s : List Stmt} {t t' : TS} (h : PSs X s t) (i : ∀ D σ H, t' D σ H → t D σ H) : PSs X s t' := ⟨fun pins sh σ H D I q => h.run pins sh σ H D I (i D σ H q)⟩
end
/-- an exception further on -/
theorem ExP.on {G : Wd} {Z : Zone} {L L' : List Addr} {st st' st2 : Sto} {H H' : Hp} {c : Str} {fs : List (Str × D)} {P : Value → Option Addr → Hp → Prop} (f : Fw Z L st H L' st' H') (h : ExP G Z L st H c fs st2 P) : ExP G Z L' st' H' c fs st2 P :=
  fun H2 L2 C dd vfs g => h H2 L2 C dd vfs (f.trans g)
/-- the step of a sequence: from the first part's end to the whole -/
theorem PostR.bind {α β α' β' : Type} {G : Wd} {Z : Zone} {W : WX} {R : Zone → Hp → α → β → Prop} {R' : Zone → Hp → α' → β' → Prop} {σ : St} {L : List Addr} {st : Sto} {H : Hp} {r : Res α} {k : α → Sto → Res α'} {Q' : β' → Hp → Prop} {Q : β → Hp → Prop}
    (h : PostR G Z W R' σ L st H (r.bind k) Q')
    (hk : ∀ d st1 v H1 L1, r = .ok d st1 → Fw Z L st H L1 st1 H1 → StOk G Z L1 st1 H1 → R (Zof Z L1 st1) H1 d v → PostR G Z W R' σ L1 st1 H1 (k d st1) Q' → Q v H1) : PostR G Z W R σ L st H r Q := by
  cases r with
  | ok d st1 =>
    intro v H1 L1 f o rv
    refine hk d st1 v H1 L1 rfl f o rv ?_
    have h' : PostR G Z W R' σ L st H (k d st1) Q' := h
    revert h'
    cases k d st1 with
    | ok d2 st2 => exact fun h' v2 H2 L2 f2 o2 r2 => h' v2 H2 L2 (f.trans f2) o2 r2
    | exc c fs st2 => exact fun h' => ExP.on (P := fun cv dd H' => W cv dd σ H') f h'
    | stuck => exact fun h' => h'
  | exc c fs st1 => exact h
  | stuck => exact h
end M
namespace M
open PySem PySem.Spec L2

/-! ### views: what may be read, though its container be live -/
inductive View (G : Wd) (Z : Zone) (H : Hp) : D → V → Prop
  | rep {d : D} {v : V} : Rep G Z H d v → View G Z H d v
  | lst {a : Addr} {vs : List V} {ds : List D} : Rd H a (.lst vs) → Reps G Z H ds vs → View G Z H (.lst ds) (.ref a)
  | dK {a : Addr} {kvs : List (Key × V)} {ds : List (D × D)} : Rd H a (.dK kvs) → RepK G Z H ds kvs → View G Z H (.dic ds) (.ref a)
  | dT {a : Addr} {kvs : List (List Key × V)} {ds : List (D × D)} : Rd H a (.dT kvs) → RepT G Z H ds kvs → View G Z H (.diT ds) (.ref a)
def tMV (G : Wd) (W : WX) (f : Den) : TE := fun σ H Q => ∃ Z ρ st L, Stt G Z ρ st L σ H ∧ PostR G Z W (fun Z H => View G Z H) σ L st H (f ρ st) Q
abbrev MV (G : Wd) (W : WX) (X : Cx) (e : Expr) (f : Den) : Prop := PE X e (tMV G W f)
section
variable {G : Wd} {W : WX} {X : Cx} {Z Z' : Zone} {H H' : Hp}
theorem View.tup {ds : List D} {v : V} (h : View G Z H (.tup ds) v) : ∃ a vs, v = .ref a ∧ SqT G.K H a vs ∧ Reps G Z H ds vs := by
  cases h with
  | rep h => cases h with
    | tup r z h => exact ⟨_, _, rfl, .inl r, h⟩
    | tupK r h => exact ⟨_, _, rfl, .inr r, h⟩
theorem View.list {ds : List D} {v : V} (h : View G Z H (.lst ds) v) : ∃ a vs, v = .ref a ∧ Rd H a (.lst vs) ∧ Reps G Z H ds vs := by
  cases h with
  | rep h => cases h with
    | lst r z h => exact ⟨_, _, rfl, r, h⟩
  | lst r h => exact ⟨_, _, rfl, r, h⟩
theorem Rep.tup' {ds : List D} {v : V} (h : Rep G Z H (.tup ds) v) : ∃ a vs, v = .ref a ∧ SqT G.K H a vs ∧ Reps G Z H ds vs := View.tup (.rep h)
theorem Rep.list' {ds : List D} {v : V} (h : Rep G Z H (.lst ds) v) : ∃ a vs, v = .ref a ∧ Rd H a (.lst vs) ∧ Reps G Z H ds vs := View.list (.rep h)
theorem Rep.int' {i : Int} {v : V} (h : Rep G Z H (.int i) v) : v = .int i := by cases h; rfl
theorem Rep.bl' {i : Bool} {v : V} (h : Rep G Z H (.bl i) v) : v = .bl i := by cases h; rfl
theorem Rep.str' {i : Str} {v : V} (h : Rep G Z H (.str i) v) : v = .str i := by cases h; rfl
theorem Rep.non' {v : V} (h : Rep G Z H .non v) : v = .non := by cases h; rfl
theorem View.int' {i : Int} {v : V} (h : View G Z H (.int i) v) : v = .int i := by cases h with | rep h => exact h.int'
theorem View.bl' {i : Bool} {v : V} (h : View G Z H (.bl i) v) : v = .bl i := by cases h with | rep h => exact h.bl'
theorem View.str' {i : Str} {v : V} (h : View G Z H (.str i) v) : v = .str i := by cases h with | rep h => exact h.str'
theorem View.mono (k : Keeps Z Z' H H') (kl : ∀ a u, Rd H a u → Rd H' a u) {d : D} {v : V} (h : View G Z H d v) : View G Z' H' d v := by
  cases h with
  | rep h => exact .rep (h.mono k)
  | lst r h => exact .lst (kl _ _ r) (h.mono k)
  | dK r h => exact .dK (kl _ _ r) (h.mono k)
  | dT r h => exact .dT (kl _ _ r) (h.mono k)
theorem Same.rd (e : Same H H') (a : Addr) (u : HO) (h : Rd H a u) : Rd H' a u := by
  rcases h with h | ⟨o, h⟩
  · exact .inl (e _ _ h)
  · exact .inr ⟨o, e _ _ h⟩
/-- the zone lies within what is tracked -/
def In (Z : Zone) (H : Hp) : Prop := ∀ a, Z a → H a ≠ none
theorem Same.keeps (e : Same H H') : Keeps Z Z H H' := fun a o h z => ⟨.of (e a o h), z⟩
theorem In.same (i : In Z H) (e : Same H H') : In Z H' := fun a z => some_of_same e (i a z)
theorem In.not (i : In Z H) {p : Addr} (h : H p = none) : ¬ Z p := fun z => i p z h
theorem Reps.new {ds : List D} {vs : List V} {p : Addr} {o : HO} (r : Reps G Z H ds vs) (h : H p = none) : Reps G Z (upd H p o) ds vs := r.mono (Same.keeps (same_new h))
theorem new_tup {ds : List D} {vs : List V} {p : Addr} (i : In Z H) (r : Reps G Z H ds vs) (h : H p = none) : Rep G Z (upd H p (.tup vs)) (.tup ds) (.ref p) :=
  .tup (.inl upd_same) (i.not h) (r.new h)
theorem new_lst {ds : List D} {vs : List V} {p : Addr} (i : In Z H) (r : Reps G Z H ds vs) (h : H p = none) : Rep G Z (upd H p (.lst vs)) (.lst ds) (.ref p) :=
  .lst (.inl upd_same) (i.not h) (r.new h)
theorem StOk.inn {L : List Addr} {st : Sto} (S : StOk G Z L st H) : In (Zof Z L st) H := fun a z => by
  rcases z with z | ⟨n, o, e, _, _⟩
  · exact S.z0 a z
  · exact S.lh a (List.mem_of_getElem? e)
end

/-! ### names, constants -/
@[simp] def eC (d : D) : Den := fun _ st => .ok d st
@[simp] def thaw : O → Option D
  | .frz d => some d | .lst ds => some (.lst ds) | .dic kvs => some (.dic kvs) | .diT kvs => some (.diT kvs) | _ => none
@[simp] def eVar (i : Nat) : Den := fun ρ st => match ρ[i]? with
  | some (some (.p d)) => .ok d st
  | some (some (.r n)) => match (st[n]?).bind thaw with
    | some d => .ok d (st.set n (.frz d))
    | none => .stuck
  | _ => .stuck
/-- a name read within an operation that lets nothing of it go -/
@[simp] def eVarB (i : Nat) : Den := fun ρ st => match ρ[i]? with
  | some (some (.p d)) => .ok d st
  | some (some (.r n)) => match (st[n]?).bind thaw with
    | some d => .ok d st
    | none => .stuck
  | _ => .stuck
section
variable {G : Wd} {W : WX} {X : Cx} {Z Z' : Zone} {H H' : Hp} {L : List Addr} {st : Sto}
theorem PostR.pure {α β : Type} {R : Zone → Hp → α → β → Prop} {σ : St} {d : α} {v : β} {Q : β → Hp → Prop} (S : StOk G Z L st H) (h : PostR G Z W R σ L st H (.ok d st) Q) (r : R (Zof Z L st) H d v) : Q v H :=
  h v H L Fw.refl S r
theorem me_c {e : Expr} {d : D} {v : V} (h : PE X e (tC v)) (r : ∀ Z H, Rep G Z H d v) : ME G W X e (eC d) :=
  PE.imp h fun σ H Q q => by
    obtain ⟨Z, ρ, st, L, S, h⟩ := q
    exact PostR.pure (W := W) (R := fun Z H => Rep G Z H) S.ok h (r _ _)
theorem me_int {i : Int} {j pos} : ME G W X (.Constant (.int i) j pos) (eC (.int i)) := me_c pe_int fun _ _ => .int i
theorem me_bl {b : Bool} {j pos} : ME G W X (.Constant (.bool b) j pos) (eC (.bl b)) := me_c pe_bl fun _ _ => .bl b
theorem me_non {j pos} : ME G W X (.Constant .none j pos) (eC .non) := me_c pe_non fun _ _ => .non
theorem me_str {x : Str} {j pos} : ME G W X (.Constant (.str x) j pos) (eC (.str x)) := me_c pe_str fun _ _ => .str x
theorem OOk.thaw {a : Addr} {o : O} {d : D} (zl : ¬ Z a) (h : OOk G (Zof Z L st) H L a o) (e : M.thaw o = some d) : View G (Zof Z L st) H d (.ref a) := by
  cases o with
  | lst ds =>
    obtain ⟨vs, h1, h2⟩ := h
    cases e
    exact .lst (.inl h1) h2
  | dic ds =>
    cases e
    obtain ⟨kvs, h1, h2⟩ := h
    exact .dK (.inl h1) h2
  | diT ds =>
    cases e
    obtain ⟨kvs, h1, h2⟩ := h
    exact .dT (.inl h1) h2
  | frz d =>
    cases e
    exact .rep h
  | ins c fs => cases e
  | dead => cases e
theorem getElem?_set_cases {α : Type} {l : List α} {n m : Nat} {x y : α} (h : (l.set n x)[m]? = some y) : (m = n ∧ y = x ∧ n < l.length) ∨ (m ≠ n ∧ l[m]? = some y) := by
  by_cases e : m = n
  · subst e
    by_cases hl : m < l.length
    · rw [List.getElem?_set_self hl] at h
      exact .inl ⟨rfl, (Option.some.inj h).symm, hl⟩
    · rw [List.getElem?_eq_none (by simpa using hl)] at h
      cases h
  · rw [List.getElem?_set_ne (Ne.symm e)] at h
    exact .inr ⟨e, h⟩
theorem nodup_at {l : List Addr} (nd : l.Nodup) {i j : Nat} {a : Addr} (h : l[i]? = some a) (h' : l[j]? = some a) : i = j := by
  obtain ⟨hi, ei⟩ := List.getElem?_eq_some_iff.mp h
  obtain ⟨hj, ej⟩ := List.getElem?_eq_some_iff.mp h'
  exact (List.getElem_inj (h₀ := hi) (h₁ := hj) nd).mp (by rw [ei, ej])
/-- a store object written at n: the state behind -/
theorem Fw.setN (S : StOk G Z L st H) {n : Nat} {o o' : O} (e : st[n]? = some o) (lv : o'.live = true → o.live = true) : Fw Z L st H L (st.set n o') H :=
  ⟨⟨[], by simp, by simp⟩, fun _ _ h _ => .of h, fun _ h => h, fun _ _ _ h => h, fun m o2 hm e2 l2 => by
    rcases getElem?_set_cases e2 with ⟨rfl, rfl, _⟩ | ⟨_, h⟩
    · exact ⟨o, e, lv l2⟩
    · exact ⟨o2, h, l2⟩⟩
theorem OOk.mono {L' : List Addr} {st' : Sto} (f : Fw Z L st H L' st' H') {a : Addr} (k : H' a = H a) : ∀ {o : O}, OOk G (Zof Z L st) H L a o → OOk G (Zof Z L' st') H' L' a o
  | .lst ds, ⟨vs, h, r⟩ => ⟨vs, k.trans h, r.mono f.keeps⟩
  | .dic ds, ⟨vs, h, r⟩ => ⟨vs, k.trans h, r.mono f.keeps⟩
  | .diT ds, ⟨vs, h, r⟩ => ⟨vs, k.trans h, r.mono f.keeps⟩
  | .ins c fs, ⟨C, dx, vfs, hc, h, r⟩ => ⟨C, dx, vfs, hc, k.trans h, r.mono f⟩
  | .frz d, h => Rep.mono f.keeps h
  | .dead, _ => trivial
theorem StOk.freeze (S : StOk G Z L st H) {n : Nat} {o : O} {d : D} (e : st[n]? = some o) (t : M.thaw o = some d) : StOk G Z L (st.set n (.frz d)) H := by
  have f : Fw Z L st H L (st.set n (.frz d)) H := Fw.setN S e fun z => nomatch z
  refine ⟨by simpa using S.len, S.nd, fun m a o' e1 e2 => ?_, S.z0, S.zl, S.lh, S.tb.mono fun a o q z => ⟨q, (f.keeps a o q z).2⟩⟩
  rcases getElem?_set_cases e2 with ⟨rfl, rfl, hl⟩ | ⟨_, h⟩
  · have ok := S.obj m a o e1 e
    have za : ¬ Zof Z L (st.set m (.frz d)) a := fun z => by
      rcases z with z | ⟨j, u, j1, j2, j3⟩
      · exact S.zl a (List.mem_of_getElem? e1) z
      · have := nodup_at S.nd j1 e1
        subst this
        rw [List.getElem?_set_self hl] at j2
        cases j2
        cases j3
    cases o with
    | lst ds =>
      obtain ⟨vs, h1, h2⟩ := ok
      cases t
      exact .lst (.inl h1) za (h2.mono f.keeps)
    | dic ds =>
      cases t
      obtain ⟨kvs, h1, h2⟩ := ok
      exact .dK (.inl h1) za (h2.mono f.keeps)
    | diT ds =>
      cases t
      obtain ⟨kvs, h1, h2⟩ := ok
      exact .dT (.inl h1) za (h2.mono f.keeps)
    | frz d' =>
      cases t
      exact Rep.mono f.keeps ok
    | ins c fs => cases t
    | dead => cases t
  · exact (S.obj m a o' e1 h).mono f rfl
theorem me_var (i : Nat) {x : Str} {pos : Pos} (h : PE X (.Name x pos) (tVar i)) : ME G W X (.Name x pos) (eVar i) :=
  PE.imp h fun σ H Q q => by
    obtain ⟨Z, ρ, st, L, S, h⟩ := q
    unfold eVar at h
    split at h
    · rename_i d e
      obtain ⟨v, ev, r⟩ := S.env.2 i _ e
      cases r with
      | p r => exact ⟨v, ev, PostR.pure (W := W) (R := fun Z H => Rep G Z H) S.ok h r⟩
    · rename_i n e
      obtain ⟨v, ev, r⟩ := S.env.2 i _ e
      cases r with
      | r r =>
        rename_i a
        split at h
        · rename_i d ed
          obtain ⟨o, eo, et⟩ := Option.bind_eq_some_iff.mp ed
          have f : Fw Z L st H L (st.set n (.frz d)) H := Fw.setN S.ok eo fun z => nomatch z
          have S2 := S.ok.freeze eo et
          refine ⟨_, ev, h _ H L f S2 ?_⟩
          exact S2.obj n a (.frz d) r (List.getElem?_set_self (List.getElem?_eq_some_iff.mp eo).1)
        · exact h.elim
    · exact h.elim
theorem mv_var (i : Nat) {x : Str} {pos : Pos} (h : PE X (.Name x pos) (tVar i)) : MV G W X (.Name x pos) (eVarB i) :=
  PE.imp h fun σ H Q q => by
    obtain ⟨Z, ρ, st, L, S, h⟩ := q
    unfold eVarB at h
    split at h
    · rename_i d e
      obtain ⟨v, ev, r⟩ := S.env.2 i _ e
      cases r with
      | p r => exact ⟨v, ev, PostR.pure (W := W) (R := fun Z H => View G Z H) S.ok h (.rep r)⟩
    · rename_i n e
      obtain ⟨v, ev, r⟩ := S.env.2 i _ e
      cases r with
      | r r =>
        rename_i a
        split at h
        · rename_i d ed
          obtain ⟨o, eo, et⟩ := Option.bind_eq_some_iff.mp ed
          exact ⟨_, ev, PostR.pure (W := W) (R := fun Z H => View G Z H) S.ok h ((S.ok.obj n a o r eo).thaw (S.ok.zl a (List.mem_of_getElem? r)) et)⟩
        · exact h.elim
    · exact h.elim
theorem mv_of {e : Expr} {f : Den} (h : ME G W X e f) : MV G W X e f :=
  PE.imp h fun σ H Q q => by
    obtain ⟨Z, ρ, st, L, S, h⟩ := q
    refine ⟨Z, ρ, st, L, S, ?_⟩
    cases e : f ρ st with
    | ok d st' =>
      rw [e] at h
      exact fun v H' L' f o r => h v H' L' f o (.rep r)
    | exc c fs st' => rw [e] at h; exact h
    | stuck => rw [e] at h; exact h
end

/-! ### operations by values -/
@[simp] def eOp1 (g : D → Option D) (f : Den) : Den := fun ρ st => (f ρ st).bind fun d st => match g d with | some z => .ok z st | none => .stuck
@[simp] def eOp2 (g : D → D → Option D) (f h : Den) : Den := fun ρ st => (f ρ st).bind fun d st => (h ρ st).bind fun e st => match g d e with | some z => .ok z st | none => .stuck
/-- what an operation's reading r asks is had from g -/
def Sim1 (G : Wd) (g : D → Option D) (r : V → Hp → VK → Prop) : Prop := ∀ Z H d x z Q, In Z H → View G Z H d x → g d = some z → (∀ v H', Same H H' → Rep G Z H' z v → Q v H') → r x H Q
def Sim2 (G : Wd) (g : D → D → Option D) (r : R2) : Prop := ∀ Z H d e x y z Q, In Z H → View G Z H d x → View G Z H e y → g d e = some z → (∀ v H', Same H H' → Rep G Z H' z v → Q v H') → r x y H Q
section
variable {G : Wd} {W : WX} {X : Cx}
theorem me_un {op : UnaryOp} {r : V → Hp → VK → Prop} {a : Expr} {f : Den} {pos : Pos} {g : D → Option D} (ho : UnR X (unaryOp op) r) (s : Sim1 G g r) (ha : MV G W X a f) : ME G W X (.UnaryOp op a pos) (eOp1 g f) :=
  PE.imp (pe_un ho ha) fun σ H Q q => by
    obtain ⟨Z, ρ, st, L, S, h⟩ := q
    refine ⟨Z, ρ, st, L, S, PostR.bind h fun d st1 v H1 L1 e f1 o1 r1 h1 => ?_⟩
    split at h1
    · rename_i z ez
      exact s _ _ _ _ z _ o1.inn r1 ez fun v' H' e' r' => h1 v' H' L1 (Fw.same e') (o1.same e') r'
    · exact h1.elim
/-- two parts, then what they give -/
theorem two {f h : Den} {g : D → D → Option D} {r : R2} (s : Sim2 G g r) {σ : St} {H : Hp} {Q : VK} (q : tM G W (eOp2 g f h) σ H Q) : tM G W f σ H fun x H1 => tMV G W h σ H1 fun y H2 => r x y H2 Q := by
  obtain ⟨Z, ρ, st, L, S, q⟩ := q
  refine ⟨Z, ρ, st, L, S, PostR.bind q fun d st1 x H1 L1 e f1 o1 r1 q1 => ?_⟩
  refine ⟨Z, ρ, st1, L1, S.to f1 o1, PostR.bind q1 fun d2 st2 y H2 L2 e2 f2 o2 r2 q2 => ?_⟩
  split at q2
  · rename_i z ez
    exact s _ _ _ _ _ _ z _ o2.inn (.rep (r1.mono f2.keeps)) r2 ez fun v' H' e' r' => q2 v' H' L2 (Fw.same e') (o2.same e') r'
  · exact q2.elim
/-- .. the first a name whose content is looked at last -/
@[simp] def eOp2P (g : D → D → Option D) (i : Nat) (h : Den) : Den := fun ρ st => (eVarB i ρ st).bind fun _ st => (h ρ st).bind fun e st => (eVarB i ρ st).bind fun d st => match g d e with | some z => .ok z st | none => .stuck
theorem varB {Z : Zone} {ρ : Env} {st : Sto} {L : List Addr} {σ : St} {H : Hp} (S : Stt G Z ρ st L σ H) {i : Nat} {d : D} {st' : Sto} (e : eVarB i ρ st = .ok d st') : st' = st ∧ ∃ v, σ[i]? = some (some v) ∧ View G (Zof Z L st) H d v := by
  unfold eVarB at e
  split at e
  · rename_i d' ed
    obtain ⟨v, ev, r⟩ := S.env.2 i _ ed
    cases e
    cases r with
    | p r => exact ⟨rfl, v, ev, .rep r⟩
  · rename_i n ed
    obtain ⟨v, ev, r⟩ := S.env.2 i _ ed
    cases r with
    | r r =>
      rename_i a
      split at e
      · rename_i d' et
        cases e
        obtain ⟨o, eo, et⟩ := Option.bind_eq_some_iff.mp et
        exact ⟨rfl, _, ev, (S.ok.obj n a o r eo).thaw (S.ok.zl a (List.mem_of_getElem? r)) et⟩
      · cases e
  · cases e
theorem varB_exc {ρ : Env} {st : Sto} {i : Nat} {c : Str} {fs : List (Str × D)} {st' : Sto} (e : eVarB i ρ st = .exc c fs st') : False := by
  unfold eVarB at e
  split at e
  · cases e
  · split at e <;> cases e
  · cases e
theorem two_p {h : Den} {i : Nat} {g : D → D → Option D} {r : R2} (s : Sim2 G g r) {σ : St} {H : Hp} {Q : VK} (q : tM G W (eOp2P g i h) σ H Q) : tVar i σ H fun x H1 => tMV G W h σ H1 fun y H2 => r x y H2 Q := by
  obtain ⟨Z, ρ, st, L, S, q⟩ := q
  unfold eOp2P at q
  cases e0 : eVarB i ρ st with
  | stuck => rw [e0] at q; exact q.elim
  | exc c fs st3 => exact (varB_exc e0).elim
  | ok d0 st0 =>
    rw [e0] at q
    obtain ⟨rfl, v, ev, w⟩ := varB S e0
    refine ⟨v, ev, Z, ρ, _, L, S, PostR.bind q fun d2 st2 y H2 L2 e2 f2 o2 r2 q2 => ?_⟩
    cases e1 : eVarB i ρ st2 with
    | stuck => rw [e1] at q2; exact q2.elim
    | exc c fs st3 => exact (varB_exc e1).elim
    | ok d st3 =>
      rw [e1] at q2
      obtain ⟨rfl, v', ev', w⟩ := varB (S.to f2 o2) e1
      rw [ev] at ev'
      cases ev'
      have q2 : PostR G Z W (fun Z H => Rep G Z H) σ L2 _ H2 (match g d d2 with | some z => Res.ok z _ | none => .stuck) Q := q2
      split at q2
      · rename_i z ez
        exact s _ _ _ _ _ _ z _ o2.inn w r2 ez fun v' H' e' r' => q2 v' H' L2 (Fw.same e') (o2.same e') r'
      · exact q2.elim
theorem me_bin {op : Operator} {r : R2} {a b : Expr} {f h : Den} {pos : Pos} {g : D → D → Option D} (ho : OpR X (binaryOp op) r) (s : Sim2 G g r) (ha : ME G W X a f) (hb : MV G W X b h) : ME G W X (.BinOp a op b pos) (eOp2 g f h) :=
  PE.imp (pe_op ho ha hb) fun σ H Q q => two s q
theorem me_cmp {op : CmpOp} {r : R2} {a b : Expr} {f h : Den} {pos : Pos} {g : D → D → Option D} (ho : OpR X (compareOp op) r) (s : Sim2 G g r) (ha : ME G W X a f) (hb : MV G W X b h) (hm : behindInMarks op b = false) : ME G W X (.Compare a [op] [b] pos) (eOp2 g f h) :=
  PE.imp (pe_cmpR ho ha hb hm) fun σ H Q q => two s q
theorem me_cmpP {op : CmpOp} {r : R2} {x : Str} {i : Nat} {b : Expr} {h : Den} {pos p : Pos} {g : D → D → Option D} (ho : OpR X (compareOp op) r) (s : Sim2 G g r) (ha : PE X (.Name x p) (tVar i)) (hb : MV G W X b h) (hm : behindInMarks op b = false) : ME G W X (.Compare (.Name x p) [op] [b] pos) (eOp2P g i h) :=
  PE.imp (pe_cmpR ho ha hb hm) fun σ H Q q => two_p s q
theorem me_ix {r : R2} {a b : Expr} {f h : Den} {pos : Pos} {g : D → D → Option D} (ho : IxR X r) (s : Sim2 G g r) (ha : ME G W X a f) (hb : MV G W X b h) (hs : PlainIx b) : ME G W X (.Subscript a b pos) (eOp2 g f h) :=
  PE.imp (pe_ix ho ha hb hs) fun σ H Q q => two s q
theorem me_ixP {r : R2} {x : Str} {i : Nat} {b : Expr} {h : Den} {pos p : Pos} {g : D → D → Option D} (ho : IxR X r) (s : Sim2 G g r) (ha : PE X (.Name x p) (tVar i)) (hb : MV G W X b h) (hs : PlainIx b) : ME G W X (.Subscript (.Name x p) b pos) (eOp2P g i h) :=
  PE.imp (pe_ix ho ha hb hs) fun σ H Q q => two_p s q
end

/-! ### tests -/
@[simp] def eB (f : Den) : DenB := fun ρ st => (f ρ st).bind fun d st => match d with | .bl b => .ok b st | _ => .stuck
@[simp] def eAnd (f h : DenB) : DenB := fun ρ st => (f ρ st).bind fun b st => if b = true then h ρ st else .ok false st
@[simp] def eOr (f h : DenB) : DenB := fun ρ st => (f ρ st).bind fun b st => if b = true then .ok true st else h ρ st
@[simp] def eNot (f : DenB) : DenB := fun ρ st => (f ρ st).bind fun b st => .ok (!b) st
@[simp] def eBV (f : DenB) : Den := fun ρ st => (f ρ st).bind fun b st => .ok (.bl b) st
@[simp] def eIf {α : Type} (c : DenB) (f h : Env → Sto → Res α) : Env → Sto → Res α := fun ρ st => (c ρ st).bind fun b st => if b = true then f ρ st else h ρ st
section
variable {G : Wd} {W : WX} {X : Cx}
theorem toB {f : Den} {σ : St} {H : Hp} {Q : Bool → Hp → Prop} (q : tMB G W (eB f) σ H Q) : tM G W f σ H fun x H' => ∃ k, x = .bl k ∧ Q k H' := by
  obtain ⟨Z, ρ, st, L, S, q⟩ := q
  refine ⟨Z, ρ, st, L, S, PostR.bind q fun d st1 x H1 L1 e f1 o1 r1 q1 => ?_⟩
  split at q1
  · rename_i b
    exact ⟨b, r1.bl', PostR.pure (W := W) (R := RB) o1 q1 rfl⟩
  · exact q1.elim
theorem mt_val {e : Expr} {f : Den} (h : ME G W X e f) (he : ∀ whole, isTrue e X.env whole = (do let v ← whole; standAt e.pos; holding [v] (truthy v)) := by intro _; rfl) : MT G W X e (eB f) :=
  PT.imp (pt_val h he) fun σ H Q q => by
    obtain ⟨Z, ρ, st, L, S, r⟩ := toB q
    exact ⟨Z, ρ, st, L, S, r⟩
theorem mt_cmp {op : CmpOp} {r : R2} {a b : Expr} {f h : Den} {pos : Pos} {g : D → D → Option D} (ho : OpR X (compareOp op) r) (s : Sim2 G g r) (ha : ME G W X a f) (hb : MV G W X b h) (hm : behindInMarks op b = false) : MT G W X (.Compare a [op] [b] pos) (eB (eOp2 g f h)) :=
  PT.imp (pt_cmpR ho ha hb hm) fun σ H Q q => two s (toB q)
theorem mt_cmpP {op : CmpOp} {r : R2} {x : Str} {i : Nat} {b : Expr} {h : Den} {pos p : Pos} {g : D → D → Option D} (ho : OpR X (compareOp op) r) (s : Sim2 G g r) (ha : PE X (.Name x p) (tVar i)) (hb : MV G W X b h) (hm : behindInMarks op b = false) : MT G W X (.Compare (.Name x p) [op] [b] pos) (eB (eOp2P g i h)) :=
  PT.imp (pt_cmpR ho ha hb hm) fun σ H Q q => two_p s (toB q)
theorem mt_not {a : Expr} {pos : Pos} {f : DenB} (h : MT G W X a f) : MT G W X (.UnaryOp .Not a pos) (eNot f) :=
  PT.imp (pt_not h) fun σ H Q q => by
    obtain ⟨Z, ρ, st, L, S, q⟩ := q
    refine ⟨Z, ρ, st, L, S, PostR.bind q fun d st1 x H1 L1 e f1 o1 r1 q1 => ?_⟩
    subst r1
    exact PostR.pure (W := W) (R := RB) o1 q1 rfl
theorem mw_and1 {a : Expr} {pos : Pos} {f : DenB} (h : MT G W X a f) : MW G W X (.BoolOp .And [a] pos) f := pw_and1 h
theorem mw_or1 {a : Expr} {pos : Pos} {f : DenB} (h : MT G W X a f) : MW G W X (.BoolOp .Or [a] pos) f := pw_or1 h
theorem mw_and {a b : Expr} {rest : List Expr} {pos : Pos} {f h : DenB} (ha : MT G W X a f) (hb : MW G W X (.BoolOp .And (b :: rest) pos) h) : MW G W X (.BoolOp .And (a :: b :: rest) pos) (eAnd f h) :=
  PW.imp (pw_and ha hb) fun σ H Q q => by
    obtain ⟨Z, ρ, st, L, S, q⟩ := q
    refine ⟨Z, ρ, st, L, S, PostR.bind q fun d st1 x H1 L1 e f1 o1 r1 q1 => ?_⟩
    subst r1
    cases d with
    | true => exact ⟨Z, ρ, st1, L1, S.to f1 o1, q1⟩
    | false => exact PostR.pure (W := W) (R := RB) o1 q1 rfl
theorem mw_or {a b : Expr} {rest : List Expr} {pos : Pos} {f h : DenB} (ha : MT G W X a f) (hb : MW G W X (.BoolOp .Or (b :: rest) pos) h) : MW G W X (.BoolOp .Or (a :: b :: rest) pos) (eOr f h) :=
  PW.imp (pw_or ha hb) fun σ H Q q => by
    obtain ⟨Z, ρ, st, L, S, q⟩ := q
    refine ⟨Z, ρ, st, L, S, PostR.bind q fun d st1 x H1 L1 e f1 o1 r1 q1 => ?_⟩
    subst r1
    cases d with
    | true => exact PostR.pure (W := W) (R := RB) o1 q1 rfl
    | false => exact ⟨Z, ρ, st1, L1, S.to f1 o1, q1⟩
theorem mt_w {e : Expr} {f : DenB} (h : MW G W X e f) : MT G W X e f := h.pt
/-- .. as values -/
theorem fromB {f : DenB} {σ : St} {H : Hp} {Q : VK} (q : tM G W (eBV f) σ H Q) : tMB G W f σ H fun b H' => Q (.bl b) H' := by
  obtain ⟨Z, ρ, st, L, S, q⟩ := q
  refine ⟨Z, ρ, st, L, S, PostR.bind q fun d st1 x H1 L1 e f1 o1 r1 q1 => ?_⟩
  subst r1
  exact PostR.pure (W := W) (R := fun Z H => Rep G Z H) o1 q1 (.bl _)
/-- a and b, a or b, not a as values: the parts bools -/
@[simp] def eAndV (f h : Den) : Den := fun ρ st => (f ρ st).bind fun d st => match d with | .bl b => (if b = true then h ρ st else .ok (.bl false) st) | _ => .stuck
@[simp] def eOrV (f h : Den) : Den := fun ρ st => (f ρ st).bind fun d st => match d with | .bl b => (if b = true then .ok (.bl true) st else h ρ st) | _ => .stuck
@[simp] def eNotV (f : Den) : Den := fun ρ st => (f ρ st).bind fun d st => match d with | .bl b => .ok (.bl (!b)) st | _ => .stuck
abbrev RD (G : Wd) : Zone → Hp → D → V → Prop := fun Z H => Rep G Z H
theorem me_one {a : Expr} {op} {pos : Pos} {f : Den} (h : ME G W X a f) : ME G W X (.BoolOp op [a] pos) f := pe_one h
theorem me_and {a b : Expr} {rest : List Expr} {pos : Pos} {f h : Den} (ha : ME G W X a f) (hb : ME G W X (.BoolOp .And (b :: rest) pos) h) : ME G W X (.BoolOp .And (a :: b :: rest) pos) (eAndV f h) :=
  PE.imp (pe_and ha hb) fun σ H Q q => by
    obtain ⟨Z, ρ, st, L, S, q⟩ := q
    refine ⟨Z, ρ, st, L, S, PostR.bind q fun d st1 x H1 L1 e f1 o1 r1 q1 => ?_⟩
    cases d with
    | bl b =>
      refine ⟨b, r1.bl', ?_⟩
      cases b with
      | true => exact ⟨Z, ρ, st1, L1, S.to f1 o1, q1⟩
      | false => exact PostR.pure (W := W) (R := RD G) o1 q1 (.bl _)
    | _ => exact q1.elim
theorem me_or {a b : Expr} {rest : List Expr} {pos : Pos} {f h : Den} (ha : ME G W X a f) (hb : ME G W X (.BoolOp .Or (b :: rest) pos) h) : ME G W X (.BoolOp .Or (a :: b :: rest) pos) (eOrV f h) :=
  PE.imp (pe_or ha hb) fun σ H Q q => by
    obtain ⟨Z, ρ, st, L, S, q⟩ := q
    refine ⟨Z, ρ, st, L, S, PostR.bind q fun d st1 x H1 L1 e f1 o1 r1 q1 => ?_⟩
    cases d with
    | bl b =>
      refine ⟨b, r1.bl', ?_⟩
      cases b with
      | true => exact PostR.pure (W := W) (R := RD G) o1 q1 (.bl _)
      | false => exact ⟨Z, ρ, st1, L1, S.to f1 o1, q1⟩
    | _ => exact q1.elim
theorem me_not {a : Expr} {pos : Pos} {f : Den} (ha : ME G W X a f) : ME G W X (.UnaryOp .Not a pos) (eNotV f) :=
  PE.imp (pe_not ha) fun σ H Q q => by
    obtain ⟨Z, ρ, st, L, S, q⟩ := q
    refine ⟨Z, ρ, st, L, S, PostR.bind q fun d st1 x H1 L1 e f1 o1 r1 q1 => ?_⟩
    cases d with
    | bl b => exact ⟨b, r1.bl', PostR.pure (W := W) (R := RD G) o1 q1 (.bl _)⟩
    | _ => exact q1.elim
theorem me_if {c a b : Expr} {pos : Pos} {fc : DenB} {f h : Den} (hc : MT G W X c fc) (ha : ME G W X a f) (hb : ME G W X b h) : ME G W X (.IfExp c a b pos) (eIf fc f h) :=
  PE.imp (pe_ifExp hc ha hb) fun σ H Q q => by
    obtain ⟨Z, ρ, st, L, S, q⟩ := q
    refine ⟨Z, ρ, st, L, S, PostR.bind q fun d st1 x H1 L1 e f1 o1 r1 q1 => ?_⟩
    subst r1
    cases d with
    | true => exact ⟨Z, ρ, st1, L1, S.to f1 o1, q1⟩
    | false => exact ⟨Z, ρ, st1, L1, S.to f1 o1, q1⟩
/-- a < b < c -/
@[simp] def eChain (g1 g2 : D → D → Option D) (f h k : Den) : Den := fun ρ st => (f ρ st).bind fun d st => (h ρ st).bind fun e st => match g1 d e with
  | some (.bl b) => if b = true then (k ρ st).bind fun c st => (match g2 e c with | some z => .ok z st | none => .stuck) else .ok (.bl false) st
  | _ => .stuck
theorem chain {g1 g2 : D → D → Option D} {f h k : Den} {r r' : R2} (s1 : Sim2 G g1 r) (s2 : Sim2 G g2 r') {σ : St} {H : Hp} {Q : VK} (q : tM G W (eChain g1 g2 f h k) σ H Q) : tChain r r' (tM G W f) (tM G W h) (tM G W k) σ H Q := by
  obtain ⟨Z, ρ, st, L, S, q⟩ := q
  refine ⟨Z, ρ, st, L, S, PostR.bind q fun d st1 x H1 L1 e f1 o1 r1 q1 => ?_⟩
  refine ⟨Z, ρ, st1, L1, S.to f1 o1, PostR.bind q1 fun d2 st2 y H2 L2 e2 f2 o2 r2 q2 => ?_⟩
  split at q2
  · rename_i b eb
    refine s1 _ _ _ _ _ _ _ _ o2.inn (.rep (r1.mono f2.keeps)) (.rep r2) eb fun v H3 e3 r3 => ⟨b, r3.bl', ?_⟩
    have f3 : Fw Z L2 st2 H2 L2 st2 H3 := Fw.same e3
    have o3 := o2.same e3
    cases b with
    | false => exact q2 _ _ L2 f3 o3 (.bl _)
    | true =>
      refine ⟨Z, ρ, st2, L2, (S.to (f1.trans (f2.trans f3)) o3), PostR.bind (Q' := Q) (Z := Z) (W := W) (R' := RD G) (k := fun c st => (match g2 d2 c with | some z => .ok z st | none => .stuck)) ?_ fun d4 st4 w' H4 L4 e4 f4 o4 r4 q4 => ?_⟩
      · have q2' : PostR G Z W (RD G) σ L2 st2 H2 ((k ρ st2).bind fun c st => (match g2 d2 c with | some z => .ok z st | none => .stuck)) Q := q2
        revert q2'
        cases ((k ρ st2).bind fun c st => (match g2 d2 c with | some z => .ok z st | none => .stuck) : Res D) with
        | ok d st5 => exact fun q v' H' L' f' => q v' H' L' (f3.trans f')
        | exc c fs st5 => exact fun q => ExP.on (P := fun cv dd H' => W cv dd σ H') f3 q
        | stuck => exact fun q => q
      · split at q4
        · rename_i z ez
          exact s2 _ _ _ _ _ _ z _ o4.inn (.rep (r2.mono (f3.trans f4).keeps)) (.rep r4) ez fun v' H' e' r' => q4 v' H' L4 (Fw.same e') (o4.same e') r'
        · exact q4.elim
  · exact q2.elim
theorem me_chain {op op' : CmpOp} {r r' : R2} {a b c : Expr} {f h k : Den} {pos : Pos} {g1 g2 : D → D → Option D} (ho : OpR X (compareOp op) r) (ho' : OpR X (compareOp op') r') (s1 : Sim2 G g1 r) (s2 : Sim2 G g2 r') (ha : ME G W X a f) (hb : ME G W X b h) (hc : ME G W X c k)
    (hm : lastMarks [op, op'] [b, c] = false := by with_unfolding_all rfl) : ME G W X (.Compare a [op, op'] [b, c] pos) (eChain g1 g2 f h k) :=
  PE.imp (pe_chain ho ho' ha hb hc hm) fun σ H Q q => chain s1 s2 q
theorem mt_chain {op op' : CmpOp} {r r' : R2} {a b c : Expr} {f h k : Den} {pos : Pos} {g1 g2 : D → D → Option D} (ho : OpR X (compareOp op) r) (ho' : OpR X (compareOp op') r') (s1 : Sim2 G g1 r) (s2 : Sim2 G g2 r') (ha : ME G W X a f) (hb : ME G W X b h) (hc : ME G W X c k)
    (hm : lastMarks [op, op'] [b, c] = false := by with_unfolding_all rfl) : MT G W X (.Compare a [op, op'] [b, c] pos) (eB (eChain g1 g2 f h k)) :=
  PT.imp (pt_chain ho ho' ha hb hc hm) fun σ H Q q => chain s1 s2 (toB q)
end

/-! ### argument lists, displays, calls of built-ins -/
@[simp] def eNil : DenL := fun _ st => .ok [] st
@[simp] def eCons (f : Den) (h : DenL) : DenL := fun ρ st => (f ρ st).bind fun d st => (h ρ st).bind fun ds st => .ok (d :: ds) st
@[simp] noncomputable def eTup (f : DenL) : Den := fun ρ st => (f ρ st).bind fun ds st => if ds.length ≤ sizeLine then .ok (.tup ds) st else .stuck
@[simp] noncomputable def eLst (f : DenL) : Den := fun ρ st => (f ρ st).bind fun ds st => if ds.length ≤ sizeLine then .ok (.lst ds) st else .stuck
@[simp] def eOpN (g : List D → Option D) (f : DenL) : Den := fun ρ st => (f ρ st).bind fun ds st => match g ds with | some z => .ok z st | none => .stuck
def SimN (G : Wd) (g : List D → Option D) (r : List V → Hp → VK → Prop) : Prop := ∀ Z H ds xs z Q, In Z H → Reps G Z H ds xs → g ds = some z → (∀ v H', Same H H' → Rep G Z H' z v → Q v H') → r xs H Q
/-- one argument, its container perhaps live -/
def SimC (G : Wd) (g : D → Option D) (r : List V → Hp → VK → Prop) : Prop := ∀ Z H d x z Q, In Z H → View G Z H d x → g d = some z → (∀ v H', Same H H' → Rep G Z H' z v → Q v H') → r [x] H Q
section
variable {G : Wd} {W : WX} {X : Cx} {e : Expr} {es : List Expr} {pos p : Pos}
abbrev RDs (G : Wd) : Zone → Hp → List D → List V → Prop := fun Z H => Reps G Z H
theorem ma_nil : MA G W X [] eNil := PA.imp pa_nil fun σ H Q q => by
  obtain ⟨Z, ρ, st, L, S, q⟩ := q
  exact PostR.pure (W := W) (R := RDs G) S.ok q .nil
theorem ma_cons {f : Den} {h : DenL} (ha : ME G W X e f) (hr : MA G W X es h) (hs : starEach (e :: es) X.env = (false, eval e X.env) :: starEach es X.env := by rfl) : MA G W X (e :: es) (eCons f h) := PA.imp (pa_cons ha hr hs) fun σ H Q q => by
  obtain ⟨Z, ρ, st, L, S, q⟩ := q
  refine ⟨Z, ρ, st, L, S, PostR.bind q fun d st1 x H1 L1 e f1 o1 r1 q1 => ?_⟩
  refine ⟨Z, ρ, st1, L1, S.to f1 o1, PostR.bind q1 fun d2 st2 y H2 L2 e2 f2 o2 r2 q2 => ?_⟩
  exact PostR.pure (W := W) (R := RDs G) o2 q2 (.cons (r1.mono f2.keeps) r2)
theorem me_tup {f : DenL} {k : Nat} (h : MA G W X es f) : ME G W X (.Tuple es k pos) (eTup f) := PE.imp (pe_tup h) fun σ H Q q => by
  obtain ⟨Z, ρ, st, L, S, q⟩ := q
  refine ⟨Z, ρ, st, L, S, PostR.bind q fun d st1 x H1 L1 e f1 o1 r1 q1 => ?_⟩
  split at q1
  · rename_i hz
    exact ⟨by rw [← r1.length]; exact hz, fun p hp => q1 _ _ L1 (Fw.same (same_new hp)) (o1.same (same_new hp)) (new_tup o1.inn r1 hp)⟩
  · exact q1.elim
theorem me_lst {f : DenL} (h : MA G W X es f) : ME G W X (.List es pos) (eLst f) := PE.imp (pe_lst h) fun σ H Q q => by
  obtain ⟨Z, ρ, st, L, S, q⟩ := q
  refine ⟨Z, ρ, st, L, S, PostR.bind q fun d st1 x H1 L1 e f1 o1 r1 q1 => ?_⟩
  split at q1
  · rename_i hz
    exact ⟨by rw [← r1.length]; exact hz, fun p hp => q1 _ _ L1 (Fw.same (same_new hp)) (o1.same (same_new hp)) (new_lst o1.inn r1 hp)⟩
  · exact q1.elim
theorem argsN {g : List D → Option D} {r : List V → Hp → VK → Prop} {f : DenL} (s : SimN G g r) {σ : St} {H : Hp} {Q : VK} (q : tM G W (eOpN g f) σ H Q) : tMA G W f σ H fun xs H1 => r xs H1 Q := by
  obtain ⟨Z, ρ, st, L, S, q⟩ := q
  refine ⟨Z, ρ, st, L, S, PostR.bind q fun d st1 x H1 L1 e f1 o1 r1 q1 => ?_⟩
  split at q1
  · rename_i z ez
    exact s _ _ _ _ z _ o1.inn r1 ez fun v' H' e' r' => q1 v' H' L1 (Fw.same e') (o1.same e') r'
  · exact q1.elim
theorem argC {g : D → Option D} {r : List V → Hp → VK → Prop} {f : Den} (s : SimC G g r) {σ : St} {H : Hp} {Q : VK} (q : tM G W (eOp1 g f) σ H Q) : tCons (tMV G W f) tNil σ H fun xs H1 => r xs H1 Q := by
  obtain ⟨Z, ρ, st, L, S, q⟩ := q
  refine ⟨Z, ρ, st, L, S, PostR.bind q fun d st1 x H1 L1 e f1 o1 r1 q1 => ?_⟩
  split at q1
  · rename_i z ez
    exact s _ _ _ _ z _ o1.inn r1 ez fun v' H' e' r' => q1 v' H' L1 (Fw.same e') (o1.same e') r'
  · exact q1.elim
end
end M
namespace M
open PySem PySem.Spec L2

/-! ### data as PyData, for == -/
mutual
def D.py : D → PyData
  | .non => .none | .bl b => .bool b | .int i => .int i | .str x => .str x
  | .tup xs => .tuple (D.pys xs) | .lst xs => .list (D.pys xs) | _ => .none
def D.pys : List D → List PyData
  | [] => [] | x :: xs => D.py x :: D.pys xs
end
mutual
/-- nothing but None, dBools, dInts, texts, tuples, lists, nested at most so deep -/
def D.flat : Nat → D → Bool
  | _, .non => true | _, .bl _ => true | _, .int _ => true | _, .str x => PyData.strOk x
  | n + 1, .tup xs => D.flats n xs | n + 1, .lst xs => D.flats n xs
  | _, _ => false
def D.flats : Nat → List D → Bool
  | _, [] => true | n, x :: xs => D.flat n x && D.flats n xs
end
def D.eqv (d e : D) : Bool := PyData.eqv d.py e.py
section
variable {G : Wd} {Z : Zone} {H : Hp}
mutual
theorem Rep.dp {H : Hp} : ∀ {n : Nat} {d : D} {v : V}, Rep G Z H d v → D.flat n d = true → Dp G.K H v d.py
  | _, _, _, .non, _ => by unfold D.py; exact .non
  | _, _, _, .bl b, _ => by unfold D.py; exact .bl b
  | _, _, _, .int i, _ => by unfold D.py; exact .int i
  | _, _, _, .str x, _ => by unfold D.py; exact .str x
  | n + 1, _, _, .tup r z h, f => by unfold D.py; exact .tup (.inl r) (Reps.dp h (by unfold D.flat at f; exact f))
  | n + 1, _, _, .tupK r h, f => by unfold D.py; exact .tup (.inr r) (Reps.dp h (by unfold D.flat at f; exact f))
  | n + 1, _, _, .lst r z h, f => by unfold D.py; exact .lst (.inl r) (Reps.dp h (by unfold D.flat at f; exact f))
  | 0, _, _, .tup r z h, f => by simp [D.flat] at f
  | 0, _, _, .tupK r h, f => by simp [D.flat] at f
  | 0, _, _, .lst r z h, f => by simp [D.flat] at f
  | 0, _, _, .dK r z h, f => by simp [D.flat] at f
  | n + 1, _, _, .dK r z h, f => by simp [D.flat] at f
  | 0, _, _, .dT r z h, f => by simp [D.flat] at f
  | n + 1, _, _, .dT r z h, f => by simp [D.flat] at f
  | 0, _, _, .ins e z c h, f => by simp [D.flat] at f
  | n + 1, _, _, .ins e z c h, f => by simp [D.flat] at f
  | 0, _, _, .fn e, f => by simp [D.flat] at f
  | n + 1, _, _, .fn e, f => by simp [D.flat] at f
  | 0, _, _, .scr _ _, f => by simp [D.flat] at f
  | n + 1, _, _, .scr _ _, f => by simp [D.flat] at f
  | 0, _, _, .scrK _, f => by simp [D.flat] at f
  | n + 1, _, _, .scrK _, f => by simp [D.flat] at f
theorem Reps.dp {H : Hp} : ∀ {n : Nat} {d : List D} {v : List V}, Reps G Z H d v → D.flats n d = true → DpAll G.K H v (D.pys d)
  | _, _, _, .nil, _ => by unfold D.pys; exact .nil
  | n, _, _, .cons h t, f => by
    unfold D.flats at f
    rw [Bool.and_eq_true] at f
    unfold D.pys
    exact .cons (Rep.dp h f.1) (Reps.dp t f.2)
end
mutual
theorem py_lay : ∀ (n : Nat) (d : D), D.flat n d = true → PyData.canLay0 d.py = true
  | _, .non, _ => by unfold D.py; rfl
  | _, .bl b, _ => by unfold D.py; rfl
  | _, .int i, _ => by unfold D.py; rfl
  | _, .str x, f => by unfold D.flat at f; unfold D.py; simp only [PyData.canLay0]; exact f
  | 0, .tup xs, f => by simp [D.flat] at f
  | n + 1, .tup xs, f => by unfold D.py; simp only [PyData.canLay0]; unfold D.flat at f; exact pys_lay n xs f
  | 0, .lst xs, f => by simp [D.flat] at f
  | n + 1, .lst xs, f => by unfold D.py; simp only [PyData.canLay0]; unfold D.flat at f; exact pys_lay n xs f
  | _, .dic _, _ => by simp only [D.py]; rfl
  | _, .diT _, _ => by simp only [D.py]; rfl
  | _, .ins _ _, _ => by simp only [D.py]; rfl
  | _, .fn _, _ => by simp only [D.py]; rfl
  | _, .scr _, _ => by simp only [D.py]; rfl
theorem pys_lay : ∀ (n : Nat) (d : List D), D.flats n d = true → PyData.canLayAll0 (D.pys d) = true
  | _, [], _ => by unfold D.pys; simp [PyData.canLayAll0]
  | n, x :: xs, f => by
    unfold D.flats at f
    rw [Bool.and_eq_true] at f
    unfold D.pys
    simp only [PyData.canLayAll0]
    rw [py_lay n x f.1, pys_lay n xs f.2]
    rfl
end
mutual
theorem py_depth : ∀ (n : Nat) (d : D), D.flat n d = true → d.py.depth ≤ n
  | _, .non, _ => by unfold D.py; simp [PyData.depth]
  | _, .bl b, _ => by unfold D.py; simp [PyData.depth]
  | _, .int i, _ => by unfold D.py; simp [PyData.depth]
  | _, .str x, _ => by unfold D.py; simp [PyData.depth]
  | 0, .tup xs, f => by simp [D.flat] at f
  | n + 1, .tup xs, f => by
    unfold D.flat at f
    have := pys_depth n xs f
    unfold D.py
    simp only [PyData.depth]
    omega
  | 0, .lst xs, f => by simp [D.flat] at f
  | n + 1, .lst xs, f => by
    unfold D.flat at f
    have := pys_depth n xs f
    unfold D.py
    simp only [PyData.depth]
    omega
  | 0, .dic _, f => by simp [D.flat] at f
  | 0, .diT _, f => by simp [D.flat] at f
  | 0, .ins _ _, f => by simp [D.flat] at f
  | 0, .fn _, f => by simp [D.flat] at f
  | 0, .scr _, f => by simp [D.flat] at f
  | n + 1, .scr _, f => by simp [D.flat] at f
  | n + 1, .dic _, f => by simp [D.flat] at f
  | n + 1, .diT _, f => by simp [D.flat] at f
  | n + 1, .ins _ _, f => by simp [D.flat] at f
  | n + 1, .fn _, f => by simp [D.flat] at f
theorem pys_depth : ∀ (n : Nat) (d : List D), D.flats n d = true → PyData.depthAll (D.pys d) ≤ n
  | _, [], _ => by unfold D.pys; simp [PyData.depthAll]
  | n, x :: xs, f => by
    unfold D.flats at f
    rw [Bool.and_eq_true] at f
    have h1 := py_depth n x f.1
    have h2 := pys_depth n xs f.2
    unfold D.pys
    simp only [PyData.depthAll]
    omega
end
theorem py_shaped {d : D} (f : D.flat 60 d = true) : SeqAt.shaped d.py = true := by
  unfold SeqAt.shaped
  rw [py_lay 60 d f, decide_eq_true (Nat.le_trans (py_depth 60 d f) (by decide))]
  rfl
theorem View.dp {d : D} {v : V} {n : Nat} (h : View G Z H d v) (f : D.flat n d = true) : Dp G.K H v d.py := by
  cases h with
  | rep h => exact h.dp f
  | lst r h =>
    cases n with
    | zero => simp [D.flat] at f
    | succ n =>
      unfold D.py
      exact .lst (.inl r) (Reps.dp h (by unfold D.flat at f; exact f))
  | dK r h => cases n <;> simp [D.flat] at f
  | dT r h => cases n <;> simp [D.flat] at f
end

/-! ### operations on data -/
def dEq (d e : D) : Option D := if (D.flat 60 d && D.flat 60 e) = true then some (.bl (D.eqv d e)) else none
def dNe (d e : D) : Option D := if (D.flat 60 d && D.flat 60 e) = true then some (.bl (!D.eqv d e)) else none
noncomputable def dAdd : D → D → Option D
  | .int i, .int j => some (.int (i + j))
  | .str x, .str y => if x.length + y.length ≤ sizeLine then some (.str (x ++ y)) else none
  | .tup xs, .tup ys => if xs.length + ys.length ≤ sizeLine then some (.tup (xs ++ ys)) else none
  | .lst xs, .lst ys => if xs.length + ys.length ≤ sizeLine then some (.lst (xs ++ ys)) else none
  | _, _ => none
def dSub : D → D → Option D
  | .int i, .int j => some (.int (i - j)) | _, _ => none
/-- undecided for the kernel, so that it never counts up to the bound -/
noncomputable def small (i : Int) : Bool := @decide (-18446744073709551616 < i ∧ i < 18446744073709551616) (Classical.propDecidable _)
theorem small_iff {i : Int} : small i = true ↔ -18446744073709551616 < i ∧ i < 18446744073709551616 := by unfold small; exact @decide_eq_true_iff _ (Classical.propDecidable _)
noncomputable def dMul : D → D → Option D
  | .int i, .int j => if (small i || small j) = true then some (.int (i * j)) else none
  | .lst xs, .int k => if k < 4611686018427387904 ∧ -4611686018427387904 < k ∧ xs.length * k.toNat ≤ sizeLine then some (.lst (List.replicate k.toNat xs).flatten) else none
  | .tup xs, .int k => if xs.isEmpty = false ∧ 0 ≤ k ∧ k ≤ 1000 ∧ xs.length ≤ 1000 then some (.tup (List.replicate k.toNat xs).flatten) else none
  | _, _ => none
def dMod : D → D → Option D
  | .int i, .int j => if 0 < j then some (.int (i % j)) else none | _, _ => none
noncomputable def dFdiv : D → D → Option D
  | .int i, .int j => if 0 < j ∧ j < 1073741824 then some (.int (i / j)) else none | _, _ => none
noncomputable def dPow : D → D → Option D
  | .int i, .int j => if 0 ≤ j ∧ j ≤ 1000000 ∧ i.natAbs < 18446744073709551616 then some (.int (i ^ j.toNat)) else none | _, _ => none
def dNeg : D → Option D
  | .int i => some (.int (-i)) | _ => none
def dLt : D → D → Option D
  | .int i, .int j => some (.bl (decide (i < j))) | .str x, .str y => some (.bl (decide (x.cps.toList < y.cps.toList))) | _, _ => none
def dLe : D → D → Option D
  | .int i, .int j => some (.bl (decide (i ≤ j))) | _, _ => none
def dGt : D → D → Option D
  | .int i, .int j => some (.bl (decide (j < i))) | _, _ => none
def dGe : D → D → Option D
  | .int i, .int j => some (.bl (decide (j ≤ i))) | _, _ => none
def D.isNon : D → Bool
  | .non => true | _ => false
def dIs (d e : D) : Option D := match e with
  | .non => some (.bl d.isNon)
  | .bl c => (match d with | .bl b => some (.bl (decide (b = c))) | _ => none)
  | _ => none
def dIsNot (d e : D) : Option D := match e with
  | .non => some (.bl (!d.isNon))
  | .bl c => (match d with | .bl b => some (.bl (!decide (b = c))) | _ => none)
  | _ => none
def pysIn (x : D) (ds : List D) : Bool := ds.any fun z => D.eqv z x
def dIn (x c : D) : Option D := match c with
  | .lst ds => if (D.flat 60 x && D.flats 59 ds) = true then some (.bl (pysIn x ds)) else none
  | .tup ds => if (D.flat 60 x && D.flats 59 ds) = true then some (.bl (pysIn x ds)) else none
  | .str z => (match x with | .str y => some (.bl (!(Builtin.Str.occurrences z y 0 z.length 1).isEmpty)) | _ => none)
  | _ => none
def dNotIn (x c : D) : Option D := match dIn x c with
  | some (.bl b) => some (.bl (!b)) | _ => none
noncomputable def dIx (c i : D) : Option D := match c, i with
  | .lst ds, .int i => atI ds i
  | .tup ds, .int i => atI ds i
  | .scr ns, .int i => (atI ns i).map .int
  | .str z, .int i => if z.length ≤ sizeLine then (atI z.cps.toList i).map fun c => .str ⟨#[c]⟩ else none
  | _, _ => none
noncomputable def dLen : D → Option D
  | .lst ds => some (.int ds.length) | .tup ds => some (.int ds.length) | .str z => if z.length ≤ sizeLine then some (.int z.length) else none | .scr ns => some (.int ns.length) | _ => none
def dTuple : D → Option D
  | .lst ds => some (.tup ds) | .tup ds => some (.tup ds) | _ => none
def dList : D → Option D
  | .lst ds => some (.lst ds) | .tup ds => some (.lst ds) | _ => none
def dInts : List D → Option (List Int)
  | [] => some []
  | .int i :: r => (dInts r).map (i :: ·)
  | _ => none
def dBools : List D → Option (List Bool)
  | [] => some []
  | .bl i :: r => (dBools r).map (i :: ·)
  | _ => none
def dStrs : List D → Option (List Str)
  | [] => some []
  | .str i :: r => (dStrs r).map (i :: ·)
  | _ => none
def dSum : D → Option D
  | .lst ds => (dInts ds).map fun ns => .int ns.sum | .tup ds => (dInts ds).map fun ns => .int ns.sum | _ => none
def dAll : D → Option D
  | .lst ds => (dBools ds).map fun bs => .bl (bs.all id) | _ => none
def dAny : D → Option D
  | .lst ds => (dBools ds).map fun bs => .bl (bs.any id) | _ => none
def maxI (a : Int) (l : List Int) : Int := l.foldl max a
def minI (a : Int) (l : List Int) : Int := l.foldl min a
def dMax : D → Option D
  | .lst ds => (match dInts ds with | some (a :: l) => some (.int (maxI a l)) | _ => none) | _ => none
def dMin : D → Option D
  | .lst ds => (match dInts ds with | some (a :: l) => some (.int (minI a l)) | _ => none) | _ => none
def dMax2 : List D → Option D
  | [.int i, .int j] => some (.int (if j > i then j else i)) | _ => none
def dMin2 : List D → Option D
  | [.int i, .int j] => some (.int (if j < i then j else i)) | _ => none
def insI (x : Int) : List Int → List Int
  | [] => [x] | y :: r => if x ≤ y then x :: y :: r else y :: insI x r
def sortI : List Int → List Int
  | [] => [] | x :: r => insI x (sortI r)
def dSorted : D → Option D
  | .lst ds => (dInts ds).map fun ns => .lst ((sortI ns).map .int) | _ => none
def dAbs : D → Option D
  | .int i => some (.int (if i < 0 then -i else i)) | _ => none
def dInt : D → Option D
  | .int i => some (.int i) | .bl b => some (.int (if b then 1 else 0)) | _ => none
def tyName : D → Option String
  | .non => some "NoneType" | .bl _ => some "bool" | .int _ => some "int" | .str _ => some "str" | .tup _ => some "tuple" | .lst _ => some "list" | .dic _ => some "dict" | _ => none
/-- isinstance(x, T), T one of int, bool, str, tuple, list, dict -/
def dIsi (T : String) (d : D) : Option D := (tyName d).bind fun n => (kitB n T).map .bl

section
variable {G : Wd} {W : WX} {X : Cx}
theorem sim_eq (hK : G.K = X.K) : Sim2 G dEq (rEqD X.K) := fun Z H d e x y z Q i rx ry h q => by
  unfold dEq at h
  split at h
  · rename_i hf
    rw [Bool.and_eq_true] at hf
    cases h
    exact ⟨_, _, hK ▸ rx.dp hf.1, hK ▸ ry.dp hf.2, py_shaped hf.1, py_shaped hf.2, q _ H (Same.refl H) (.bl _)⟩
  · cases h
theorem sim_ne (hK : G.K = X.K) : Sim2 G dNe (rNeD X.K) := fun Z H d e x y z Q i rx ry h q => by
  unfold dNe at h
  split at h
  · rename_i hf
    rw [Bool.and_eq_true] at hf
    cases h
    exact ⟨_, _, hK ▸ rx.dp hf.1, hK ▸ ry.dp hf.2, py_shaped hf.1, py_shaped hf.2, q _ H (Same.refl H) (.bl _)⟩
  · cases h
/-- list + list, any two that are read -/
def rCatR : R2 := fun x y H Q => ∃ l b xs zs, x = .ref l ∧ y = .ref b ∧ Rd H l (.lst xs) ∧ Rd H b (.lst zs) ∧ xs.length + zs.length ≤ sizeLine ∧ ∀ p, H p = none → Q (.ref p) (upd H p (.lst (xs ++ zs)))
theorem op_catR : OpR X (binaryOp .Add) rCatR := by
  intro pins s σ H x y v u Q I rx ry h
  obtain ⟨l, b, xs, zs, rfl, rfl, hH, hB, hz, q⟩ := h
  cases rx
  cases ry
  obtain ⟨z, its, n, r, e⟩ := hH.ok I.hok
  obtain ⟨z2, its2, n2, r2, e2⟩ := hB.ok I.hok
  have hl := r.length
  have hl2 := r2.length
  refine PySem.P.add_list e e2 ?_ (by rw [List.size_toArray, List.size_toArray]; omega)
  have ea : its.toArray ++ its2.toArray = (its ++ its2).toArray := by simp
  rw [ea]
  exact ⟨.ref _, _, I.lnew (t' := s.toks) (r.append r2) (by rw [List.length_append]; omega), rfl, q _ I.fresh⟩
def rRepR : R2 := fun x y H Q => ∃ l k xs, x = .ref l ∧ y = .int k ∧ Rd H l (.lst xs) ∧ -(2 ^ 63) ≤ k ∧ k < 2 ^ 63 ∧ xs.length * k.toNat ≤ sizeLine ∧
  ∀ p, H p = none → Q (.ref p) (upd H p (.lst (List.replicate k.toNat xs).flatten))
theorem op_repR : OpR X (binaryOp .Mult) rRepR := by
  intro pins s σ H x y v u Q I rx ry h
  obtain ⟨l, k, xs, rfl, rfl, hH, h1, h2, hz, q⟩ := h
  cases rx
  obtain ⟨t, rfl⟩ := ry
  obtain ⟨z, its, n, r, e⟩ := hH.ok I.hok
  have hl := r.length
  have hlen : its.toArray.size * k.toNat ≤ sizeLine := by rw [List.size_toArray, ← hl]; exact hz
  have hcap : ¬ its.toArray.size * k.toNat > (2 ^ 63 - 1) / 8 := by
    have : (sizeLine : Nat) ≤ (2 ^ 63 - 1) / 8 := by decide
    omega
  have hfit : ¬ (!Builtin.List.listFitsIndex k) = true := by
    rw [fitsIndex_both h1 h2]
    exact Bool.false_ne_true
  have hlong : ¬ Builtin.List.listTooLong (its.toArray.size * k.toNat) = true := by
    rw [notLongL hlen]
    exact Bool.false_ne_true
  have hnew : List.foldl (fun x1 x2 => x1 ++ x2) #[] (List.replicate (if its.toArray.isEmpty = true then 0 else k.toNat) its.toArray) = (List.replicate k.toNat its).flatten.toArray := by
    have f0 : ∀ m : Nat, List.foldl (fun x1 x2 => x1 ++ x2) #[] (List.replicate m its.toArray) = (List.replicate m its).flatten.toArray := fun m => by
      have := foldl_rep its m []
      rw [List.nil_append] at this
      exact this
    rw [f0]
    cases its with
    | nil => simp
    | cons a r' => rw [if_neg (by simp)]
  refine wpAny_binaryOp_repeat_ref (T := "list") (U := "int") (by decide) ⟨_, e, rfl⟩ (fun s' => typeIs_int s' k t) noFill_list_mul F.fills_int_mul F.slot_int_rmul repeat_list F.slot_int_index.lookup
    (call_meets F.slot_int_rmul (typeIs_int s k t) F.entry_int_rmul (F.args_int_rmul_2 _ _) (int___rmul___int_list k t l its.toArray n)
      ⟨e, rfl, ⟨_, e, rfl⟩, call_meets F.slot_list_mul ⟨_, e, rfl⟩ F.entry_list_mul (F.args_list_mul_2 _ _) (AutoListH.list___mul___list_int_3 l its.toArray n k t hfit hcap hlong) ⟨e, ?_⟩⟩)
  rw [hnew]
  exact ⟨.ref _, _, I.lnew (t' := s.toks) (r.rep k.toNat) (by rw [PyProof.Rows.lm_len_rep_flat, Nat.mul_comm]; exact hz), rfl, q _ I.fresh⟩

theorem Sim2.imp {g : D → D → Option D} {r r' : R2} (s : Sim2 G g r) (h : ∀ x y H Q, r x y H Q → r' x y H Q) : Sim2 G g r' := fun Z H d e x y z Q i rx ry hg q => h _ _ _ _ (s Z H d e x y z Q i rx ry hg q)
theorem op_addM : OpR X (binaryOp .Add) (fun x y H Q => rI0 (fun i j => .int (i + j)) x y H Q ∨ (fun x y H Q => ∃ i j, x = .str i ∧ y = .str j ∧ i.length + j.length ≤ sizeLine ∧ Q (.str (i ++ j)) H) x y H Q ∨ rCatA X.K x y H Q ∨ rCatR x y H Q) := by
  intro pins s σ H x y v u Q I rx ry h
  rcases h with h | h | h | h
  · exact op_add pins s σ H x y v u Q I rx ry h
  · exact op_add_str pins s σ H x y v u Q I rx ry h
  · exact op_catA pins s σ H x y v u Q I rx ry h
  · exact op_catR pins s σ H x y v u Q I rx ry h
theorem View.tupR {Z : Zone} {H : Hp} {ds : List D} {v : V} (h : View G Z H (.tup ds) v) : Rep G Z H (.tup ds) v := by
  cases h with
  | rep h => exact h
theorem sim_add (hK : G.K = X.K) : Sim2 G dAdd (fun x y H Q => rI0 (fun i j => .int (i + j)) x y H Q ∨ (fun x y H Q => ∃ i j, x = .str i ∧ y = .str j ∧ i.length + j.length ≤ sizeLine ∧ Q (.str (i ++ j)) H) x y H Q ∨ rCatA X.K x y H Q ∨ rCatR x y H Q) := fun Z H d e x y z Q i rx ry h q => by
  unfold dAdd at h
  split at h
  · cases h
    exact .inl ⟨_, _, rx.int', ry.int', q _ H (Same.refl H) (.int _)⟩
  · split at h
    · cases h
      exact .inr (.inl ⟨_, _, rx.str', ry.str', by assumption, q _ H (Same.refl H) (.str _)⟩)
    · cases h
  · split at h
    · cases h
      rename_i xs ys hz
      have tx := rx.tupR
      have ty := ry.tupR
      obtain ⟨a, vs, rfl, ha, ra⟩ := rx.tup
      obtain ⟨b, ws, rfl, hb, rb⟩ := ry.tup
      have l1 := ra.length
      have l2 := rb.length
      refine .inr (.inr (.inl ⟨a, b, vs, ws, rfl, rfl, hK ▸ ha, hK ▸ hb, by omega, fun e1 => ?_, fun e1 e2 => ?_, fun e1 e2 p hp => ?_⟩))
      · subst e1
        cases ra
        exact q _ H (Same.refl H) ty
      · subst e2
        cases rb
        rw [List.append_nil] at q
        exact q _ H (Same.refl H) tx
      · exact q _ _ (same_new hp) (new_tup i (ra.append rb) hp)
    · cases h
  · split at h
    · cases h
      obtain ⟨a, vs, rfl, ha, ra⟩ := rx.list
      obtain ⟨b, ws, rfl, hb, rb⟩ := ry.list
      have l1 := ra.length
      have l2 := rb.length
      exact .inr (.inr (.inr ⟨a, b, vs, ws, rfl, rfl, ha, hb, by omega, fun p hp => q _ _ (same_new hp) (new_lst i (ra.append rb) hp)⟩))
    · cases h
  · cases h
theorem sim_sub : Sim2 G dSub (rI0 fun i j => .int (i - j)) := fun Z H d e x y z Q i rx ry h q => by
  unfold dSub at h
  split at h
  · cases h
    exact ⟨_, _, rx.int', ry.int', q _ H (Same.refl H) (.int _)⟩
  · cases h
theorem tuple_mul1 (l : Addr) (items : Array Value) (n : Nat) (dd : Option Addr) (sl : Array (Option Value)) (u : Tok) :
    Meets (Builtin.«tuple.__mul__» ⟨[.ref l, .int 1 u], []⟩) (fun _ R s => s.heap.get? l = some { cls := .type "tuple", dict := dd, data := .seq items n, slots := sl } ∧ R (.ok (.ret (Value.ref l))) s) :=
  .of_wp fun prog w A R s h => by
    obtain ⟨hp, g, d, tk, os⟩ := s
    obtain ⟨hl, h⟩ := h
    have f1 := AutoSeq1.idx_int
    wp_walk using wpAny_loadPart' hl
    exact ⟨_, rfl, h⟩
theorem tuple_mul0 (l : Addr) (items : Array Value) (n : Nat) (dd : Option Addr) (sl : Array (Option Value)) (u : Tok) (hi : items.isEmpty = false) :
    Meets (Builtin.«tuple.__mul__» ⟨[.ref l, .int 0 u], []⟩) (fun _ R s => s.heap.get? l = some { cls := .type "tuple", dict := dd, data := .seq items n, slots := sl } ∧ R (.ok (.ret (Value.ref s.heap.objs.size))) { s with heap := s.heap.push { cls := Value.type "tuple", data := Data.seq #[] }, toks := s.toks }) :=
  .of_wp fun prog w A R s h => by
    obtain ⟨hp, g, d, tk, os⟩ := s
    obtain ⟨hl, h⟩ := h
    have f1 := AutoSeq1.idx_int
    wp_walk using wpAny_loadPart' hl
    exact ⟨_, rfl, h⟩
/-- tuple * 0, tuple * 1 -/
def rRepS (K : PySem.W.Frag) : R2 := fun x y H Q => ∃ l xs, x = .ref l ∧ SqT K H l xs ∧ ((y = .int 1 ∧ Q (.ref l) H) ∨ (y = .int 0 ∧ xs ≠ [] ∧ ∀ p, H p = none → Q (.ref p) (upd H p (.tup []))))
theorem op_repS : OpR X (binaryOp .Mult) (rRepS X.K) := by
  intro pins s σ H x y v u Q I rx ry h
  obtain ⟨l, xs, rfl, hT, h⟩ := h
  cases rx
  obtain ⟨its, r, ⟨⟨cls, dd, data, sl⟩, ho, hc, n, hd⟩, hs⟩ := I.tuple hT
  simp only at hc hd
  subst hc hd
  rcases h with ⟨rfl, q⟩ | ⟨rfl, hne, q⟩
  · obtain ⟨t, rfl⟩ := ry
    exact wpAny_binaryOp_repeat_ref (T := "tuple") (U := "int") (by decide) ⟨_, ho, rfl⟩ (fun s' => typeIs_int s' 1 t) noFill_tuple_mul PySem.F.fills_int_mul PySem.F.slot_int_rmul repeat_tuple PySem.F.slot_int_index.lookup
      (call_meets PySem.F.slot_int_rmul (typeIs_int s 1 t) PySem.F.entry_int_rmul (PySem.F.args_int_rmul_2 _ _) (int_rmul_tuple 1 t l its.toArray n dd sl)
        ⟨ho, rfl, ⟨_, ho, rfl⟩, call_meets PySem.F.slot_tuple_mul ⟨_, ho, rfl⟩ PySem.F.entry_tuple_mul (PySem.F.args_tuple_mul_2 _ _) (tuple_mul1 l its.toArray n dd sl t) ⟨ho, ⟨.ref l, H, I, rfl, q⟩⟩⟩)
  · obtain ⟨t, rfl⟩ := ry
    have hi : its.toArray.isEmpty = false := by
      cases its with
      | nil => exact absurd (List.eq_nil_of_length_eq_zero r.length) hne
      | cons a b => rfl
    exact wpAny_binaryOp_repeat_ref (T := "tuple") (U := "int") (by decide) ⟨_, ho, rfl⟩ (fun s' => typeIs_int s' 0 t) noFill_tuple_mul PySem.F.fills_int_mul PySem.F.slot_int_rmul repeat_tuple PySem.F.slot_int_index.lookup
      (call_meets PySem.F.slot_int_rmul (typeIs_int s 0 t) PySem.F.entry_int_rmul (PySem.F.args_int_rmul_2 _ _) (int_rmul_tuple 0 t l its.toArray n dd sl)
        ⟨ho, rfl, ⟨_, ho, rfl⟩, call_meets PySem.F.slot_tuple_mul ⟨_, ho, rfl⟩ PySem.F.entry_tuple_mul (PySem.F.args_tuple_mul_2 _ _) (tuple_mul0 l its.toArray n dd sl t hi) ⟨ho,
          ⟨.ref s.heap.objs.size, _, I.laid (t' := s.toks) (o := .tup []) (fun b ob q => Heap.get?_push_of_some _ q) (Nat.le_refl _) ⟨Nat.zero_le _, _, .nil, PyProof.Rows.IsTup.new _ _⟩, rfl, q _ (I.hok.fresh (Nat.le_refl _))⟩⟩⟩)
abbrev rMulM (K : PySem.W.Frag) : R2 := fun x y H Q => (rI CMul (fun i j => .int (i * j)) x y H Q ∨ rRepR x y H Q) ∨ (rRepS K x y H Q ∨ rRepT K x y H Q)
theorem op_mulM : OpR X (binaryOp .Mult) (rMulM X.K) := by
  intro pins s σ H x y v u Q I rx ry h
  rcases h with (h | h) | (h | h)
  · exact op_mul pins s σ H x y v u Q I rx ry h
  · exact op_repR pins s σ H x y v u Q I rx ry h
  · exact op_repS pins s σ H x y v u Q I rx ry h
  · exact op_repT pins s σ H x y v u Q I rx ry h
theorem Reps.rep {Z : Zone} {H : Hp} {ds : List D} {vs : List V} (h : Reps G Z H ds vs) : ∀ k : Nat, Reps G Z H (List.replicate k ds).flatten (List.replicate k vs).flatten
  | 0 => by simp; exact .nil
  | k + 1 => by simp only [List.replicate_succ, List.flatten_cons]; exact h.append (Reps.rep h k)
theorem sim_mul (hK : G.K = X.K) : Sim2 G dMul (rMulM X.K) := fun Z H d e x y z Q i rx ry h q => by
  unfold dMul at h
  split at h
  · split at h
    · rename_i hs
      cases h
      refine .inl (.inl ⟨_, _, rx.int', ry.int', ?_, q _ H (Same.refl H) (.int _)⟩)
      simp only [Bool.or_eq_true, small_iff] at hs
      unfold CMul
      omega
    · cases h
  · split at h
    · rename_i hs
      cases h
      obtain ⟨a, vs, rfl, ha, ra⟩ := rx.list
      have l1 := ra.length
      obtain ⟨h1, h2, h3⟩ := hs
      exact .inl (.inr ⟨a, _, vs, rfl, ry.int', ha, by omega, by omega, by rw [← l1]; exact h3, fun p hp => q _ _ (same_new hp) (new_lst i (ra.rep _) hp)⟩)
    · cases h
  · split at h
    · rename_i xs k hs
      cases h
      obtain ⟨h1, h2, h3, h4⟩ := hs
      obtain ⟨a, vs, rfl, ha, ra⟩ := rx.tup
      have l1 := ra.length
      have hy := ry.int'
      have ne : vs ≠ [] := fun z => by
        rw [z] at l1
        cases xs with
        | nil => cases h1
        | cons _ _ => cases l1
      by_cases k1 : k = 1
      · subst k1
        refine .inr (.inl ⟨a, vs, rfl, hK ▸ ha, .inl ⟨hy, ?_⟩⟩)
        cases rx with
        | rep rx => exact q _ H (Same.refl H) (by simpa using rx)
      · by_cases k0 : k = 0
        · subst k0
          exact .inr (.inl ⟨a, vs, rfl, hK ▸ ha, .inr ⟨hy, ne, fun p hp => q _ _ (same_new hp) (by simpa using new_tup i (.nil) hp)⟩⟩)
        · exact .inr (.inr ⟨a, k, vs, rfl, hy, hK ▸ ha, ne, by omega, h3, by rw [← l1]; exact h4, fun p hp => q _ _ (same_new hp) (new_tup i (ra.rep _) hp)⟩)
    · cases h
  · cases h
theorem sim_mod : Sim2 G dMod (rI (fun _ j => 0 < j) fun i j => .int (i % j)) := fun Z H d e x y z Q i rx ry h q => by
  unfold dMod at h
  split at h
  · split at h
    · cases h
      exact ⟨_, _, rx.int', ry.int', by assumption, q _ H (Same.refl H) (.int _)⟩
    · cases h
  · cases h
theorem sim_fdiv : Sim2 G dFdiv (rI CDiv fun i j => .int (i / j)) := fun Z H d e x y z Q i rx ry h q => by
  unfold dFdiv at h
  split at h
  · split at h
    · cases h
      exact ⟨_, _, rx.int', ry.int', by assumption, q _ H (Same.refl H) (.int _)⟩
    · cases h
  · cases h
theorem sim_pow : Sim2 G dPow (rI CPow fun i j => .int (i ^ j.toNat)) := fun Z H d e x y z Q i rx ry h q => by
  unfold dPow at h
  split at h
  · split at h
    · cases h
      exact ⟨_, _, rx.int', ry.int', by assumption, q _ H (Same.refl H) (.int _)⟩
    · cases h
  · cases h
theorem sim_neg : Sim1 G dNeg (rU fun i => .int (-i)) := fun Z H d x z Q i rx h q => by
  unfold dNeg at h
  split at h
  · cases h
    exact ⟨_, rx.int', q _ H (Same.refl H) (.int _)⟩
  · cases h
theorem op_ltM : OpR X (compareOp .Lt) (fun x y H Q => rI0 (fun i j => .bl (decide (i < j))) x y H Q ∨ (∃ i j, x = .str i ∧ y = .str j ∧ Q (.bl (decide (i.cps.toList < j.cps.toList))) H)) := op_lt.or op_lt_str
theorem sim_lt : Sim2 G dLt (fun x y H Q => rI0 (fun i j => .bl (decide (i < j))) x y H Q ∨ (∃ i j, x = .str i ∧ y = .str j ∧ Q (.bl (decide (i.cps.toList < j.cps.toList))) H)) := fun Z H d e x y z Q i rx ry h q => by
  unfold dLt at h
  split at h
  · cases h
    exact .inl ⟨_, _, rx.int', ry.int', q _ H (Same.refl H) (.bl _)⟩
  · cases h
    exact .inr ⟨_, _, rx.str', ry.str', q _ H (Same.refl H) (.bl _)⟩
  · cases h
theorem sim_le : Sim2 G dLe (rI0 fun i j => .bl (decide (i ≤ j))) := fun Z H d e x y z Q i rx ry h q => by
  unfold dLe at h
  split at h
  · cases h
    exact ⟨_, _, rx.int', ry.int', q _ H (Same.refl H) (.bl _)⟩
  · cases h
theorem sim_gt : Sim2 G dGt (rI0 fun i j => .bl (decide (j < i))) := fun Z H d e x y z Q i rx ry h q => by
  unfold dGt at h
  split at h
  · cases h
    exact ⟨_, _, rx.int', ry.int', q _ H (Same.refl H) (.bl _)⟩
  · cases h
theorem sim_ge : Sim2 G dGe (rI0 fun i j => .bl (decide (j ≤ i))) := fun Z H d e x y z Q i rx ry h q => by
  unfold dGe at h
  split at h
  · cases h
    exact ⟨_, _, rx.int', ry.int', q _ H (Same.refl H) (.bl _)⟩
  · cases h
/-! ### is, in -/
theorem Rep.isNon {Z : Zone} {H : Hp} {d : D} {v : V} (h : Rep G Z H d v) : decide (v = .non) = d.isNon := by
  cases h <;> rfl
theorem View.isNon {Z : Zone} {H : Hp} {d : D} {v : V} (h : View G Z H d v) : decide (v = .non) = d.isNon := by
  cases h with
  | rep h => exact h.isNon
  | _ => rfl
theorem op_isM : OpR X (compareOp .Is) (fun x y H Q => (y = .non ∧ Q (.bl (decide (x = .non))) H) ∨ rIsB x y H Q) := op_isN.or op_isBl
theorem op_isNotM : OpR X (compareOp .IsNot) (fun x y H Q => (y = .non ∧ Q (.bl (!decide (x = .non))) H) ∨ rNotB x y H Q) := op_notN.or op_notBl
theorem sim_is : Sim2 G dIs (fun x y H Q => (y = .non ∧ Q (.bl (decide (x = .non))) H) ∨ rIsB x y H Q) := fun Z H d e x y z Q i rx ry h q => by
  unfold dIs at h
  split at h
  · cases h
    refine .inl ⟨?_, ?_⟩
    · cases ry with | rep h => exact h.non'
    · rw [rx.isNon]
      exact q _ H (Same.refl H) (.bl _)
  · split at h
    · cases h
      exact .inr ⟨_, _, rx.bl', ry.bl', q _ H (Same.refl H) (.bl _)⟩
    · cases h
  · cases h
theorem sim_isNot : Sim2 G dIsNot (fun x y H Q => (y = .non ∧ Q (.bl (!decide (x = .non))) H) ∨ rNotB x y H Q) := fun Z H d e x y z Q i rx ry h q => by
  unfold dIsNot at h
  split at h
  · cases h
    refine .inl ⟨?_, ?_⟩
    · cases ry with | rep h => exact h.non'
    · rw [rx.isNon]
      exact q _ H (Same.refl H) (.bl _)
  · split at h
    · cases h
      exact .inr ⟨_, _, rx.bl', ry.bl', q _ H (Same.refl H) (.bl _)⟩
    · cases h
  · cases h
/-- in, not in: a list, a tuple, a text -/
def rInM (K : PySem.W.Frag) (neg : Bool) : R2 := fun x y H Q => (∃ d ds, Dp K H x d ∧ (Dp K H y (.list ds) ∨ Dp K H y (.tuple ds)) ∧ SeqAt.shaped d = true ∧ SeqAt.shaped (.list ds) = true ∧ Q (.bl (if neg = true then !(ds.any fun z => PyData.eqv z d) else ds.any fun z => PyData.eqv z d)) H) ∨
  (∃ i j, x = .str i ∧ y = .str j ∧ Q (.bl (if neg = true then !(!(Builtin.Str.occurrences j i 0 j.length 1).isEmpty) else !(Builtin.Str.occurrences j i 0 j.length 1).isEmpty)) H)
theorem room_in {A : Around} {d : PyData} {ds : List PyData} (sd : SeqAt.shaped d = true) (hu : A.units + 65 < cLine) : A.units + 1 + min (PyData.depthAll ds) d.depth < cLine := PyProof.Rows.room_in_shaped sd hu
theorem op_inM (hu : X.A.units + 65 < cLine) : OpR X (compareOp .In) (rInM X.K false) := by
  intro pins s σ H x y v u Q I rx ry h
  rcases h with ⟨d, ds, hd, he, sd, se, q⟩ | h
  · obtain ⟨as, r1⟩ := Dp.reads I d x v hd rx
    rcases he with he | he
    · obtain ⟨bs, r2⟩ := Dp.reads I (.list ds) y u he ry
      exact SeqAt.in_list_reads r2 r1 (SeqAt.canLay_of_shaped se) (SeqAt.canLay_of_shaped sd) (PyProof.Rows.room_in_shaped sd hu) ⟨.bl _, H, I, rfl, q⟩
    · obtain ⟨bs, r2⟩ := Dp.reads I (.tuple ds) y u he ry
      exact SeqAt.in_tuple_reads r2 r1 (SeqAt.canLay_of_shaped se) (SeqAt.canLay_of_shaped sd) (PyProof.Rows.room_in_shaped sd hu) ⟨.bl _, H, I, rfl, q⟩
  · exact op_in_str pins s σ H x y v u Q I rx ry h
theorem op_notInM (hu : X.A.units + 65 < cLine) : OpR X (compareOp .NotIn) (rInM X.K true) := by
  intro pins s σ H x y v u Q I rx ry h
  rcases h with ⟨d, ds, hd, he, sd, se, q⟩ | h
  · obtain ⟨as, r1⟩ := Dp.reads I d x v hd rx
    rcases he with he | he
    · obtain ⟨bs, r2⟩ := Dp.reads I (.list ds) y u he ry
      exact SeqAt.notIn_list_reads r2 r1 (SeqAt.canLay_of_shaped se) (SeqAt.canLay_of_shaped sd) (PyProof.Rows.room_in_shaped sd hu) ⟨.bl _, H, I, rfl, q⟩
    · obtain ⟨bs, r2⟩ := Dp.reads I (.tuple ds) y u he ry
      exact SeqAt.notIn_tuple_reads r2 r1 (SeqAt.canLay_of_shaped se) (SeqAt.canLay_of_shaped sd) (PyProof.Rows.room_in_shaped sd hu) ⟨.bl _, H, I, rfl, q⟩
  · exact op_notin_str pins s σ H x y v u Q I rx ry h
theorem pys_any (x : D) : ∀ ds : List D, (D.pys ds).any (fun z => PyData.eqv z x.py) = pysIn x ds
  | [] => by unfold D.pys; rfl
  | y :: ds => by
    unfold D.pys pysIn D.eqv
    rw [List.any_cons, List.any_cons, pys_any x ds]
    rfl
theorem list_shaped {ds : List D} (f : D.flats 59 ds = true) : SeqAt.shaped (.list (D.pys ds)) = true := by
  have := py_shaped (d := .lst ds) (by unfold D.flat; exact f)
  unfold D.py at this
  exact this
theorem sim_in (hK : G.K = X.K) : Sim2 G dIn (rInM X.K false) := fun Z H d e x y z Q i rx ry h q => by
  unfold dIn at h
  split at h
  · split at h
    · rename_i hf
      rw [Bool.and_eq_true] at hf
      cases h
      refine .inl ⟨_, _, hK ▸ rx.dp hf.1, .inl ?_, py_shaped hf.1, list_shaped hf.2, ?_⟩
      · have := ry.dp (n := 60) (by unfold D.flat; exact hf.2)
        unfold D.py at this
        exact hK ▸ this
      · rw [pys_any]
        exact q _ H (Same.refl H) (.bl _)
    · cases h
  · split at h
    · rename_i hf
      rw [Bool.and_eq_true] at hf
      cases h
      refine .inl ⟨_, _, hK ▸ rx.dp hf.1, .inr ?_, py_shaped hf.1, list_shaped hf.2, ?_⟩
      · have := ry.dp (n := 60) (by unfold D.flat; exact hf.2)
        unfold D.py at this
        exact hK ▸ this
      · rw [pys_any]
        exact q _ H (Same.refl H) (.bl _)
    · cases h
  · split at h
    · cases h
      exact .inr ⟨_, _, rx.str', ry.str', q _ H (Same.refl H) (.bl _)⟩
    · cases h
  · cases h
theorem sim_notIn (hK : G.K = X.K) : Sim2 G dNotIn (rInM X.K true) := fun Z H d e x y z Q i rx ry h q => by
  unfold dNotIn at h
  split at h
  · rename_i b hb
    cases h
    have := sim_in (X := X) hK Z H d e x y (.bl b) (fun v H' => ∃ c, v = .bl c ∧ Q (.bl (!c)) H') i rx ry hb fun v H' e' r' => by
      rw [r'.bl']
      exact ⟨b, rfl, q _ H' e' (.bl _)⟩
    rcases this with ⟨d', ds, h1, h2, h3, h4, c, h5, h6⟩ | ⟨i', j, h1, h2, c, h5, h6⟩
    · refine .inl ⟨d', ds, h1, h2, h3, h4, ?_⟩
      have h5 : (ds.any fun z => PyData.eqv z d') = c := V.bl.inj h5
      rw [if_pos rfl, h5]
      exact h6
    · refine .inr ⟨i', j, h1, h2, ?_⟩
      have h5 : (!(Builtin.Str.occurrences j i' 0 j.length 1).isEmpty) = c := V.bl.inj h5
      rw [if_pos rfl, h5]
      exact h6
  · cases h
/-! ### subscripts -/
theorem Reps.atI {Z : Zone} {H : Hp} {ds : List D} {vs : List V} {i : Int} {d : D} (r : Reps G Z H ds vs) (h : atI ds i = some d) : ∃ v, L2.atI vs i = some v ∧ Rep G Z H d v := by
  unfold L2.atI at h ⊢
  obtain ⟨j, h1, h2⟩ := Option.bind_eq_some_iff.mp h
  obtain ⟨v, h3, h4⟩ := r.get h2
  exact ⟨v, by rw [← r.length, h1]; exact h3, h4⟩
theorem View.scr' {Z : Zone} {H : Hp} {ns : List Int} {v : V} (h : View G Z H (.scr ns) v) : ∃ a, v = .ref a ∧ SqL G.K H a (ns.map V.int) := by
  cases h with
  | rep h =>
    cases h with
    | scr r z => exact ⟨_, rfl, .inl r⟩
    | scrK h => exact ⟨_, rfl, .inr h⟩
theorem sim_ix (hK : G.K = X.K) : Sim2 G dIx (rIx X.K) := fun Z H d e x y z Q i rx ry h q => by
  unfold dIx at h
  split at h
  · obtain ⟨a, vs, rfl, ha, ra⟩ := rx.list
    obtain ⟨v, hv, rv⟩ := ra.atI h
    exact .inl ⟨a, vs, _, v, rfl, ry.int', .inl ha, hv, q _ H (Same.refl H) rv⟩
  · obtain ⟨a, vs, rfl, ha, ra⟩ := rx.tup
    obtain ⟨v, hv, rv⟩ := ra.atI h
    exact .inr (.inl ⟨a, vs, _, v, rfl, ry.int', hK ▸ ha, hv, q _ H (Same.refl H) rv⟩)
  · obtain ⟨m, h1, h2⟩ := Option.map_eq_some_iff.mp h
    cases h2
    obtain ⟨a, rfl, ha⟩ := rx.scr'
    refine .inl ⟨a, _, _, _, rfl, ry.int', hK ▸ ha, ?_, q _ H (Same.refl H) (.int m)⟩
    unfold L2.atI at h1 ⊢
    obtain ⟨j, h1, h2⟩ := Option.bind_eq_some_iff.mp h1
    rw [List.length_map, h1]
    show (_ : List V)[j]? = _
    rw [List.getElem?_map, h2]
    rfl
  · rename_i z' i'
    split at h
    · obtain ⟨c, h1, h2⟩ := Option.map_eq_some_iff.mp h
      cases h2
      exact .inr (.inr ⟨z', i', c, rx.str', ry.int', by assumption, h1, q _ H (Same.refl H) (.str _)⟩)
    · cases h
  · cases h
/-! ### built-ins -/
theorem sim_len (hK : G.K = X.K) : SimC G dLen (fun xs H Q => (∃ x n, xs = [x] ∧ LenV X.K x H n ∧ Q (.int n) H) ∨ ∃ a kvs, xs = [V.ref a] ∧ H a = some (.dK kvs) ∧ Q (.int kvs.length) H) := fun Z H d x z Q i rx h q => by
  unfold dLen at h
  split at h
  · cases h
    obtain ⟨a, vs, rfl, ha, ra⟩ := rx.list
    refine .inl ⟨_, _, rfl, .inl ⟨vs, .inl ha, rfl⟩, ?_⟩
    rw [← ra.length]
    exact q _ H (Same.refl H) (.int _)
  · cases h
    obtain ⟨a, vs, rfl, ha, ra⟩ := rx.tup
    refine .inl ⟨_, _, rfl, .inr ⟨vs, hK ▸ ha, rfl⟩, ?_⟩
    rw [← ra.length]
    exact q _ H (Same.refl H) (.int _)
  · split at h
    · cases h
      rw [rx.str']
      exact .inl ⟨_, _, rfl, ⟨by assumption, rfl⟩, q _ H (Same.refl H) (.int _)⟩
    · cases h
  · cases h
    obtain ⟨a, rfl, ha⟩ := rx.scr'
    exact .inl ⟨_, _, rfl, .inl ⟨_, hK ▸ ha, by rw [List.length_map]⟩, q _ H (Same.refl H) (.int _)⟩
  · cases h
theorem cr_lenM : CallR X (.builtin "len") (fun xs H Q => (∃ x n, xs = [x] ∧ LenV X.K x H n ∧ Q (.int n) H) ∨ ∃ a kvs, xs = [V.ref a] ∧ H a = some (.dK kvs) ∧ Q (.int kvs.length) H) := call_len.or call_lenD
theorem sim_tuple (hK : G.K = X.K) : SimC G dTuple (fun xs H Q => ∃ p ys, xs = [.ref p] ∧ ((SqL X.K H p ys ∧ ∀ l, H l = none → Q (.ref l) (upd H l (.tup ys))) ∨ (SqT X.K H p ys ∧ Q (.ref p) H))) := fun Z H d x z Q i rx h q => by
  unfold dTuple at h
  split at h
  · cases h
    obtain ⟨a, vs, rfl, ha, ra⟩ := rx.list
    exact ⟨a, vs, rfl, .inl ⟨.inl ha, fun l hl => q _ _ (same_new hl) (new_tup i ra hl)⟩⟩
  · cases h
    have rt := rx.tupR
    obtain ⟨a, vs, rfl, ha, ra⟩ := rx.tup
    exact ⟨a, vs, rfl, .inr ⟨hK ▸ ha, q _ H (Same.refl H) rt⟩⟩
  · cases h
theorem sim_list (hK : G.K = X.K) : SimC G dList (fun xs H Q => ∃ p ys, xs = [.ref p] ∧ (SqL X.K H p ys ∨ SqT X.K H p ys) ∧ ∀ l, H l = none → Q (.ref l) (upd H l (.lst ys))) := fun Z H d x z Q i rx h q => by
  unfold dList at h
  split at h
  · cases h
    obtain ⟨a, vs, rfl, ha, ra⟩ := rx.list
    exact ⟨a, vs, rfl, .inl (.inl ha), fun l hl => q _ _ (same_new hl) (new_lst i ra hl)⟩
  · cases h
    obtain ⟨a, vs, rfl, ha, ra⟩ := rx.tup
    exact ⟨a, vs, rfl, .inr (hK ▸ ha), fun l hl => q _ _ (same_new hl) (new_lst i ra hl)⟩
  · cases h
theorem Reps.ofInts {Z : Zone} {H : Hp} : ∀ {ds : List D} {vs : List V} {ns : List Int}, Reps G Z H ds vs → dInts ds = some ns → vs = ns.map V.int
  | _, _, _, .nil, e => by cases e; rfl
  | _, _, ns, .cons (d := d) (ds := ds) r t, e => by
    unfold dInts at e
    split at e
    · rename_i h; cases h
    · rename_i i r' h
      cases h
      obtain ⟨m, h1, h2⟩ := Option.map_eq_some_iff.mp e
      subst h2
      rw [r.int', Reps.ofInts t h1]
      rfl
    · cases e
theorem Reps.ofBools {Z : Zone} {H : Hp} : ∀ {ds : List D} {vs : List V} {ns : List Bool}, Reps G Z H ds vs → dBools ds = some ns → vs = ns.map V.bl
  | _, _, _, .nil, e => by cases e; rfl
  | _, _, ns, .cons (d := d) (ds := ds) r t, e => by
    unfold dBools at e
    split at e
    · rename_i h; cases h
    · rename_i i r' h
      cases h
      obtain ⟨m, h1, h2⟩ := Option.map_eq_some_iff.mp e
      subst h2
      rw [r.bl', Reps.ofBools t h1]
      rfl
    · cases e
theorem cr_sumT (hc : X.calm = true) : CallR X (.builtin "sum") (fun vs H Q => ∃ (a : Addr) (ns : List Int), vs = [V.ref a] ∧ SqT X.K H a (ns.map V.int) ∧ Q (.int ns.sum) H) := by
  intro pins s σ H vs us Q I r h
  obtain ⟨a, ns, rfl, hs, q⟩ := h
  obtain ⟨its, rv, hl, _⟩ := I.tuple hs
  rw [Vals.ref1 r]
  have hi := rv.ints
  obtain ⟨xs, hx⟩ := hi.allInts.items
  have hn : PySem.numsOf (PySem.intItems xs).toList = ns := by rw [← hx]; exact hi.numsOf
  rw [PySem.nums_intItems] at hn
  rw [hx] at hl
  refine PySem.W.ktm_sumG (I.ok.hd hc) hl fun h' tk t' hk => ⟨.int _, H, I.kept hk, ⟨_, rfl⟩, ?_⟩
  rw [PySem.preSum_eq, List.take_of_length_le (by simp), hn]
  exact q
theorem cr_sumM (hc : X.calm = true) : CallR X (.builtin "sum") (fun vs H Q => rSum X.K vs H Q ∨ ∃ (a : Addr) (ns : List Int), vs = [V.ref a] ∧ SqT X.K H a (ns.map V.int) ∧ Q (.int ns.sum) H) := (cr_sum hc).or (cr_sumT hc)
theorem sim_sum (hK : G.K = X.K) : SimC G dSum (fun vs H Q => rSum X.K vs H Q ∨ ∃ (a : Addr) (ns : List Int), vs = [V.ref a] ∧ SqT X.K H a (ns.map V.int) ∧ Q (.int ns.sum) H) := fun Z H d x z Q i rx h q => by
  unfold dSum at h
  split at h
  · obtain ⟨ns, h1, h2⟩ := Option.map_eq_some_iff.mp h
    cases h2
    obtain ⟨a, vs, rfl, ha, ra⟩ := rx.list
    have e := ra.ofInts h1
    subst e
    exact .inl ⟨a, ns, rfl, .inl ha, q _ H (Same.refl H) (.int _)⟩
  · obtain ⟨ns, h1, h2⟩ := Option.map_eq_some_iff.mp h
    cases h2
    obtain ⟨a, vs, rfl, ha, ra⟩ := rx.tup
    have e := ra.ofInts h1
    subst e
    exact .inr ⟨a, ns, rfl, hK ▸ ha, q _ H (Same.refl H) (.int _)⟩
  · cases h
theorem sim_all : SimC G dAll (rAll X.K) := fun Z H d x z Q i rx h q => by
  unfold dAll at h
  split at h
  · obtain ⟨ns, h1, h2⟩ := Option.map_eq_some_iff.mp h
    cases h2
    obtain ⟨a, vs, rfl, ha, ra⟩ := rx.list
    have e := ra.ofBools h1
    subst e
    exact ⟨a, ns, rfl, .inl ha, q _ H (Same.refl H) (.bl _)⟩
  · cases h
theorem sim_any : SimC G dAny (rAny X.K) := fun Z H d x z Q i rx h q => by
  unfold dAny at h
  split at h
  · obtain ⟨ns, h1, h2⟩ := Option.map_eq_some_iff.mp h
    cases h2
    obtain ⟨a, vs, rfl, ha, ra⟩ := rx.list
    have e := ra.ofBools h1
    subst e
    exact ⟨a, ns, rfl, .inl ha, q _ H (Same.refl H) (.bl _)⟩
  · cases h
theorem maxI_ge : ∀ (l : List Int) (a : Int), a ≤ maxI a l ∧ (∀ x ∈ l, x ≤ maxI a l) ∧ (maxI a l = a ∨ maxI a l ∈ l)
  | [], a => ⟨Int.le_refl _, by simp, .inl rfl⟩
  | x :: l, a => by
    obtain ⟨h1, h2, h3⟩ := maxI_ge l (max a x)
    have e : maxI a (x :: l) = maxI (max a x) l := rfl
    rw [e]
    refine ⟨by omega, fun y hy => ?_, ?_⟩
    · rcases List.mem_cons.mp hy with rfl | hy
      · omega
      · exact h2 y hy
    · rcases h3 with h3 | h3
      · rw [h3]
        by_cases c : a ≤ x
        · exact .inr (by rw [show max a x = x by omega]; exact List.mem_cons_self)
        · exact .inl (by omega)
      · exact .inr (List.mem_cons_of_mem _ h3)
theorem minI_le : ∀ (l : List Int) (a : Int), minI a l ≤ a ∧ (∀ x ∈ l, minI a l ≤ x) ∧ (minI a l = a ∨ minI a l ∈ l)
  | [], a => ⟨Int.le_refl _, by simp, .inl rfl⟩
  | x :: l, a => by
    obtain ⟨h1, h2, h3⟩ := minI_le l (min a x)
    have e : minI a (x :: l) = minI (min a x) l := rfl
    rw [e]
    refine ⟨by omega, fun y hy => ?_, ?_⟩
    · rcases List.mem_cons.mp hy with rfl | hy
      · omega
      · exact h2 y hy
    · rcases h3 with h3 | h3
      · rw [h3]
        by_cases c : x ≤ a
        · exact .inr (by rw [show min a x = x by omega]; exact List.mem_cons_self)
        · exact .inl (by omega)
      · exact .inr (List.mem_cons_of_mem _ h3)
theorem sim_max : SimC G dMax (rMax X.K) := fun Z H d x z Q i rx h q => by
  unfold dMax at h
  split at h
  · split at h
    · rename_i a0 l h1
      cases h
      obtain ⟨a, vs, rfl, ha, ra⟩ := rx.list
      have e := ra.ofInts h1
      subst e
      obtain ⟨g1, g2, g3⟩ := maxI_ge l a0
      refine ⟨a, a0 :: l, rfl, .inl ha, by simp, fun m hm hall => ?_⟩
      have hle : m ≤ maxI a0 l := by
        rcases List.mem_cons.mp hm with rfl | hm
        · exact g1
        · exact g2 m hm
      have hge : maxI a0 l ≤ m := by
        rcases g3 with g3 | g3
        · rw [g3]; exact hall a0 List.mem_cons_self
        · exact hall _ (List.mem_cons_of_mem _ g3)
      rw [show m = maxI a0 l by omega]
      exact q _ H (Same.refl H) (.int _)
    · cases h
  · cases h
theorem sim_min : SimC G dMin (rMin X.K) := fun Z H d x z Q i rx h q => by
  unfold dMin at h
  split at h
  · split at h
    · rename_i a0 l h1
      cases h
      obtain ⟨a, vs, rfl, ha, ra⟩ := rx.list
      have e := ra.ofInts h1
      subst e
      obtain ⟨g1, g2, g3⟩ := minI_le l a0
      refine ⟨a, a0 :: l, rfl, .inl ha, by simp, fun m hm hall => ?_⟩
      have hle : minI a0 l ≤ m := by
        rcases List.mem_cons.mp hm with rfl | hm
        · exact g1
        · exact g2 m hm
      have hge : m ≤ minI a0 l := by
        rcases g3 with g3 | g3
        · rw [g3]; exact hall a0 List.mem_cons_self
        · exact hall _ (List.mem_cons_of_mem _ g3)
      rw [show m = minI a0 l by omega]
      exact q _ H (Same.refl H) (.int _)
    · cases h
  · cases h
theorem sim_max2 : SimN G dMax2 (fun xs H Q => ∃ i j, xs = [.int i, .int j] ∧ Q (.int (if j > i then j else i)) H) := fun Z H ds xs z Q i rx h q => by
  unfold dMax2 at h
  split at h
  · cases h
    cases rx with
    | cons r1 t =>
      cases t with
      | cons r2 t =>
        cases t
        rw [r1.int', r2.int']
        exact ⟨_, _, rfl, q _ H (Same.refl H) (.int _)⟩
  · cases h
theorem sim_min2 : SimN G dMin2 (fun xs H Q => ∃ i j, xs = [.int i, .int j] ∧ Q (.int (if j < i then j else i)) H) := fun Z H ds xs z Q i rx h q => by
  unfold dMin2 at h
  split at h
  · cases h
    cases rx with
    | cons r1 t =>
      cases t with
      | cons r2 t =>
        cases t
        rw [r1.int', r2.int']
        exact ⟨_, _, rfl, q _ H (Same.refl H) (.int _)⟩
  · cases h
theorem insI_perm (x : Int) : ∀ l : List Int, (insI x l).Perm (x :: l)
  | [] => .refl _
  | y :: r => by
    unfold insI
    split
    · exact .refl _
    · exact ((insI_perm x r).cons y).trans (.swap x y r)
theorem sortI_perm : ∀ l : List Int, (sortI l).Perm l
  | [] => .refl _
  | x :: r => (insI_perm x (sortI r)).trans ((sortI_perm r).cons x)
theorem insI_sorted (x : Int) : ∀ l : List Int, l.Pairwise (· ≤ ·) → (insI x l).Pairwise (· ≤ ·)
  | [], _ => by simp [insI]
  | y :: r, h => by
    unfold insI
    rw [List.pairwise_cons] at h
    split
    · rename_i hle
      rw [List.pairwise_cons]
      refine ⟨fun z hz => ?_, List.pairwise_cons.mpr h⟩
      rcases List.mem_cons.mp hz with rfl | hz
      · exact hle
      · exact Int.le_trans hle (h.1 z hz)
    · rename_i hle
      rw [List.pairwise_cons]
      refine ⟨fun z hz => ?_, insI_sorted x r h.2⟩
      rcases List.mem_cons.mp ((insI_perm x r).mem_iff.mp hz) with rfl | hz
      · omega
      · exact h.1 z hz
theorem sortI_sorted : ∀ l : List Int, (sortI l).Pairwise (· ≤ ·)
  | [] => .nil
  | x :: r => insI_sorted x _ (sortI_sorted r)
theorem sorted_uniq {a b : List Int} (p : a.Perm b) (ha : a.Pairwise (· ≤ ·)) (hb : b.Pairwise (· ≤ ·)) : a = b :=
  p.eq_of_pairwise (fun x y _ _ h1 h2 => Int.le_antisymm h1 h2) ha hb
theorem reps_ints {Z : Zone} {H : Hp} : ∀ ns : List Int, Reps G Z H (ns.map .int) (ns.map V.int)
  | [] => .nil
  | n :: ns => .cons (.int n) (reps_ints ns)
theorem sim_sorted : SimC G dSorted (rSortedI X.K) := fun Z H d x z Q i rx h q => by
  unfold dSorted at h
  split at h
  · obtain ⟨ns, h1, h2⟩ := Option.map_eq_some_iff.mp h
    cases h2
    obtain ⟨a, vs, rfl, ha, ra⟩ := rx.list
    have e := ra.ofInts h1
    subst e
    refine ⟨a, ns, rfl, .inl ha, fun ns' p hp hs hn => ?_⟩
    rw [sorted_uniq (hp.trans (sortI_perm ns).symm) hs (sortI_sorted ns)]
    exact q _ _ (same_new hn) (new_lst i (reps_ints _) hn)
  · cases h
theorem sim_abs : SimC G dAbs (fun xs H Q => ∃ i, xs = [.int i] ∧ Q (.int (if i < 0 then -i else i)) H) := fun Z H d x z Q i rx h q => by
  unfold dAbs at h
  split at h
  · cases h
    rw [rx.int']
    exact ⟨_, rfl, q _ H (Same.refl H) (.int _)⟩
  · cases h
theorem sim_int : SimC G dInt (fun xs H Q => (∃ i, xs = [.int i] ∧ Q (.int i) H) ∨ ∃ k, xs = [.bl k] ∧ Q (.int (if k then 1 else 0)) H) := fun Z H d x z Q i rx h q => by
  unfold dInt at h
  split at h
  · cases h
    rw [rx.int']
    exact .inl ⟨_, rfl, q _ H (Same.refl H) (.int _)⟩
  · cases h
    rw [rx.bl']
    exact .inr ⟨_, rfl, q _ H (Same.refl H) (.int _)⟩
  · cases h
theorem SqT.tyx {K : PySem.W.Frag} {H : Hp} {a : Addr} {vs : List V} (h : SqT K H a vs) : TyX K H (.ref a) (.type "tuple") := by
  rcases h with (h | ⟨o, h⟩) | ⟨o, its, n, h1, h2, _⟩
  · exact .base (.tup h)
  · exact .fTuple h
  · exact .kTuple h1 h2
theorem Rd.tyl {K : PySem.W.Frag} {H : Hp} {a : Addr} {vs : List V} (h : Rd H a (.lst vs)) : TyX K H (.ref a) (.type "list") := by
  rcases h with h | ⟨o, h⟩
  · exact .base (.lst h)
  · exact .base (.frz h)
theorem View.tyx {Z : Zone} {H : Hp} {d : D} {v : V} {n : String} (hK : G.K = X.K) (h : View G Z H d v) (e : tyName d = some n) : TyX X.K H v (.type n) := by
  cases d with
  | non => cases e; cases h with | rep h => rw [h.non']; exact .base .non
  | bl b => cases e; rw [h.bl']; exact .base (.bl _)
  | int b => cases e; rw [h.int']; exact .base (.int _)
  | str b => cases e; rw [h.str']; exact .base (.str _)
  | tup ds =>
    cases e
    obtain ⟨a, vs, rfl, ha, _⟩ := h.tup
    exact hK ▸ SqT.tyx ha
  | lst ds =>
    cases e
    obtain ⟨a, vs, rfl, ha, _⟩ := h.list
    exact Rd.tyl ha
  | dic ds =>
    cases e
    have key : ∀ {a : Addr} {kvs : List (Key × V)}, Rd H a (.dK kvs) → TyX X.K H (.ref a) (.type "dict") := fun r => r.elim (fun r => .base (.dK r)) fun ⟨o, r⟩ => .fDict r
    cases h with
    | rep h => cases h with | dK r z h => exact key r
    | dK r h => exact key r
  | diT ds => cases e
  | ins c fs => cases e
  | fn x => cases e
  | scr ns => cases e
theorem sim_isi (hK : G.K = X.K) {T : String} : Sim1 G (dIsi T) (fun x H Q => rIsi X.K [x, .ty T] H Q) := fun Z H d x z Q i rx h q => by
  unfold dIsi at h
  obtain ⟨n, h1, h2⟩ := Option.bind_eq_some_iff.mp h
  obtain ⟨b, h3, h4⟩ := Option.map_eq_some_iff.mp h2
  subst h4
  exact ⟨_, _, _, _, b, rfl, .ty T, rx.tyx hK h1, kit_ty h3, q _ H (Same.refl H) (.bl _)⟩
end
end M
namespace M
open PySem PySem.Spec L2

/-! ### calls of built-ins -/
section
variable {G : Wd} {W : WX} {X : Cx} {e : Expr} {es : List Expr} {pos p : Pos} {x : Str} {f : Den} {g : D → Option D} {r : List V → Hp → VK → Prop}
/-- f(e), a built-in of one argument -/
theorem me_bi1 {id : String} (hc : CallR X (.builtin id) r) (s : SimC G g r) (hv : bootBuiltins x = some (.builtin id)) (hm : X.mg x = none) (ha : MV G W X e f) (hg : Gl X x := by rfl) (hn : x ≠ "__name__" := by decide) (hdb : (x == ("__debug__" : Str)) = false := by decide)
    (hs : starEach [e] X.env = (false, eval e X.env) :: starEach [] X.env := by rfl) (he : starEach [e] X.env = (false, eval e X.env) :: starEach [] X.env := by rfl) (hpl : (backTo pos (starEach [] X.env)).any (·.1) = false := by rfl) : ME G W X (.Call (.Name x p) [e] [] pos) (eOp1 g f) :=
  PE.imp (pe_callB hc hg hm hv (pa_cons ha pa_nil hs) hn hdb he hpl) fun σ H Q q => argC s q
/-- T(e), a built-in type -/
theorem me_ty1 {T : String} (hc : CallR X (.type T) r) (s : SimC G g r) (hv : bootBuiltins x = some (.type T)) (hm : X.mg x = none) (ha : MV G W X e f) (hg : Gl X x := by rfl) (hn : x ≠ "__name__" := by decide) (hdb : (x == ("__debug__" : Str)) = false := by decide)
    (hs : starEach [e] X.env = (false, eval e X.env) :: starEach [] X.env := by rfl) (he : starEach [e] X.env = (false, eval e X.env) :: starEach [] X.env := by rfl) (hpl : (backTo pos (starEach [] X.env)).any (·.1) = false := by rfl) : ME G W X (.Call (.Name x p) [e] [] pos) (eOp1 g f) :=
  PE.imp (pe_callTy hc hg hm hv (pa_cons ha pa_nil hs) hn hdb he hpl) fun σ H Q q => argC s q
theorem me_biN {id : String} {fs : DenL} {gN : List D → Option D} (hc : CallR X (.builtin id) r) (s : SimN G gN r) (hv : bootBuiltins x = some (.builtin id)) (hm : X.mg x = none) (ha : MA G W X (e :: es) fs) (hg : Gl X x := by rfl) (hn : x ≠ "__name__" := by decide) (hdb : (x == ("__debug__" : Str)) = false := by decide)
    (he : starEach (e :: es) X.env = (false, eval e X.env) :: starEach es X.env := by rfl) (hpl : (backTo pos (starEach es X.env)).any (·.1) = false := by rfl) : ME G W X (.Call (.Name x p) (e :: es) [] pos) (eOpN gN fs) :=
  PE.imp (pe_callB hc hg hm hv ha hn hdb he hpl) fun σ H Q q => argsN s q
/-- isinstance(e, T) -/
theorem me_isi {T : String} {y : Str} {p2 : Pos} (hK : G.K = X.K) (hm : X.mg "isinstance" = none) (hv : bootBuiltins y = some (.type T)) (hmy : X.mg y = none) (ha : MV G W X e f) (hgy : Gl X y := by rfl) (hny : y ≠ "__name__" := by decide) (hdby : (y == ("__debug__" : Str)) = false := by decide) (hg : Gl X "isinstance" := by rfl)
    (hs : starEach [e, .Name y p2] X.env = (false, eval e X.env) :: starEach [.Name y p2] X.env := by rfl) (hs2 : starEach [.Name y p2] X.env = (false, eval (.Name y p2) X.env) :: starEach [] X.env := by rfl) (hpl : (backTo pos (starEach [.Name y p2] X.env)).any (·.1) = false := by rfl) :
    ME G W X (.Call (.Name "isinstance" p) [e, .Name y p2] [] pos) (eOp1 (dIsi T) f) :=
  PE.imp (pe_callB call_isi hg hm (by decide +kernel) (pa_cons ha (pa_cons (pe_bltn (v := .ty T) hgy hmy hv rfl hny hdby) pa_nil hs2) hs) (by decide) (by decide) hs hpl) fun σ H Q q => by
    obtain ⟨Z, ρ, st, L, S, q⟩ := q
    refine ⟨Z, ρ, st, L, S, PostR.bind q fun d st1 x H1 L1 e f1 o1 r1 q1 => ?_⟩
    split at q1
    · rename_i z ez
      exact sim_isi (X := X) hK _ _ _ _ z _ o1.inn r1 ez fun v' H' e' r' => q1 v' H' L1 (Fw.same e') (o1.same e') r'
    · exact q1.elim
end

/-! ### slices -/
def cutD (xs : List D) (lo hi : Option Int) : List D := (xs.drop (HT.sIx xs.length 0 lo)).take (HT.sIx xs.length xs.length hi - HT.sIx xs.length 0 lo)
abbrev DenO := Env → Sto → Res (Option Int)
@[simp] def eNo : DenO := fun _ st => .ok none st
@[simp] def eSo (f : Den) : DenO := fun ρ st => (f ρ st).bind fun d st => match d with | .int i => .ok (some i) st | _ => .stuck
noncomputable def dCut (d : D) (lo hi : Option Int) : Option D := match d with
  | .lst ds => some (.lst (cutD ds lo hi))
  | .tup ds => some (.tup (cutD ds lo hi))
  | .str z => if z.length ≤ sizeLine then some (.str (cutS z lo hi)) else none
  | _ => none
@[simp] noncomputable def eCut (f : Den) (lo hi : DenO) : Den := fun ρ st => (f ρ st).bind fun d st => (lo ρ st).bind fun l st => (hi ρ st).bind fun h st => match dCut d l h with | some z => .ok z st | none => .stuck
def tMO (G : Wd) (W : WX) (f : DenO) : TO := fun σ H Q => ∃ Z ρ st L, Stt G Z ρ st L σ H ∧ PostR G Z W (fun _ _ a b => a = b) σ L st H (f ρ st) Q
abbrev MO (G : Wd) (W : WX) (X : Cx) (e : Option Expr) (f : DenO) : Prop := PO X e (tMO G W f)
section
variable {G : Wd} {W : WX} {X : Cx} {e : Expr} {pos p2 : Pos}
theorem PO.imp {X : Cx} {e : Option Expr} {t t' : TO} (h : PO X e t) (i : ∀ σ H Q, t' σ H Q → t σ H Q) : PO X e t' := ⟨fun pins s σ H Q I q => h.run pins s σ H Q I (i σ H Q q)⟩
theorem mo_none : MO G W X none eNo := PO.imp po_none fun σ H Q q => by
  obtain ⟨Z, ρ, st, L, S, q⟩ := q
  exact PostR.pure (W := W) (R := fun _ _ a b => a = b) S.ok q rfl
theorem mo_some {f : Den} (h : ME G W X e f) : MO G W X (some e) (eSo f) := PO.imp (po_some h) fun σ H Q q => by
  obtain ⟨Z, ρ, st, L, S, q⟩ := q
  refine ⟨Z, ρ, st, L, S, PostR.bind q fun d st1 x H1 L1 e f1 o1 r1 q1 => ?_⟩
  split at q1
  · rename_i i
    exact ⟨i, r1.int', PostR.pure (W := W) (R := fun _ _ a b => a = b) o1 q1 rfl⟩
  · exact q1.elim
theorem Reps.cut {Z : Zone} {H : Hp} {ds : List D} {vs : List V} {lo hi : Option Int} (r : Reps G Z H ds vs) : Reps G Z H (cutD ds lo hi) (cutV vs lo hi) := by
  unfold cutD cutV
  rw [r.length]
  exact (r.drop _).take _
def rSlM (K : PySem.W.Frag) : V → Option Int → Option Int → Hp → VK → Prop := fun x lo hi H Q => (∃ a xs, x = .ref a ∧ SqL K H a xs ∧ ∀ p, H p = none → Q (.ref p) (upd H p (.lst (cutV xs lo hi)))) ∨ rSlA K x lo hi H Q ∨ rSlS x lo hi H Q
theorem sl_m : SlR X (rSlM X.K) := sl_list.or (sl_tupA.or sl_str)
theorem me_cut {f : Den} {lo hi : Option Expr} {fl fh : DenO} (hK : G.K = X.K) (he : ME G W X e f) (hl : MO G W X lo fl) (hh : MO G W X hi fh) : ME G W X (.Subscript e (.Slice lo hi none p2) pos) (eCut f fl fh) := PE.imp (pe_slice sl_m he hl hh) fun σ H Q q => by
  obtain ⟨Z, ρ, st, L, S, q⟩ := q
  refine ⟨Z, ρ, st, L, S, PostR.bind q fun d st1 x H1 L1 e f1 o1 r1 q1 => ?_⟩
  refine ⟨Z, ρ, st1, L1, S.to f1 o1, PostR.bind q1 fun l st2 y H2 L2 e2 f2 o2 r2 q2 => ?_⟩
  subst r2
  refine ⟨Z, ρ, st2, L2, (S.to f1 o1).to f2 o2, PostR.bind q2 fun h st3 y3 H3 L3 e3 f3 o3 r3 q3 => ?_⟩
  subst r3
  have r1 := (r1.mono f2.keeps).mono f3.keeps
  split at q3
  · rename_i z ez
    unfold dCut at ez
    split at ez
    · cases ez
      obtain ⟨a, vs, rfl, ha, ra⟩ := r1.list'
      exact .inl ⟨a, vs, rfl, .inl ha, fun p hp => q3 _ _ L3 (Fw.same (same_new hp)) (o3.same (same_new hp)) (new_lst o3.inn ra.cut hp)⟩
    · cases ez
      have rt := r1
      obtain ⟨a, vs, rfl, ha, ra⟩ := r1.tup'
      refine .inr (.inl ⟨a, vs, rfl, hK ▸ ha, fun hw => ?_, fun hw p hp => q3 _ _ L3 (Fw.same (same_new hp)) (o3.same (same_new hp)) (new_tup o3.inn ra.cut hp)⟩)
      refine q3 _ H3 L3 Fw.refl o3 ?_
      unfold cutD
      rw [ra.length, hw.1, hw.2, List.drop_zero, Nat.sub_zero, ← ra.length, List.take_length]
      exact rt
    · split at ez
      · cases ez
        exact .inr (.inr ⟨_, r1.str', by assumption, q3 _ H3 L3 Fw.refl o3 (.str _)⟩)
      · cases ez
    · cases ez
  · exact q3.elim
end

/-! ### defs -/
inductive SReps (G : Wd) (Z : Zone) (H : Hp) (L : List Addr) : List S → List V → Prop
  | nil : SReps G Z H L [] []
  | cons {d : S} {v : V} {ds : List S} {vs : List V} : SRep G Z H L d v → SReps G Z H L ds vs → SReps G Z H L (d :: ds) (v :: vs)
abbrev FD := List S → Sto → Res D
theorem SReps.length {G : Wd} {Z : Zone} {H : Hp} {L : List Addr} : ∀ {ds : List S} {vs : List V}, SReps G Z H L ds vs → ds.length = vs.length
  | _, _, .nil => rfl
  | _, _, .cons _ t => congrArg (· + 1) t.length
theorem SReps.get {G : Wd} {Z : Zone} {H : Hp} {L : List Addr} : ∀ {ds : List S} {vs : List V} {i : Nat} {d : S}, SReps G Z H L ds vs → ds[i]? = some d → ∃ v, vs[i]? = some v ∧ SRep G Z H L d v
  | _, _, _, _, .nil, e => by simp at e
  | _, _, 0, _, .cons r _, e => by simp at e; subst e; exact ⟨_, rfl, r⟩
  | _, _, i + 1, d, .cons _ t, e => by
    obtain ⟨v, h1, h2⟩ := SReps.get (i := i) (d := d) t (by simpa using e)
    exact ⟨v, by simpa using h1, h2⟩
theorem SReps.mono {G : Wd} {Z : Zone} {L L' : List Addr} {st st' : Sto} {H H' : Hp} (f : Fw Z L st H L' st' H') : ∀ {ds : List S} {vs : List V}, SReps G (Zof Z L st) H L ds vs → SReps G (Zof Z L' st') H' L' ds vs
  | _, _, .nil => .nil
  | _, _, .cons h t => .cons (h.mono f) (SReps.mono f t)
def spM (G : Wd) (n : Nat) (dn : FD) : Sp := fun vs H Q E => vs.length = n ∧ ∃ Z ss st L, StOk G Z L st H ∧ SReps G (Zof Z L st) H L ss vs ∧ match dn ss st with
  | .ok d st' => ∀ v H' L', Fw Z L st H L' st' H' → StOk G Z L' st' H' → Rep G (Zof Z L' st') H' d v → Q v H'
  | .exc c fs st' => ExP G Z L st H c fs st' E
  | .stuck => False
/-- a def that may be called by its name -/
structure MCal (P : Program) (w : World) (K : PySem.W.Frag) (mg : Str → Option Value) (base : Heap) (G : Wd) (k : Nat) (x : Str) (n : Nat) (dn : FD) : Prop where
  ex : ∃ (f : Addr) (fd : FuncData) (ps : List Str), FnOk P w K mg base (L2N.CX P w) k f fd ps (spM G n dn) ∧ mg x = some (.ref f) ∧ PySem.W.keepIn K (.ref f) = true ∧ Binds K fd ps []
/-- f(..), all arguments data: the def runs over a store of its own -/
@[simp] def eCall (n : Nat) (dn : FD) (f : DenL) : Den := fun ρ st => (f ρ st).bind fun ds st => if ds.length = n then (match dn (ds.map .p) [] with | .ok d [] => .ok d st | .exc c fs [] => .exc c fs st | _ => .stuck) else .stuck
section
variable {G : Wd} {W : WX} {X : Cx} {Z : Zone} {H H' : Hp} {L : List Addr} {st : Sto}
theorem sreps_p : ∀ {ds : List D} {vs : List V}, Reps G Z H ds vs → SReps G Z H L (ds.map .p) vs
  | _, _, .nil => .nil
  | _, _, .cons h t => .cons (.p h) (sreps_p t)
theorem Reps.zone {Z Z' : Zone} {H : Hp} (h : ∀ a, Z' a → Z a) {ds : List D} {vs : List V} (r : Reps G Z H ds vs) : Reps G Z' H ds vs := r.mono fun a o e z => ⟨.of e, fun q => z (h a q)⟩
theorem Rep.zone {Z Z' : Zone} {H : Hp} (h : ∀ a, Z' a → Z a) {ds : D} {vs : V} (r : Rep G Z H ds vs) : Rep G Z' H ds vs := r.mono fun a o e z => ⟨.of e, fun q => z (h a q)⟩
theorem zof_nil {Z : Zone} {a : Addr} : Zof Z [] [] a ↔ Z a := ⟨fun h => h.elim id fun ⟨n, o, e, _⟩ => by simp at e, .inl⟩
/-- over an empty store, in a zone that holds our live things -/
theorem StOk.empty (S : StOk G Z L st H) : StOk G (Zof Z L st) [] [] H :=
  ⟨rfl, .nil, fun n a o e => by simp at e, S.inn, fun a h => by simp at h, fun a h => by simp at h, S.tb.zone fun a h => zof_nil.mp h⟩
theorem Fw.fromEmpty (S : StOk G Z L st H) (f : Fw (Zof Z L st) [] [] H [] [] H') : Fw Z L st H L st H' :=
  ⟨⟨[], by simp, by simp⟩, fun a o e _ => f.keep a o e (fun ⟨n, o, e, _⟩ => by simp at e), f.there, fun a o z e => f.zk a o (.inl z) e, fun n o' _ e l => ⟨o', e, l⟩⟩
theorem OOk.zk {a : Addr} {o : O} (k : ∀ b, Live L st b → H' b = H b) (f : Fw Z L st H L st H') (ha : o.live = true → Live L st a) (h : OOk G (Zof Z L st) H L a o) : OOk G (Zof Z L st) H' L a o := by
  cases o with
  | lst ds => exact h.mono f (k a (ha rfl))
  | dic ds => exact h.mono f (k a (ha rfl))
  | diT ds => exact h.mono f (k a (ha rfl))
  | ins c fs => exact h.mono f (k a (ha rfl))
  | frz d => exact Rep.mono f.keeps h
  | dead => trivial
theorem StOk.fromEmpty (S : StOk G Z L st H) (f : Fw (Zof Z L st) [] [] H [] [] H') (t : TabZ G.T (Zof (Zof Z L st) [] []) H') : StOk G Z L st H' := by
  have g := Fw.fromEmpty S f
  refine ⟨S.len, S.nd, fun n a o e1 e2 => OOk.zk (fun b hb => ?_) g (fun hl => ⟨n, o, e1, e2, hl⟩) (S.obj n a o e1 e2), fun a z => f.there a (S.z0 a z), S.zl, fun a h => f.there a (S.lh a h), t.zone fun a h => zof_nil.mpr h⟩
  obtain ⟨o, e⟩ : ∃ o, H b = some o := by
    obtain ⟨n, o', e1, _⟩ := hb
    exact Option.ne_none_iff_exists'.mp (S.lh b (List.mem_of_getElem? e1))
  rw [e]
  exact f.zk b o (.inr hb) e
theorem nil_of_len {L' : List Addr} (S : StOk G Z L' [] H) : L' = [] := List.length_eq_zero_iff.mp S.len
theorem me_call1 {n : Nat} {dn : FD} {σ : St} {ds : List D} {vs : List V} {Q : VK} (o1 : StOk G Z L st H) (r1 : Reps G (Zof Z L st) H ds vs) (hn : ds.length = n)
    (q1 : PostR G Z W (RD G) σ L st H (match dn (ds.map .p) [] with | .ok d [] => .ok d st | .exc c fs [] => .exc c fs st | _ => .stuck) Q) : spM G n dn vs H Q (WE W σ) := by
  refine ⟨by rw [← r1.length]; exact hn, Zof Z L st, ds.map .p, [], [], o1.empty, sreps_p (r1.zone fun a h => zof_nil.mp h), ?_⟩
  revert q1
  cases hd : dn (ds.map .p) [] with
  | stuck => exact fun q1 => q1
  | ok d st2 =>
    cases st2 with
    | cons a b => exact fun q1 => q1.elim
    | nil =>
      intro q1 v H2 L2 f2 o2 r2
      have := nil_of_len o2
      subst this
      exact q1 v H2 L (Fw.fromEmpty o1 f2) (o1.fromEmpty f2 o2.tb) (r2.zone fun a h => zof_nil.mpr h)
  | exc c fs st2 =>
    cases st2 with
    | cons a b => exact fun q1 => q1.elim
    | nil =>
      intro q1 H2 L2 C dd vfs f2 o2 hC hdd rf
      have := nil_of_len o2
      subst this
      exact q1 H2 L C dd vfs (Fw.fromEmpty o1 f2) (o1.fromEmpty f2 o2.tb) hC (hdd.zone fun a q => zof_nil.mpr q) (rf.mono fun a o e z => ⟨.of e, fun q => z (zof_nil.mpr q)⟩)
theorem me_call {k : Nat} {x : Str} {n : Nat} {dn : FD} {p pos : Pos} {e : Expr} {es : List Expr} {f : DenL} (c : MCal X.prog X.w X.K X.mg X.base G k x n dn) (hr : Room k X.A) (tk : L2N.Takes X W) (ha : MA G W X (e :: es) f) (hg : Gl X x := by rfl)
    (hdb : (x == ("__debug__" : Str)) = false := by decide) (he : starEach (e :: es) X.env = (false, eval e X.env) :: starEach es X.env := by rfl) (hpl : (backTo pos (starEach es X.env)).any (·.1) = false := by rfl) :
    ME G W X (.Call (.Name x p) (e :: es) [] pos) (eCall n dn f) := by
  obtain ⟨fa, fd, ps, F, hm, kp, b⟩ := c.ex
  refine PE.imp (pe_callS (E := WE W) F hr hg hm kp b (fun σ => L2N.passAt tk σ) ha hdb he hpl) fun σ H Q q => ?_
  obtain ⟨Z, ρ, st, L, S, q⟩ := q
  refine ⟨Z, ρ, st, L, S, PostR.bind q fun ds st1 vs H1 L1 ed f1 o1 r1 q1 => ?_⟩
  by_cases hn : ds.length = n
  · rw [if_pos hn] at q1
    exact me_call1 o1 r1 hn q1
  · rw [if_neg hn] at q1
    exact q1.elim
end
end M
namespace M
open PySem PySem.Spec L2

/-! ### zones: a place of our own -/
def Zp (Z : Zone) (p : Addr) : Zone := fun a => Z a ∨ a = p
section
variable {G : Wd} {W : WX} {X : Cx} {Z Z' : Zone} {H H' : Hp} {L L' : List Addr} {st st' : Sto} {p : Addr} {o : HO}
theorem Fw.zone (h : ∀ a, Z a → Z' a) (f : Fw Z' L st H L' st' H') : Fw Z L st H L' st' H' := ⟨f.pre, f.keep, f.there, fun a o z => f.zk a o (h a z), f.live⟩
theorem SRep.zone {Z Z' : Zone} {H : Hp} (h : ∀ a, Z' a → Z a) {s : S} {v : V} (r : SRep G Z H L s v) : SRep G Z' H L s v := by
  cases r with
  | p r => exact .p (r.zone h)
  | r e => exact .r e
  | x e1 e2 e3 e4 => exact .x e1 e2 (e3.zone h) (e4.mono fun a o e z => ⟨.of e, fun q => z (h a q)⟩)
theorem SRepF.zone {Z Z' : Zone} {H : Hp} (h : ∀ a, Z' a → Z a) : ∀ {fs : List (Str × S)} {vs : List (Str × V)}, SRepF G Z H L fs vs → SRepF G Z' H L fs vs
  | _, _, .nil => .nil
  | _, _, .cons r t => .cons (r.zone h) (SRepF.zone h t)
theorem RepK.zone {Z Z' : Zone} {H : Hp} (h : ∀ a, Z' a → Z a) {ds : List (D × D)} {vs : List (Key × V)} (r : RepK G Z H ds vs) : RepK G Z' H ds vs := r.mono fun a o e z => ⟨.of e, fun q => z (h a q)⟩
theorem RepT.zone {Z Z' : Zone} {H : Hp} (h : ∀ a, Z' a → Z a) {ds : List (D × D)} {vs : List (List Key × V)} (r : RepT G Z H ds vs) : RepT G Z' H ds vs := r.mono fun a o e z => ⟨.of e, fun q => z (h a q)⟩
theorem RepF.zone {Z Z' : Zone} {H : Hp} (h : ∀ a, Z' a → Z a) {ds : List (Str × D)} {vs : List (Str × V)} (r : RepF G Z H ds vs) : RepF G Z' H ds vs := r.mono fun a o e z => ⟨.of e, fun q => z (h a q)⟩
theorem OOk.zone {Z Z' : Zone} {H : Hp} (h : ∀ a, Z' a → Z a) {a : Addr} : ∀ {o : O}, OOk G Z H L a o → OOk G Z' H L a o
  | .lst ds, ⟨vs, e, r⟩ => ⟨vs, e, r.zone h⟩
  | .dic ds, ⟨vs, e, r⟩ => ⟨vs, e, r.zone h⟩
  | .diT ds, ⟨vs, e, r⟩ => ⟨vs, e, r.zone h⟩
  | .ins c fs, ⟨C, dx, vfs, hc, e, r⟩ => ⟨C, dx, vfs, hc, e, r.zone h⟩
  | .frz d, r => Rep.zone h r
  | .dead, _ => trivial
theorem zof_mono (h : ∀ a, Z a → Z' a) : ∀ a, Zof Z L st a → Zof Z' L st a := fun a z => z.elim (fun z => .inl (h a z)) .inr
theorem StOk.shrink (h : ∀ a, Z a → Z' a) (S : StOk G Z' L st H) : StOk G Z L st H :=
  ⟨S.len, S.nd, fun n a o e1 e2 => (S.obj n a o e1 e2).zone (zof_mono h), fun a z => S.z0 a (h a z), fun a m z => S.zl a m (h a z), S.lh, S.tb.zone (zof_mono h)⟩
/-- what leans on H alone leans on it beside a new place -/
theorem keeps_new (h : H p = none) : Keeps (Zof Z L st) (Zof (Zp Z p) L st) H (upd H p o) := fun a u e z => by
  have ne : a ≠ p := ne_of_none e h
  refine ⟨.of (by rw [upd_ne ne]; exact e), fun q => ?_⟩
  rcases q with (q | q) | q
  · exact z (.inl q)
  · exact ne q
  · exact z (.inr q)
theorem SRep.keeps (k : Keeps Z Z' H H') {s : S} {v : V} (h : SRep G Z H L s v) : SRep G Z' H' L s v := by
  cases h with
  | p r => exact .p (r.mono k)
  | r e => exact .r e
  | x e1 e2 e3 e4 => exact .x e1 e2 (e3.mono k) (e4.mono k)
theorem SRepF.keeps (k : Keeps Z Z' H H') : ∀ {fs : List (Str × S)} {vs : List (Str × V)}, SRepF G Z H L fs vs → SRepF G Z' H' L fs vs
  | _, _, .nil => .nil
  | _, _, .cons r t => .cons (r.keeps k) (SRepF.keeps k t)
theorem OOk.keeps (k : Keeps Z Z' H H') {a : Addr} (e : ∀ o, H a = some o → H' a = some o) : ∀ {o : O}, OOk G Z H L a o → OOk G Z' H' L a o
  | .lst ds, ⟨vs, h, r⟩ => ⟨vs, e _ h, r.mono k⟩
  | .dic ds, ⟨vs, h, r⟩ => ⟨vs, e _ h, r.mono k⟩
  | .diT ds, ⟨vs, h, r⟩ => ⟨vs, e _ h, r.mono k⟩
  | .ins c fs, ⟨C, dx, vfs, hc, h, r⟩ => ⟨C, dx, vfs, hc, e _ h, r.keeps k⟩
  | .frz d, r => Rep.mono k r
  | .dead, _ => trivial
theorem StOk.enter (S : StOk G Z L st H) (h : H p = none) : StOk G (Zp Z p) L st (upd H p o) := by
  refine ⟨S.len, S.nd, fun n a u e1 e2 => (S.obj n a u e1 e2).keeps (keeps_new h) fun o e => by rw [upd_ne (ne_of_none e h)]; exact e, fun a z => ?_, fun a m z => ?_, fun a m => some_of_same (same_new h) (S.lh a m), S.tb.mono fun a u q z => ⟨same_new h a u q, (keeps_new (o := o) h a u q z).2⟩⟩
  · rcases z with z | rfl
    · exact some_of_same (same_new h) (S.z0 a z)
    · rw [upd_same]; simp
  · rcases z with z | rfl
    · exact S.zl a m z
    · exact S.lh a m h
theorem EnvOk.enter {ρ : Env} {σ : St} (h : H p = none) (E : EnvOk G (Zof Z L st) H L ρ σ) : EnvOk G (Zof (Zp Z p) L st) (upd H p o) L ρ σ :=
  ⟨E.1, fun i s e => let ⟨v, e2, r⟩ := E.2 i s e; ⟨v, e2, r.keeps (keeps_new h)⟩⟩
/-- our own place is written -/
theorem keeps_own : Keeps (Zof (Zp Z p) L st) (Zof (Zp Z p) L st) H (upd H p o) := fun a u e z => by
  have ne : a ≠ p := fun q => z (.inl (.inr q))
  exact ⟨.of (by rw [upd_ne ne]; exact e), z⟩
theorem StOk.own (S : StOk G (Zp Z p) L st H) : StOk G (Zp Z p) L st (upd H p o) := by
  refine ⟨S.len, S.nd, fun n a u e1 e2 => (S.obj n a u e1 e2).keeps keeps_own fun o e => ?_, fun a z => ?_, S.zl, fun a m => ?_, S.tb.mono fun a u q z => ⟨by rw [upd_ne fun y => z (.inl (.inr y))]; exact q, z⟩⟩
  · have ne : a ≠ p := fun q => S.zl a (List.mem_of_getElem? e1) (.inr q)
    rw [upd_ne ne]; exact e
  · by_cases q : a = p
    · rw [q, upd_same]; simp
    · rw [upd_ne q]; exact S.z0 a z
  · by_cases q : a = p
    · rw [q, upd_same]; simp
    · rw [upd_ne q]; exact S.lh a m
theorem Fw.own {L0 : List Addr} {st0 : Sto} {H0 : Hp} (h : H0 p = none) (f : Fw Z L0 st0 H0 L st H) : Fw Z L0 st0 H0 L st (upd H p o) := by
  refine ⟨f.pre, fun a u e nl => ?_, fun a n => ?_, fun a u z e => ?_, f.live⟩
  · obtain ⟨o', h1, h2⟩ := f.keep a u e nl
    exact ⟨o', by rw [upd_ne (ne_of_none e h)]; exact h1, h2⟩
  · by_cases q : a = p
    · rw [q, upd_same]; simp
    · rw [upd_ne q]; exact f.there a n
  · rw [upd_ne (ne_of_none e h)]
    exact f.zk a u z e
/-- a thing of one's own, told as data -/
@[simp] def ePure (f : Env → Sto → Res O) : Den := fun ρ st => (f ρ st).bind fun o st => match thaw o with | some d => .ok d st | none => .stuck
theorem me_own {e : Expr} {f : Env → Sto → Res O} (h : MN G W X e f) : ME G W X e (ePure f) := PE.imp h fun σ H Q q => by
  obtain ⟨Z, ρ, st, L, S, q⟩ := q
  refine ⟨Z, ρ, st, L, S, ?_⟩
  cases ef : f ρ st with
  | stuck => simp only [ePure, ef, Res.bind] at q; exact q
  | exc c fs st1 => simp only [ePure, ef, Res.bind] at q; exact q
  | ok o st1 =>
    simp only [ePure, ef, Res.bind] at q
    intro p H1 L1 fn ok
    have o1 : StOk G Z L1 st1 H1 := fn.ok.shrink fun a z => .inl z
    have zp : ¬ Zof Z L1 st1 p := fun z => by
      rcases z with z | ⟨n, u, e1, _⟩
      · exact S.ok.z0 p z fn.new
      · exact fn.ok.zl p (List.mem_of_getElem? e1) (.inr rfl)
    have zz : ∀ a, Zof Z L1 st1 a → Zof (fun a => Z a ∨ a = p) L1 st1 a := zof_mono fun a z => .inl z
    cases o with
    | lst ds =>
      obtain ⟨vs, h1, h2⟩ := ok
      exact q _ H1 L1 fn.fr o1 (.lst (.inl h1) zp (h2.zone zz))
    | dic ds =>
      obtain ⟨kvs, h1, h2⟩ := ok
      exact q _ H1 L1 fn.fr o1 (.dK (.inl h1) zp (h2.zone zz))
    | diT ds =>
      obtain ⟨kvs, h1, h2⟩ := ok
      exact q _ H1 L1 fn.fr o1 (.dT (.inl h1) zp (h2.zone zz))
    | frz d => exact q _ H1 L1 fn.fr o1 (Rep.zone zz ok)
    | ins c fs => exact q.elim
    | dead => exact q.elim
end

/-! ### targets -/
abbrev GD := D → Env → Option Env
def wipeE (ρ : Env) : List Nat → Env
  | [] => ρ
  | v :: vs => (wipeE ρ vs).set v none
def GSim (G : Wd) (g : TG) (gm : GD) (vs : List Nat) : Prop := ∀ Z H L d v ρ σ ρ' Q, EnvOk G Z H L ρ σ → Rep G Z H d v → gm d ρ = some ρ' → (∀ σ', EnvOk G Z H L ρ' σ' → wipe σ' vs = wipe σ vs → Q σ' H) → g v σ H Q
def GsSim (G : Wd) (g : TGs) (gm : List D → Env → Option Env) (vs : List Nat) : Prop := ∀ Z H L d v ρ σ ρ' Q, EnvOk G Z H L ρ σ → Reps G Z H d v → gm d ρ = some ρ' → (∀ σ', EnvOk G Z H L ρ' σ' → wipe σ' vs = wipe σ vs → Q σ' H) → g v σ H Q
structure MG (G : Wd) (X : Cx) (tg : Expr) (gm : GD) (vs : List Nat) : Prop where
  ex : ∃ g, PG X tg g ∧ GSim G g gm vs
structure MGs (G : Wd) (X : Cx) (tgs : List Expr) (gm : List D → Env → Option Env) (vs : List Nat) : Prop where
  ex : ∃ g, PGs X tgs g ∧ GsSim G g gm vs
@[simp] def gN (i : Nat) : GD := fun d ρ => some (ρ.set i (some (.p d)))
@[simp] def gsNil : List D → Env → Option Env := fun ds ρ => match ds with | [] => some ρ | _ => none
@[simp] def gsCons (g : GD) (h : List D → Env → Option Env) : List D → Env → Option Env := fun ds ρ => match ds with | d :: r => (g d ρ).bind fun ρ => h r ρ | [] => none
@[simp] def gT (g : List D → Env → Option Env) (n : Nat) : GD := fun d ρ => match d with | .tup ds => if ds.length = n then g ds ρ else none | _ => none
section
variable {G : Wd} {W : WX} {X : Cx} {Z Z' : Zone} {H H' : Hp} {L L' : List Addr} {st st' : Sto} {pos : Pos}
theorem EnvOk.set {ρ : Env} {σ : St} {s : S} {v : V} (E : EnvOk G Z H L ρ σ) (i : Nat) (r : SRep G Z H L s v) : EnvOk G Z H L (ρ.set i (some s)) (σ.set i (some v)) := by
  refine ⟨by simpa using E.1, fun j t e => ?_⟩
  rcases getElem?_set_cases e with ⟨rfl, h1, hl⟩ | ⟨ne, h1⟩
  · cases h1
    exact ⟨v, List.getElem?_set_self (by rw [← E.1]; exact hl), r⟩
  · obtain ⟨v', e2, r2⟩ := E.2 j t h1
    exact ⟨v', by rw [List.getElem?_set_ne (Ne.symm ne)]; exact e2, r2⟩
theorem EnvOk.forget {ρ : Env} {σ : St} (E : EnvOk G Z H L ρ σ) (i : Nat) {x : Option V} : EnvOk G Z H L (ρ.set i none) (σ.set i x) := by
  refine ⟨by simpa using E.1, fun j t e => ?_⟩
  rcases getElem?_set_cases e with ⟨rfl, h1, hl⟩ | ⟨ne, h1⟩
  · cases h1
  · obtain ⟨v', e2, r2⟩ := E.2 j t h1
    exact ⟨v', by rw [List.getElem?_set_ne (Ne.symm ne)]; exact e2, r2⟩
theorem EnvOk.wipe {ρ : Env} {σ : St} (E : EnvOk G Z H L ρ σ) : ∀ vs : List Nat, EnvOk G Z H L (wipeE ρ vs) (L2.wipe σ vs)
  | [] => E
  | v :: vs => (EnvOk.wipe E vs).forget v
theorem wipe_set {σ : St} {i : Nat} {x : Option V} : ∀ {vs : List Nat}, i ∈ vs → L2.wipe (σ.set i x) vs = L2.wipe σ vs
  | v :: vs, h => by
    unfold L2.wipe
    by_cases q : i ∈ vs
    · rw [wipe_set q]
    · have e : i = v := by
        rcases List.mem_cons.mp h with e | e
        · exact e
        · exact absurd e q
      subst e
      have go : ∀ ws : List Nat, i ∉ ws → (L2.wipe (σ.set i x) ws).set i none = (L2.wipe σ ws).set i none := fun ws => by
        induction ws with
        | nil => intro _; unfold L2.wipe; rw [List.set_set]
        | cons w ws ih =>
          intro hn
          have h1 : i ≠ w := fun e => hn (by rw [e]; exact List.mem_cons_self)
          unfold L2.wipe
          rw [List.set_comm _ _ (Ne.symm h1), ih (fun q => hn (List.mem_cons_of_mem _ q)), List.set_comm _ _ h1]
      exact go vs q
theorem mg_name {x : Str} {vs : List Nat} (i : Nat) (hN : X.N.Nodup) (hi : X.N[i]? = some x := by rfl) (hv : i ∈ vs := by decide) (hx : Loc X.env.scope x := by first | exact .inl rfl | exact .inr rfl) (hf : X.fn x = true ∨ X.env.scope.names.lookup x = some .local := by first | exact .inl rfl | exact .inr rfl | assumption) :
    MG G X (.Name x pos) (gN i) vs := ⟨gName i, pg_name hN hi hx hf, fun Z H L d v ρ σ ρ' Q E r e q => by
  cases e
  exact q _ (E.set i (.p r)) (wipe_set hv)⟩
theorem mgs_nil {vs : List Nat} : MGs G X [] gsNil vs := ⟨gNil, pgs_nil, fun Z H L d v ρ σ ρ' Q E r e q => by
  cases r with
  | nil => cases e; exact ⟨rfl, q σ E rfl⟩
  | cons _ _ => cases e⟩
theorem mgs_cons {e : Expr} {es : List Expr} {g : GD} {h : List D → Env → Option Env} {vs : List Nat} (a : MG G X e g vs) (b : MGs G X es h vs) (hs : (assignEach (e :: es) X.env).map (·.2) = assign e X.env :: (assignEach es X.env).map (·.2) := by rfl) : MGs G X (e :: es) (gsCons g h) vs := by
  obtain ⟨ga, a1, a2⟩ := a.ex
  obtain ⟨gb, b1, b2⟩ := b.ex
  refine ⟨_, pgs_cons a1 b1 hs, fun Z H L d v ρ σ ρ' Q E r e q => ?_⟩
  cases r with
  | nil => cases e
  | cons r t =>
    obtain ⟨ρ1, e1, e2⟩ := Option.bind_eq_some_iff.mp e
    refine ⟨_, _, rfl, a2 _ _ _ _ _ _ _ ρ1 _ E r e1 fun σ1 E1 w1 => ?_⟩
    exact b2 _ _ _ _ _ _ _ ρ' _ E1 t e2 fun σ2 E2 w2 => q σ2 E2 (w2.trans w1)
theorem mg_tup {es : List Expr} {k : Nat} {g : List D → Env → Option Env} {vs : List Nat} {n : Nat} (hK : G.K = X.K) (hc : X.calm = true) (h : MGs G X es g vs) (hn : (assignEach es X.env).length = n := by rfl) (hst : (assignEach es X.env).findIdx? (·.1) = none := by rfl) : MG G X (.Tuple es k pos) (gT g n) vs := by
  obtain ⟨ga, a1, a2⟩ := h.ex
  refine ⟨_, pg_tup hc a1 hn hst, fun Z H L d v ρ σ ρ' Q E r e q => ?_⟩
  unfold gT at e
  split at e
  · split at e
    · rename_i ds hl
      obtain ⟨a, ws, rfl, ha, ra⟩ := r.tup'
      exact ⟨a, ws, rfl, hK ▸ ha, by rw [← ra.length]; exact hl, a2 _ _ _ _ _ _ _ ρ' _ E ra e q⟩
    · cases e
  · cases e
end

/-! ### what is walked -/
def Yields (G : Wd) (Z : Zone) (J : It) (items : List D) (L1 : List Addr) (st1 : Sto) (H1 : Hp) : Prop := ∀ i Z' L st H, (∀ a, Z' a → Z a ∨ H1 a = none) → Fw Z L1 st1 H1 L st H → StOk G Z' L st H →
  (items.length ≤ i → J.stop i H) ∧ ∀ d, items[i]? = some d → J.go i H ∧ ∀ x H', J.yld i H x H' → Same H H' ∧ Rep G (Zof Z' L st) H' d x
theorem Fw.keepsZ {Z Z' : Zone} {L1 L : List Addr} {st1 st : Sto} {H1 H : Hp} (f : Fw Z L1 st1 H1 L st H) (hz : ∀ a, Z' a → Z a ∨ H1 a = none) : Keeps (Zof Z L1 st1) (Zof Z' L st) H1 H := fun a u e z => by
  obtain ⟨h1, h2⟩ := f.keeps a u e z
  refine ⟨h1, fun q => ?_⟩
  rcases q with q | q
  · rcases hz a q with q | q
    · exact h2 (.inl q)
    · rw [e] at q; cases q
  · exact h2 (.inr q)
def PostI (G : Wd) (Z : Zone) (W : WX) (σ : St) (L : List Addr) (st : Sto) (H : Hp) (r : Res (List D)) (R : It → Hp → Prop) : Prop := match r with
  | .ok ds st' => ∀ J H' L', Fw Z L st H L' st' H' → StOk G Z L' st' H' → Yields G Z J ds L' st' H' → R J H'
  | .exc c fs st' => ExP G Z L st H c fs st' fun cv dd H' => W cv dd σ H'
  | .stuck => False
def tMI (G : Wd) (W : WX) (f : DenL) : TI := fun σ H R => ∃ Z ρ st L, Stt G Z ρ st L σ H ∧ PostI G Z W σ L st H (f ρ st) R
abbrev MI (G : Wd) (W : WX) (X : Cx) (tg e : Expr) (f : DenL) : Prop := PI X tg e (tMI G W f)
theorem PostI.bind {α β : Type} {G : Wd} {Z : Zone} {W : WX} {R : Zone → Hp → α → β → Prop} {σ : St} {L : List Addr} {st : Sto} {H : Hp} {r : Res α} {k : α → Sto → Res (List D)} {RI : It → Hp → Prop} {Q : β → Hp → Prop}
    (h : PostI G Z W σ L st H (r.bind k) RI)
    (hk : ∀ d st1 v H1 L1, r = .ok d st1 → Fw Z L st H L1 st1 H1 → StOk G Z L1 st1 H1 → R (Zof Z L1 st1) H1 d v → PostI G Z W σ L1 st1 H1 (k d st1) RI → Q v H1) : PostR G Z W R σ L st H r Q := by
  cases r with
  | ok d st1 =>
    intro v H1 L1 f o rv
    refine hk d st1 v H1 L1 rfl f o rv ?_
    have h' : PostI G Z W σ L st H (k d st1) RI := h
    revert h'
    cases k d st1 with
    | ok d2 st2 => exact fun h' J H2 L2 f2 o2 r2 => h' J H2 L2 (f.trans f2) o2 r2
    | exc c fs st2 => exact fun h' => ExP.on (P := fun cv dd H' => W cv dd σ H') f h'
    | stuck => exact fun h' => h'
  | exc c fs st1 => exact h
  | stuck => exact h
def signs : List Nat → List D
  | [] => [] | c :: r => .str ⟨#[c]⟩ :: signs r
theorem signs_len : ∀ l, (signs l).length = l.length
  | [] => rfl | _ :: r => congrArg (· + 1) (signs_len r)
theorem signs_get : ∀ (l : List Nat) (i : Nat), (signs l)[i]? = (l[i]?).map fun c => D.str ⟨#[c]⟩
  | [], i => by simp [signs]
  | c :: r, 0 => by simp [signs]
  | c :: r, i + 1 => by simp only [signs, List.getElem?_cons_succ]; exact signs_get r i
/-- the things of a list, a tuple, a text -/
def itemsOf : D → Option (List D)
  | .lst ds => some ds | .tup ds => some ds | .str z => some (signs z.cps.toList) | _ => none
@[simp] def iSeq (f : Den) : DenL := fun ρ st => (f ρ st).bind fun d st => match itemsOf d with | some ds => .ok ds st | none => .stuck
def rngL (lo : Int) : Nat → List D
  | 0 => [] | n + 1 => .int lo :: rngL (lo + 1) n
theorem rngL_len : ∀ (n : Nat) (lo : Int), (rngL lo n).length = n
  | 0, _ => rfl | n + 1, lo => congrArg (· + 1) (rngL_len n (lo + 1))
theorem rngL_get : ∀ (n : Nat) (lo : Int) (i : Nat), i < n → (rngL lo n)[i]? = some (.int (lo + i))
  | n + 1, lo, 0, _ => by simp [rngL]
  | n + 1, lo, i + 1, h => by
    simp only [rngL, List.getElem?_cons_succ]
    rw [rngL_get n (lo + 1) i (by omega)]
    congr 2
    omega
noncomputable def bigR (i : Int) : Bool := decide (-4611686018427387904 ≤ i) && decide (i < 4611686018427387904)
@[simp] noncomputable def iRange1 (f : Den) : DenL := fun ρ st => (f ρ st).bind fun d st => match d with | .int j => if bigR j = true then .ok (rngL 0 j.toNat) st else .stuck | _ => .stuck
@[simp] noncomputable def iRange2 (f h : Den) : DenL := fun ρ st => (f ρ st).bind fun d st => (h ρ st).bind fun e st => match d, e with | .int i, .int j => if (bigR i && bigR j) = true then .ok (rngL i (j - i).toNat) st else .stuck | _, _ => .stuck
def enumL (n : Nat) : List D → List D
  | [] => [] | d :: r => .tup [.int n, d] :: enumL (n + 1) r
theorem enumL_len : ∀ (l : List D) (n : Nat), (enumL n l).length = l.length
  | [], _ => rfl | _ :: r, n => congrArg (· + 1) (enumL_len r (n + 1))
theorem enumL_get : ∀ (l : List D) (n i : Nat) (d : D), l[i]? = some d → (enumL n l)[i]? = some (.tup [.int (n + i : Nat), d])
  | [], _, _, _, h => by simp at h
  | x :: r, n, 0, d, h => by simp at h; subst h; simp [enumL]
  | x :: r, n, i + 1, d, h => by
    simp only [enumL, List.getElem?_cons_succ]
    rw [enumL_get r (n + 1) i d (by simpa using h)]
    rw [show n + 1 + i = n + (i + 1) by omega]
def zipL : List D → List D → List D
  | a :: r, b :: s => .tup [a, b] :: zipL r s | _, _ => []
theorem zipL_get : ∀ (l m : List D) (i : Nat) (a b : D), l[i]? = some a → m[i]? = some b → (zipL l m)[i]? = some (.tup [a, b])
  | [], _, _, _, _, h, _ => by simp at h
  | _ :: _, [], _, _, _, _, h => by simp at h
  | x :: r, y :: s, 0, a, b, h, h' => by simp at h h'; subst h h'; simp [zipL]
  | x :: r, y :: s, i + 1, a, b, h, h' => by simp only [zipL, List.getElem?_cons_succ]; exact zipL_get r s i a b (by simpa using h) (by simpa using h')
theorem zipL_len : ∀ (l m : List D), (zipL l m).length = min l.length m.length
  | [], m => by simp [zipL]
  | _ :: _, [] => by simp [zipL]
  | x :: r, y :: s => by simp only [zipL, List.length_cons]; rw [zipL_len r s]; omega
theorem zipL_none {l m : List D} {i : Nat} {d : D} (h : (zipL l m)[i]? = some d) : ∃ a b, l[i]? = some a ∧ m[i]? = some b ∧ d = .tup [a, b] := by
  have hl := (List.getElem?_eq_some_iff.mp h).1
  rw [zipL_len] at hl
  have h1 : i < l.length := by omega
  have h2 : i < m.length := by omega
  have e1 := List.getElem?_eq_getElem h1
  have e2 := List.getElem?_eq_getElem h2
  rw [zipL_get l m i _ _ e1 e2] at h
  exact ⟨_, _, e1, e2, (Option.some.inj h).symm⟩
section
variable {G : Wd} {W : WX} {X : Cx} {Z Z' : Zone} {H H' : Hp} {L L' : List Addr} {st st' : Sto} {tg e : Expr} {pos : Pos}
theorem Rep.rdTup {ds : List D} {v : V} (h : Rep G Z H (.tup ds) v) : ∃ a vs, v = .ref a ∧ ((Rd H a (.tup vs) ∧ ¬ Z a) ∨ KTup G.K a vs) ∧ Reps G Z H ds vs := by
  cases h with
  | tup r z h => exact ⟨_, _, rfl, .inl ⟨r, z⟩, h⟩
  | tupK r h => exact ⟨_, _, rfl, .inr r, h⟩
theorem Rep.rdLst {ds : List D} {v : V} (h : Rep G Z H (.lst ds) v) : ∃ a vs, v = .ref a ∧ Rd H a (.lst vs) ∧ ¬ Z a ∧ Reps G Z H ds vs := by
  cases h with
  | lst r z h => exact ⟨_, _, rfl, r, z, h⟩
theorem tupOn {K : PySem.W.Frag} {a : Addr} {vs : List V} (k : Keeps Z Z' H H') (h : (Rd H a (.tup vs) ∧ ¬ Z a) ∨ KTup K a vs) : SqT K H' a vs := by
  rcases h with ⟨h, z⟩ | h
  · exact .inl (k.rd h z (.inr (.inl ⟨_, rfl⟩))).1
  · exact .inr h
/-- a value walked: list, tuple, text -/
def iAny (K : PySem.W.Frag) (te : TE) : TI := fun σ H R => te σ H fun x H1 => (∃ a, x = .ref a ∧ (∃ xs, SqL K H1 a xs) ∧ R (Itl K a) H1) ∨ (∃ a, x = .ref a ∧ (∃ xs, SqT K H1 a xs) ∧ R (Itt K a) H1) ∨ (∃ z, x = .str z ∧ R (Its z) H1)
theorem pi_any {te : TE} (he : PE X e te) : PI X tg e (iAny X.K te) := by
  refine ⟨fun pins s σ H R I h => ?_⟩
  refine thn (he.run pins s σ H _ I h) fun v s1 ⟨y, H1, I1, r1, q⟩ => ?_
  rcases q with ⟨a, ex, ⟨xs, hq⟩, q⟩ | ⟨a, ex, ⟨xs, hq⟩, q⟩ | ⟨x, ex, q⟩
  · subst ex
    cases r1
    obtain ⟨its, rv, p, hz⟩ := I1.list hq
    refine wpAny_pyIter_list p.isList ?_
    refine ⟨s1.heap.objs.size, [s1.heap.objs.size], _, _, H1, rfl, I1.kept (t' := s1.toks) fun b o e => Heap.get?_push_of_some _ e, turn_list a _, ⟨_, Heap.get?_push_size _ rfl, rfl, rfl⟩, fun b hb => ?_, q⟩
    have e : b = s1.heap.objs.size := by simpa using hb
    subst e
    exact I1.fpOk (Nat.le_refl _) (I1.hok.fresh (Nat.le_refl _))
  · subst ex
    cases r1
    obtain ⟨its, rv, p, hz⟩ := I1.tuple hq
    refine wpAny_pyIter_tuple (show s1.heap.IsTuple a its.toArray from p) ?_
    refine ⟨s1.heap.objs.size, [s1.heap.objs.size], _, _, H1, rfl, I1.kept (t' := s1.toks) fun b o e => Heap.get?_push_of_some _ e, turn_tuple a _, ⟨_, Heap.get?_push_size _ rfl, rfl, rfl⟩, fun b hb => ?_, q⟩
    have e : b = s1.heap.objs.size := by simpa using hb
    subst e
    exact I1.fpOk (Nat.le_refl _) (I1.hok.fresh (Nat.le_refl _))
  · subst ex
    obtain ⟨t, rfl⟩ := r1
    cases ha : x.cps.all (· < 128)
    · exact wpAny_pyIter_wide ha (pi_one (tk := s1.toks) I1 _ (turn_str _ x t "str_iterator" (.inr rfl)) ⟨_, Heap.get?_push_size _ rfl, rfl, rfl⟩ q)
    · exact wpAny_pyIter_ascii ha (pi_one (tk := s1.toks) I1 _ (turn_str _ x t "str_ascii_iterator" (.inl rfl)) ⟨_, Heap.get?_push_size _ rfl, rfl, rfl⟩ q)
theorem PI.imp {t t' : TI} (h : PI X tg e t) (i : ∀ σ H R, t' σ H R → t σ H R) : PI X tg e t' := ⟨fun pins s σ H R I q => h.run pins s σ H R I (i σ H R q)⟩
theorem mi_seq {f : Den} (hK : G.K = X.K) (he : ME G W X e f) : MI G W X tg e (iSeq f) := PI.imp (pi_any he) fun σ H R q => by
  obtain ⟨Z, ρ, st, L, S, q⟩ := q
  refine ⟨Z, ρ, st, L, S, PostI.bind q fun d st1 x H1 L1 e f1 o1 r1 q1 => ?_⟩
  unfold itemsOf at q1
  split at q1
  · rename_i ds hd
    split at hd
    · cases hd
      obtain ⟨a, vs, rfl, h1, hz, h2⟩ := r1.rdLst
      refine .inl ⟨a, rfl, ⟨vs, .inl h1⟩, q1 _ H1 L1 Fw.refl o1 fun i Z2 L2 st2 H2 hz2 f2 o2 => ?_⟩
      have hq : SqL X.K H2 a vs := .inl ((f2.keepsZ hz2).rd h1 hz (.inl ⟨_, rfl⟩)).1
      refine ⟨fun hi => ⟨vs, hq, by rw [← h2.length]; exact hi⟩, fun d hd => ?_⟩
      obtain ⟨v, hv, rv⟩ := h2.get hd
      refine ⟨⟨vs, v, hq, hv⟩, fun x H' hy => ?_⟩
      obtain ⟨rfl, hx⟩ := hy
      have := hx vs hq
      rw [hv] at this
      cases this
      exact ⟨Same.refl _, rv.mono (f2.keepsZ hz2)⟩
    · cases hd
      obtain ⟨a, vs, rfl, h1, h2⟩ := r1.rdTup
      refine .inr (.inl ⟨a, rfl, ⟨vs, hK ▸ tupOn (Fw.refl (Z := Z)).keeps h1⟩, q1 _ H1 L1 Fw.refl o1 fun i Z2 L2 st2 H2 hz2 f2 o2 => ?_⟩)
      have hq : SqT X.K H2 a vs := hK ▸ tupOn (f2.keepsZ hz2) h1
      refine ⟨fun hi => ⟨vs, hq, by rw [← h2.length]; exact hi⟩, fun d hd => ?_⟩
      obtain ⟨v, hv, rv⟩ := h2.get hd
      refine ⟨⟨vs, v, hq, hv⟩, fun x H' hy => ?_⟩
      obtain ⟨rfl, hx⟩ := hy
      have := hx vs hq
      rw [hv] at this
      cases this
      exact ⟨Same.refl _, rv.mono (f2.keepsZ hz2)⟩
    · rename_i z
      cases hd
      refine .inr (.inr ⟨z, r1.str', q1 _ H1 L1 Fw.refl o1 fun i Z2 L2 st2 H2 hz2 f2 o2 => ⟨fun hi => ?_, fun d hd => ?_⟩⟩)
      · rw [signs_len] at hi
        show z.cps.size ≤ i
        simpa using hi
      · rw [signs_get] at hd
        obtain ⟨c, hc, rfl⟩ := Option.map_eq_some_iff.mp hd
        have hc' : z.cps[i]? = some c := by simpa using hc
        refine ⟨?_, fun x H' hy => ?_⟩
        · exact (Array.getElem?_eq_some_iff.mp hc').1
        · obtain ⟨rfl, c2, h3, rfl⟩ := hy
          rw [hc'] at h3
          cases h3
          exact ⟨Same.refl _, .str _⟩
    · cases hd
  · exact q1.elim
theorem yields_range {lo : Int} {n : Nat} : Yields G Z (Itr lo n) (rngL lo n) L st H := fun i Z2 L2 st2 H2 hz2 f2 o2 => by
  refine ⟨fun hi => by rw [rngL_len] at hi; exact hi, fun d hd => ?_⟩
  have hl := (List.getElem?_eq_some_iff.mp hd).1
  rw [rngL_len] at hl
  rw [rngL_get n lo i hl] at hd
  cases hd
  refine ⟨hl, fun x H' hy => ?_⟩
  obtain ⟨rfl, rfl⟩ := hy
  exact ⟨Same.refl _, .int _⟩
theorem mi_range1 {a : Expr} {f : Den} {p : Pos} (hm : X.mg "range" = none) (ha : ME G W X a f) (hg : Gl X "range" := by rfl) (hs1 : starEach [a] X.env = (false, eval a X.env) :: starEach [] X.env := by rfl) (hs : starEach [a] X.env = [(false, eval a X.env)] := by rfl) :
    MI G W X tg (.Call (.Name "range" p) [a] [] pos) (iRange1 f) := PI.imp (pi_range1 hg hm (pa_cons ha pa_nil hs1) hs) fun σ H R q => by
  obtain ⟨Z, ρ, st, L, S, q⟩ := q
  refine ⟨Z, ρ, st, L, S, PostI.bind q fun d st1 x H1 L1 e f1 o1 r1 q1 => ?_⟩
  split at q1
  · rename_i j
    split at q1
    · rename_i hb
      unfold bigR at hb
      rw [Bool.and_eq_true, decide_eq_true_eq, decide_eq_true_eq] at hb
      rw [r1.int']
      exact ⟨j, rfl, by omega, by omega, q1 _ H1 L1 Fw.refl o1 yields_range⟩
    · exact q1.elim
  · exact q1.elim
theorem mi_range2 {a b : Expr} {f h : Den} {p : Pos} (hm : X.mg "range" = none) (ha : ME G W X a f) (hb : ME G W X b h) (hg : Gl X "range" := by rfl) (hs1 : starEach [a, b] X.env = (false, eval a X.env) :: starEach [b] X.env := by rfl) (hs3 : starEach [b] X.env = (false, eval b X.env) :: starEach [] X.env := by rfl) (hs : starEach [a, b] X.env = [(false, eval a X.env), (false, eval b X.env)] := by rfl) (hs2 : starEach [b] X.env = [(false, eval b X.env)] := by rfl) :
    MI G W X tg (.Call (.Name "range" p) [a, b] [] pos) (iRange2 f h) := PI.imp (pi_range2 hg hm (pa_cons ha (pa_cons hb pa_nil hs3) hs1) hs hs2) fun σ H R q => by
  obtain ⟨Z, ρ, st, L, S, q⟩ := q
  refine ⟨Z, ρ, st, L, S, PostI.bind q fun d st1 x H1 L1 e f1 o1 r1 q1 => ?_⟩
  refine ⟨Z, ρ, st1, L1, S.to f1 o1, PostI.bind q1 fun d2 st2 y H2 L2 e2 f2 o2 r2 q2 => ?_⟩
  split at q2
  · rename_i i j
    split at q2
    · rename_i hb
      unfold bigR at hb
      simp only [Bool.and_eq_true, decide_eq_true_eq] at hb
      rw [r1.int', r2.int']
      exact ⟨i, j, rfl, ⟨by omega, by omega, by omega, by omega⟩, q2 _ H2 L2 Fw.refl o2 yields_range⟩
    · exact q2.elim
  · exact q2.elim
@[simp] def iZip (f h : Den) : DenL := fun ρ st => (f ρ st).bind fun d st => (h ρ st).bind fun e st => match d, e with | .lst a, .lst b => .ok (zipL a b) st | .tup a, .tup b => .ok (zipL a b) st | _, _ => .stuck
theorem mi_zip {a b : Expr} {f h : Den} {p tpos : Pos} {elts : List Expr} {kk : Nat} (hK : G.K = X.K) (hm : X.mg "zip" = none) (ha : ME G W X a f) (hb : ME G W X b h) (hg : Gl X "zip" := by rfl) (hs1 : starEach [a, b] X.env = (false, eval a X.env) :: starEach [b] X.env := by rfl) (hs3 : starEach [b] X.env = (false, eval b X.env) :: starEach [] X.env := by rfl)
    (hpl : (backTo pos (starEach [b] X.env)).any (·.1) = false := by rfl) : MI G W X (.Tuple elts kk tpos) (.Call (.Name "zip" p) [a, b] [] pos) (iZip f h) := PI.imp (RZ.pi_zipA hg hm (pa_cons ha (pa_cons hb pa_nil hs3) hs1) hs1 hpl) fun σ H R q => by
  obtain ⟨Z, ρ, st, L, S, q⟩ := q
  refine ⟨Z, ρ, st, L, S, PostI.bind q fun d st1 x H1 L1 e f1 o1 r1 q1 => ?_⟩
  refine ⟨Z, ρ, st1, L1, S.to f1 o1, PostI.bind q1 fun d2 st2 y H2 L2 e2 f2 o2 r2 q2 => ?_⟩
  have r1 := r1.mono f2.keeps
  split at q2
  · rename_i xs ys
    obtain ⟨a, vs, rfl, h1, hz, h2⟩ := r1.rdLst
    obtain ⟨b, ws, rfl, g1, gz, g2⟩ := r2.rdLst
    refine ⟨a, b, vs, ws, rfl, .inl ⟨.inl h1, .inl g1, q2 _ H2 L2 Fw.refl o2 fun i Z3 L3 st3 H3 hz3 f3 o3 => ?_⟩⟩
    have hq : SqL X.K H3 a vs := .inl ((f3.keepsZ hz3).rd h1 hz (.inl ⟨_, rfl⟩)).1
    have gq : SqL X.K H3 b ws := .inl ((f3.keepsZ hz3).rd g1 gz (.inl ⟨_, rfl⟩)).1
    refine ⟨fun hi => ?_, fun d hd => ?_⟩
    · rw [zipL_len, h2.length, g2.length] at hi
      exact ⟨vs, ws, hq, gq, by omega⟩
    · obtain ⟨da, db, e1, e2, rfl⟩ := zipL_none hd
      obtain ⟨va, k1, k2⟩ := h2.get e1
      obtain ⟨vb, k3, k4⟩ := g2.get e2
      refine ⟨⟨vs, ws, va, vb, hq, gq, k1, k3⟩, fun x H' hy => ?_⟩
      obtain ⟨T, xa, xb, rfl, nT, rfl, j1, j2⟩ := hy
      have j1 := j1 vs hq
      have j2 := j2 ws gq
      rw [k1] at j1
      rw [k3] at j2
      cases j1
      cases j2
      exact ⟨same_new nT, new_tup o3.inn (.cons (k2.mono (f3.keepsZ hz3)) (.cons (k4.mono (f3.keepsZ hz3)) .nil)) nT⟩
  · rename_i xs ys
    obtain ⟨a, vs, rfl, h1, h2⟩ := r1.rdTup
    obtain ⟨b, ws, rfl, g1, g2⟩ := r2.rdTup
    refine ⟨a, b, vs, ws, rfl, .inr ⟨hK ▸ tupOn (Fw.refl (Z := Z)).keeps h1, hK ▸ tupOn (Fw.refl (Z := Z)).keeps g1, q2 _ H2 L2 Fw.refl o2 fun i Z3 L3 st3 H3 hz3 f3 o3 => ?_⟩⟩
    have hq : SqT X.K H3 a vs := hK ▸ tupOn (f3.keepsZ hz3) h1
    have gq : SqT X.K H3 b ws := hK ▸ tupOn (f3.keepsZ hz3) g1
    refine ⟨fun hi => ?_, fun d hd => ?_⟩
    · rw [zipL_len, h2.length, g2.length] at hi
      exact ⟨vs, ws, hq, gq, by omega⟩
    · obtain ⟨da, db, e1, e2, rfl⟩ := zipL_none hd
      obtain ⟨va, k1, k2⟩ := h2.get e1
      obtain ⟨vb, k3, k4⟩ := g2.get e2
      refine ⟨⟨vs, ws, va, vb, hq, gq, k1, k3⟩, fun x H' hy => ?_⟩
      obtain ⟨T, xa, xb, rfl, nT, rfl, j1, j2⟩ := hy
      have j1 := j1 vs hq
      have j2 := j2 ws gq
      rw [k1] at j1
      rw [k3] at j2
      cases j1
      cases j2
      exact ⟨same_new nT, new_tup o3.inn (.cons (k2.mono (f3.keepsZ hz3)) (.cons (k4.mono (f3.keepsZ hz3)) .nil)) nT⟩
  · exact q2.elim
end
end M
namespace M
open PySem PySem.Spec L2

/-! ### comprehensions -/
abbrev W0 : WX := fun _ _ _ _ => False
@[simp] def eYes : DenB := fun _ st => .ok true st
def compL (g : GD) (ft : DenB) (fe : Den) (ρ : Env) : List D → Sto → Res (List D)
  | [], st => .ok [] st
  | x :: xs, st => match g x ρ with
    | none => .stuck
    | some ρ1 => match ft ρ1 st with
      | .ok true st => (match fe ρ1 st with
        | .ok d st => (compL g ft fe ρ xs st).bind fun ds st => .ok (d :: ds) st
        | _ => .stuck)
      | .ok false st => compL g ft fe ρ xs st
      | _ => .stuck
@[simp] noncomputable def eComp (fi : DenL) (g : GD) (ft : DenB) (fe : Den) (vs : List Nat) : Env → Sto → Res O := fun ρ st => (fi ρ st).bind fun items st => if items.length ≤ sizeLine then (compL g ft fe (wipeE ρ vs) items st).bind fun ds st => .ok (.lst ds) st else .stuck
abbrev MTs (G : Wd) (W : WX) (X : Cx) (es : List Expr) (f : DenB) : Prop := PTs X es (tMB G W f)
section
variable {G : Wd} {W : WX} {X : Cx} {Z Z' : Zone} {H H' : Hp} {L L' : List Addr} {st st' : Sto} {tg e : Expr} {pos : Pos}
theorem PTs.imp {es : List Expr} {t t' : TT} (h : PTs X es t) (i : ∀ σ H Q, t' σ H Q → t σ H Q) : PTs X es t' := ⟨fun pins s σ H Q I q => h.run pins s σ H Q I (i σ H Q q)⟩
theorem mts_nil : MTs G W X [] eYes := PTs.imp pts_nil fun σ H Q q => by
  obtain ⟨Z, ρ, st, L, S, q⟩ := q
  exact PostR.pure (W := W) (R := RB) S.ok q rfl
theorem mts_one {c : Expr} {f : DenB} (h : MT G W X c f) : MTs G W X [c] f := pts_one h
theorem wipe_get (σ : St) (i : Nat) : ∀ vs : List Nat, (wipe σ vs)[i]? = if i ∈ vs ∧ i < σ.length then some none else σ[i]?
  | [] => by simp [wipe]
  | v :: vs => by
    unfold wipe
    by_cases e : i = v
    · subst e
      by_cases hl : i < σ.length
      · rw [List.getElem?_set_self (by rw [wipe_length]; exact hl), if_pos ⟨List.mem_cons_self, hl⟩]
      · rw [List.getElem?_eq_none (by rw [List.length_set, wipe_length]; omega), if_neg (fun q => hl q.2), List.getElem?_eq_none (by omega)]
    · rw [List.getElem?_set_ne (Ne.symm e), wipe_get σ i vs]
      have : (i ∈ v :: vs) ↔ i ∈ vs := ⟨fun q => (List.mem_cons.mp q).resolve_left e, List.mem_cons_of_mem _⟩
      simp only [this]
theorem wipe_wipe (σ : St) (vs : List Nat) : wipe (wipe σ vs) vs = wipe σ vs := by
  apply List.ext_getElem?
  intro i
  rw [wipe_get (wipe σ vs) i vs, wipe_get σ i vs, wipe_length]
  split <;> rfl
/-- the state of a comprehension between two turns -/
structure CInv (G : Wd) (Z : Zone) (p : Addr) (L1 : List Addr) (st1 : Sto) (H1 : Hp) (items : List D) (i : Nat) (acc : List D) (L' : List Addr) (st' : Sto) (H' : Hp) : Prop where
  le : i ≤ items.length
  fw : Fw Z L1 st1 H1 L' st' H'
  ok : StOk G (Zp Z p) L' st' H'
  at_ : ∃ vs, H' p = some (.lst vs) ∧ Reps G (Zof (Zp Z p) L' st') H' acc vs
  len : acc.length ≤ i
theorem comp_core {fi : DenL} {gm : GD} {g : TG} {ft : DenB} {fe : Den} {vs : List Nat} (hg : GSim G g gm vs) {σ : St} {H : Hp} {Q : VK} (q : tMN G W (eComp fi gm ft fe vs) σ H Q) : tLc (tMI G W fi) g (tMB G W0 ft) (tM G W0 fe) vs σ H Q := by
  obtain ⟨Z, ρ, st, L, S, q⟩ := q
  refine ⟨Z, ρ, st, L, S, ?_⟩
  have qq : match fi ρ st with
    | .ok items st1 => (match (if items.length ≤ sizeLine then (compL gm ft fe (wipeE ρ vs) items st1).bind fun ds st => .ok (.lst ds) st else .stuck : Res O) with
      | .ok o st' => ∀ p H' L', FwN G Z L st H L' st' H' p → OOk G (Zof (fun a => Z a ∨ a = p) L' st') H' L' p o → Q (.ref p) H'
      | .exc c fs st' => ExP G Z L st H c fs st' fun cv dd H' => W cv dd σ H'
      | .stuck => False)
    | .exc c fs st' => ExP G Z L st H c fs st' fun cv dd H' => W cv dd σ H'
    | .stuck => False := by
    revert q
    unfold eComp
    cases fi ρ st <;> exact fun q => q
  clear q
  revert qq
  cases ei : fi ρ st with
  | stuck => exact fun q => q
  | exc c fs st1 => exact fun q => q
  | ok items st1 =>
    intro q J H1 L1 f1 o1 hy p hp
    have q : match (if items.length ≤ sizeLine then (compL gm ft fe (wipeE ρ vs) items st1).bind fun ds st => .ok (.lst ds) st else .stuck : Res O) with
      | .ok o st' => ∀ p H' L', FwN G Z L st H L' st' H' p → OOk G (Zof (fun a => Z a ∨ a = p) L' st') H' L' p o → Q (.ref p) H'
      | .exc c fs st' => ExP G Z L st H c fs st' fun cv dd H' => W cv dd σ H'
      | .stuck => False := q
    by_cases hz : items.length ≤ sizeLine
    · rw [if_pos hz] at q
      have S1 := S.to f1 o1
      obtain ⟨C, hC0⟩ : ∃ C, compL gm ft fe (wipeE ρ vs) items st1 = C := ⟨_, rfl⟩
      rw [hC0] at q
      have noExc : ∀ (items : List D) (st : Sto) c fs st', compL gm ft fe (wipeE ρ vs) items st ≠ .exc c fs st' := by
        intro items
        induction items with
        | nil => intro st c fs st' h; cases h
        | cons d r ih =>
          intro st c fs st' h
          unfold compL at h
          split at h
          · cases h
          · split at h
            · split at h
              · rename_i d2 st2 _
                cases hr : compL gm ft fe (wipeE ρ vs) r st2 with
                | ok ds st3 => rw [hr] at h; cases h
                | exc c2 fs2 st3 => exact ih _ _ _ _ hr
                | stuck => rw [hr] at h; cases h
              · cases h
            · exact ih _ _ _ _ h
            · cases h
      cases hC1 : C with
      | stuck => rw [hC1] at q; exact q.elim
      | exc c fs st' => exact absurd (hC0.trans hC1) (noExc _ _ _ _ _)
      | ok all stE =>
      rw [hC1] at q hC0
      have q : ∀ p H' L', FwN G Z L st H L' stE H' p → OOk G (Zof (fun a => Z a ∨ a = p) L' stE) H' L' p (.lst all) → Q (.ref p) H' := q
      refine ⟨fun i m H' => ∃ acc L' st', m = items.length - i ∧ CInv G Z p L1 st1 H1 items i acc L' st' H' ∧ (compL gm ft fe (wipeE ρ vs) (items.drop i) st').bind (fun ds st => .ok (acc ++ ds) st) = .ok all stE, ⟨items.length, [], L1, st1, by simp, ⟨Nat.zero_le _, Fw.same (same_new hp), o1.enter hp, ⟨[], upd_same, .nil⟩, Nat.le_refl _⟩, ?_⟩, ?_⟩
      · rw [List.drop_zero, hC0]
        rfl
      · rintro i m H' ⟨acc, L', st', rfl, I, hC⟩
        have hzz : ∀ a, Zp Z p a → Z a ∨ H1 a = none := fun a z => z.elim .inl fun e => .inr (by rw [e]; exact hp)
        obtain ⟨ys, yi⟩ := hy i (Zp Z p) L' st' H' hzz I.fw I.ok
        by_cases hi : i < items.length
        · obtain ⟨d, hd⟩ : ∃ d, items[i]? = some d := ⟨_, List.getElem?_eq_getElem hi⟩
          obtain ⟨go, hyl⟩ := yi d hd
          have hdrop : items.drop i = d :: items.drop (i + 1) := by
            rw [List.drop_eq_getElem_cons hi]
            rw [List.getElem?_eq_getElem hi] at hd
            cases hd
            rfl
          rw [hdrop] at hC
          unfold compL at hC
          refine .inr ⟨go, fun H2 => ∃ acc L' st', CInv G Z p L1 st1 H1 items (i + 1) acc L' st' H2 ∧ (compL gm ft fe (wipeE ρ vs) (items.drop (i + 1)) st').bind (fun ds st => .ok (acc ++ ds) st) = .ok all stE, fun H2 ⟨acc, L', st', I2, h2⟩ => ⟨_, by omega, acc, L', st', rfl, I2, h2⟩, fun x H2 hyx => ?_⟩
          obtain ⟨sm, rx⟩ := hyl x H2 hyx
          have k2 : Keeps (Zof (Zp Z p) L' st') (Zof (Zp Z p) L' st') H' H2 := Same.keeps sm
          have ok2 : StOk G (Zp Z p) L' st' H2 := I.ok.same sm
          have fw2 : Fw Z L1 st1 H1 L' st' H2 := I.fw.trans (Fw.same sm)
          have E2 : EnvOk G (Zof (Zp Z p) L' st') H2 L' (wipeE ρ vs) (wipe σ vs) := by
            have a2 : EnvOk G (Zof (Zp Z p) L' st') H2 L' ρ σ := ⟨S1.env.1, fun i s e => by
              obtain ⟨v, e2, r⟩ := S1.env.2 i s e
              refine ⟨v, e2, ?_⟩
              cases r with
              | p r => exact .p (r.mono (fw2.keepsZ hzz))
              | r e3 => exact .r (I.fw.get e3)
              | x y1 y2 y3 y4 => exact .x y1 y2 (y3.mono (fw2.keepsZ hzz)) (y4.mono (fw2.keepsZ hzz))⟩
            exact a2.wipe vs
          cases eg : gm d (wipeE ρ vs) with
          | none => rw [eg] at hC; cases hC
          | some ρ1 =>
            rw [eg] at hC
            refine hg _ _ _ _ _ _ _ ρ1 _ E2 rx eg fun σ2 E3 w2 => ⟨w2.trans (wipe_wipe σ vs), Zp Z p, ρ1, st', L', ⟨ok2, E3⟩, ?_⟩
            have hC : (match ft ρ1 st' with
              | .ok true st => (match fe ρ1 st with
                | .ok d st => (compL gm ft fe (wipeE ρ vs) (items.drop (i + 1)) st).bind fun ds st => .ok (d :: ds) st
                | _ => .stuck)
              | .ok false st => compL gm ft fe (wipeE ρ vs) (items.drop (i + 1)) st
              | _ => .stuck : Res (List D)).bind (fun ds st => .ok (acc ++ ds) st) = .ok all stE := hC
            cases et : ft ρ1 st' with
            | stuck => rw [et] at hC; cases hC
            | exc c fs st3 => rw [et] at hC; cases hC
            | ok b st3 =>
              rw [et] at hC
              intro b' H3 L3 f3 o3 rb
              have rb : b = b' := rb
              subst rb
              have fw3 : Fw Z L1 st1 H1 L3 st3 H3 := fw2.trans (f3.zone fun a z => .inl z)
              obtain ⟨ws, hw, rw_⟩ := I.at_
              have hw3 : H3 p = some (.lst ws) := f3.zk p _ (.inr rfl) (sm _ _ hw)
              have rw3 := (rw_.mono k2).mono f3.keeps
              cases b with
              | false =>
                exact ⟨acc, L3, st3, ⟨hi, fw3, o3, ⟨ws, hw3, rw3⟩, Nat.le_succ_of_le I.len⟩, hC⟩
              | true =>
                refine ⟨Zp Z p, ρ1, st3, L3, ⟨o3, E3.mono f3⟩, ?_⟩
                have hC : (match fe ρ1 st3 with
                  | .ok d st => (compL gm ft fe (wipeE ρ vs) (items.drop (i + 1)) st).bind fun ds st => .ok (d :: ds) st
                  | _ => .stuck : Res (List D)).bind (fun ds st => .ok (acc ++ ds) st) = .ok all stE := hC
                cases ee : fe ρ1 st3 with
                | stuck => rw [ee] at hC; cases hC
                | exc c fs st4 => rw [ee] at hC; cases hC
                | ok y st4 =>
                  rw [ee] at hC
                  intro v H4 L4 f4 o4 ry
                  have fw4 : Fw Z L1 st1 H1 L4 st4 H4 := fw3.trans (f4.zone fun a z => .inl z)
                  have hw4 : H4 p = some (.lst ws) := f4.zk p _ (.inr rfl) hw3
                  have rw4 := rw3.mono f4.keeps
                  have hl := rw4.length
                  refine ⟨ws, hw4, by have := I.len; omega, acc ++ [y], L4, st4, ⟨hi, Fw.own hp fw4, o4.own, ⟨ws ++ [v], upd_same, (rw4.append (.cons ry .nil)).mono keeps_own⟩, ?_⟩, ?_⟩
                  · rw [List.length_append, List.length_singleton]
                    have := I.len; omega
                  · have hC : ((compL gm ft fe (wipeE ρ vs) (items.drop (i + 1)) st4).bind fun ds st => .ok (y :: ds) st).bind (fun ds st => .ok (acc ++ ds) st) = .ok all stE := hC
                    rw [← hC]
                    cases compL gm ft fe (wipeE ρ vs) (items.drop (i + 1)) st4 with
                    | ok ds st5 => simp only [Res.bind, List.append_assoc, List.singleton_append]
                    | exc c fs st5 => rfl
                    | stuck => rfl
        · have e : i = items.length := by have := I.le; omega
          subst e
          rw [List.drop_length] at hC
          have hC : Res.ok (acc ++ []) st' = .ok all stE := hC
          rw [List.append_nil] at hC
          cases hC
          refine .inl ⟨ys (Nat.le_refl _), q p H' L' ⟨f1.trans I.fw, I.ok, ?_⟩ I.at_⟩
          cases qh : H p with
          | none => rfl
          | some o => exact absurd hp (f1.there p (by rw [qh]; simp))
    · rw [if_neg hz] at q
      exact q.elim
/-- [elt for tg in iter if ..] -/
theorem mn_comp {elt iter : Expr} {ifs : List Expr} {scope : Scope} {own : List (Str × Nat)} {fi : DenL} {gm : GD} {ft : DenB} {fe : Den} {g : TG} (hc : X.calm = true) (hN : X.N.Nodup) (hi : MI G W X tg iter fi) (ok : BlkOk X.N X.env.scope scope own) (hsim : GSim G g gm (own.map (·.2)))
    (hg : ∀ (s : Shared) (H : Hp) (C : Addr) (cl : List (Str × Addr)) (fp : List Addr), PG (X.blk s H scope (compEnvC scope cl C X.env) fp) tg g) (ht : ∀ (s : Shared) (H : Hp) (C : Addr) (cl : List (Str × Addr)) (fp : List Addr), MTs G W0 (X.blk s H scope (compEnvC scope cl C X.env) fp) ifs ft)
    (he : ∀ (s : Shared) (H : Hp) (C : Addr) (cl : List (Str × Addr)) (fp : List Addr), ME G W0 (X.blk s H scope (compEnvC scope cl C X.env) fp) elt fe) (hs : ∀ x, foldedSetIterable iter X.env x = pure x := by intro _; rfl) :
    MN G W X (.ListComp elt [⟨tg, iter, ifs, 0⟩] scope pos) (eComp fi gm ft fe (own.map (·.2))) :=
  PE.imp (pe_lc hc hN hi ok hg ht he hs) fun σ H Q q => comp_core hsim q
end
end M
namespace M
open PySem PySem.Spec L2

/-! ### statements -/
@[simp] def sNil : SDen := fun ρ st => .next ρ st
@[simp] def sSeq (f h : SDen) : SDen := fun ρ st => match f ρ st with | .next ρ st => h ρ st | r => r
/-- an expression's value handed to a statement's end -/
@[simp] def sOf {α : Type} (f : Env → Sto → Res α) (k : α → Env → Sto → SRes) : SDen := fun ρ st => match f ρ st with | .ok d st => k d ρ st | .exc c fs st => .exc c fs ρ st | .stuck => .stuck
@[simp] def sSet (i : Nat) (f : Den) : SDen := fun ρ st => sOf f (fun d ρ st => .next (ρ.set i (some (.p d))) st) ρ st
@[simp] def sNew (i : Nat) (f : Env → Sto → Res O) : SDen := fun ρ st => sOf f (fun o ρ st => .next (ρ.set i (some (.r st.length))) (st ++ [o])) ρ st
@[simp] def sExpr (f : Den) : SDen := fun ρ st => sOf f (fun _ ρ st => .next ρ st) ρ st
@[simp] def sRet (f : Den) : SDen := fun ρ st => sOf f (fun d ρ st => .ret d st) ρ st
@[simp] def sRetN : SDen := fun _ st => .ret .non st
@[simp] def sIf (c : DenB) (a b : SDen) : SDen := fun ρ st => sOf c (fun k ρ st => if k = true then a ρ st else b ρ st) ρ st
@[simp] def sAsg (g : GD) (f : Den) : SDen := fun ρ st => sOf f (fun d ρ st => match g d ρ with | some ρ => .next ρ st | none => .stuck) ρ st
@[simp] def sBreak : SDen := fun ρ st => .brk ρ st
@[simp] def sCont : SDen := fun ρ st => .cont ρ st
@[simp] def sNever : SDen := fun _ _ => .stuck
def forL (g : GD) (fb : SDen) : List D → Env → Sto → SRes
  | [], ρ, st => .next ρ st
  | x :: xs, ρ, st => match g x ρ with
    | none => .stuck
    | some ρ1 => match fb ρ1 st with
      | .next ρ st => forL g fb xs ρ st
      | .cont ρ st => forL g fb xs ρ st
      | .brk ρ st => .next ρ st
      | r => r
@[simp] def sFor (fi : DenL) (g : GD) (fb : SDen) : SDen := fun ρ st => sOf fi (fun ds ρ st => forL g fb ds ρ st) ρ st
def whileL (fc : DenB) (fb : SDen) : Nat → Env → Sto → SRes
  | 0, _, _ => .stuck
  | n + 1, ρ, st => match fc ρ st with
    | .ok true st => (match fb ρ st with
      | .next ρ st => whileL fc fb n ρ st
      | .cont ρ st => whileL fc fb n ρ st
      | .brk ρ st => .next ρ st
      | r => r)
    | .ok false st => .next ρ st
    | .exc c fs st => .exc c fs ρ st
    | .stuck => .stuck
@[simp] def sWhile (n : Nat) (fc : DenB) (fb : SDen) : SDen := fun ρ st => whileL fc fb n ρ st
section
variable {G : Wd} {W : WX} {X : Cx} {Z Z' : Zone} {H H' : Hp} {L L' : List Addr} {st st' : Sto} {tg e : Expr} {pos : Pos}
theorem PostS.on {r : SRes} {E : Ends} (f : Fw Z L st H L' st' H') (h : PostS G Z W L st H r E) : PostS G Z W L' st' H' r E := by
  cases r with
  | next ρ s => exact fun σ' H2 L2 g S => h σ' H2 L2 (f.trans g) S
  | ret d s => exact fun v H2 L2 g o r => h v H2 L2 (f.trans g) o r
  | brk ρ s => exact fun σ' H2 L2 g S => h σ' H2 L2 (f.trans g) S
  | cont ρ s => exact fun σ' H2 L2 g S => h σ' H2 L2 (f.trans g) S
  | exc c fs ρ s => exact fun σ' H2 L2 C dd vfs g S => h σ' H2 L2 C dd vfs (f.trans g) S
  | stuck => exact h
theorem PostR.bindS {α β : Type} {R : Zone → Hp → α → β → Prop} {σ : St} {ρ : Env} {r : Res α} {k : α → Sto → SRes} {E : Ends} {Q : β → Hp → Prop} (S : Stt G Z ρ st L σ H)
    (h : PostS G Z W L st H (match r with | .ok d st => k d st | .exc c fs st => .exc c fs ρ st | .stuck => .stuck) E)
    (hk : ∀ d st1 v H1 L1, r = .ok d st1 → Fw Z L st H L1 st1 H1 → Stt G Z ρ st1 L1 σ H1 → R (Zof Z L1 st1) H1 d v → PostS G Z W L1 st1 H1 (k d st1) E → Q v H1) : PostR G Z W R σ L st H r Q := by
  cases r with
  | ok d st1 => exact fun v H1 L1 f o rv => hk d st1 v H1 L1 rfl f (S.to f o) rv (PostS.on f h)
  | exc c fs st1 => exact fun H' L' C dd vfs f o hC hd hr => h σ H' L' C dd vfs f (S.to f o) hC hd hr
  | stuck => exact h
theorem mss_nil : MSs G W X [] sNil := PSs.imp pss_nil fun E σ H q => by
  obtain ⟨Z, ρ, st, L, S, q⟩ := q
  exact q σ H L Fw.refl S
theorem seqS {f h : SDen} {σ : St} {H : Hp} {E : Ends} (q : tMS G W (sSeq f h) E σ H) : tMS G W f { E with nx := tMS G W h E } σ H := by
  obtain ⟨Z, ρ, st, L, S, q⟩ := q
  refine ⟨Z, ρ, st, L, S, ?_⟩
  unfold sSeq at q
  revert q
  cases f ρ st with
  | next ρ1 st1 => exact fun q σ1 H1 L1 f1 S1 => ⟨Z, ρ1, st1, L1, S1, PostS.on f1 q⟩
  | ret d s => exact fun q => q
  | brk ρ s => exact fun q => q
  | cont ρ s => exact fun q => q
  | exc c fs ρ s => exact fun q => q
  | stuck => exact fun q => q
theorem mss_cons {s : Stmt} {r : List Stmt} {f h : SDen} (h1 : MS G W X s f) (h2 : MSs G W X r h) : MSs G W X (s :: r) (sSeq f h) := PSs.imp (pss_cons h1 h2) fun E σ H q => seqS q
theorem mss_one {s : Stmt} {f : SDen} (h1 : MS G W X s f) : MSs G W X [s] f := pss_one h1
theorem ms_pass : MS G W X (.Pass pos) sNil := PS.imp ps_pass fun E σ H q => by
  obtain ⟨Z, ρ, st, L, S, q⟩ := q
  exact q σ H L Fw.refl S
theorem ms_doc {x j p2} : MS G W X (.Expr (.Constant (.str x) j p2) pos) sNil := PS.imp ps_doc fun E σ H q => by
  obtain ⟨Z, ρ, st, L, S, q⟩ := q
  exact q σ H L Fw.refl S
theorem ms_break : MS G W X (.Break pos) sBreak := PS.imp ps_break fun E σ H q => by
  obtain ⟨Z, ρ, st, L, S, q⟩ := q
  exact q σ H L Fw.refl S
theorem ms_cont : MS G W X (.Continue pos) sCont := PS.imp ps_continue fun E σ H q => by
  obtain ⟨Z, ρ, st, L, S, q⟩ := q
  exact q σ H L Fw.refl S
theorem ms_never {s : Stmt} : MS G W X s sNever := PS.imp ps_never fun E σ H q => by
  obtain ⟨Z, ρ, st, L, S, q⟩ := q
  exact q
theorem ms_ret {f : Den} (h : ME G W X e f) : MS G W X (.Return (some e) pos) (sRet f) := PS.imp (ps_ret h) fun E σ H q => by
  obtain ⟨Z, ρ, st, L, S, q⟩ := q
  exact ⟨Z, ρ, st, L, S, PostR.bindS S q fun d st1 v H1 L1 e1 f1 S1 r1 q1 => q1 v H1 L1 Fw.refl S1.ok r1⟩
theorem ms_retN : MS G W X (.Return none pos) sRetN := PS.imp ps_retN fun E σ H q => by
  obtain ⟨Z, ρ, st, L, S, q⟩ := q
  exact q _ H L Fw.refl S.ok .non
theorem ms_expr {f : Den} (h : ME G W X e f) (hs : swapsWith e none pos.line X.env = pure false := by rfl) : MS G W X (.Expr e pos) (sExpr f) := PS.imp (ps_expr h hs) fun E σ H q => by
  obtain ⟨Z, ρ, st, L, S, q⟩ := q
  exact ⟨Z, ρ, st, L, S, PostR.bindS S q fun d st1 v H1 L1 e1 f1 S1 r1 q1 => q1 σ H1 L1 Fw.refl S1⟩
theorem ms_if {c : Expr} {a b : List Stmt} {fc : DenB} {f h : SDen} (hc : MT G W X c fc) (ha : MSs G W X a f) (hb : MSs G W X b h) : MS G W X (.If c a b pos) (sIf fc f h) := PS.imp (ps_if hc ha hb) fun E σ H q => by
  obtain ⟨Z, ρ, st, L, S, q⟩ := q
  refine ⟨Z, ρ, st, L, S, PostR.bindS S q fun d st1 v H1 L1 e1 f1 S1 r1 q1 => ?_⟩
  have r1 : d = v := r1
  subst r1
  cases d with
  | true => exact ⟨Z, ρ, st1, L1, S1, q1⟩
  | false => exact ⟨Z, ρ, st1, L1, S1, q1⟩
theorem ms_set {x : Str} {p2 : Pos} {f : Den} (i : Nat) (hN : X.N.Nodup) (h : ME G W X e f) (hi : X.N[i]? = some x := by rfl) (hx : Loc X.env.scope x := by first | exact .inl rfl | exact .inr rfl) (hs : swapsWith e (some (.Name x p2)) pos.line X.env = pure false := by rfl) (hf : X.fn x = true ∨ X.env.scope.names.lookup x = some .local := by first | exact .inl rfl | exact .inr rfl | assumption) :
    MS G W X (.Assign [.Name x p2] e pos) (sSet i f) := PS.imp (ps_set hN hi hx h hs hf) fun E σ H q => by
  obtain ⟨Z, ρ, st, L, S, q⟩ := q
  exact ⟨Z, ρ, st, L, S, PostR.bindS S q fun d st1 v H1 L1 e1 f1 S1 r1 q1 => q1 _ H1 L1 Fw.refl ⟨S1.ok, S1.env.set i (.p r1)⟩⟩
/-- a new thing of one's own comes into the store -/
theorem alloc {σ : St} {ρ : Env} {L0 : List Addr} {st0 : Sto} {H0 : Hp} {o : O} {p : Addr} (SS : Stt G Z ρ st0 L0 σ H0) (f : FwN G Z L0 st0 H0 L st H p) (ok : OOk G (Zof (fun a => Z a ∨ a = p) L st) H L p o) :
    Fw Z L0 st0 H0 (L ++ [p]) (st ++ [o]) H ∧ StOk G Z (L ++ [p]) (st ++ [o]) H ∧ EnvOk G (Zof Z (L ++ [p]) (st ++ [o])) H (L ++ [p]) ρ σ := by
  have hlen := f.ok.len
  have pz : ¬ Z p := fun z => SS.ok.z0 p z f.new
  have pl : p ∉ L := fun m => f.ok.zl p m (.inr rfl)
  have hp : H p ≠ none := f.ok.z0 p (.inr rfl)
  have fw : Fw Z L0 st0 H0 (L ++ [p]) (st ++ [o]) H := by
    refine ⟨?_, f.fr.keep, f.fr.there, f.fr.zk, fun n o' hn e l => ?_⟩
    · obtain ⟨M, rfl, hM⟩ := f.fr.pre
      refine ⟨M ++ [p], by simp, fun a ha => ?_⟩
      rcases List.mem_append.mp ha with ha | ha
      · exact hM a ha
      · rw [List.mem_singleton.mp ha]; exact f.new
    · have hn' : n < st.length := by
        obtain ⟨M, rfl, hM⟩ := f.fr.pre
        rw [← hlen, List.length_append]; omega
      rw [List.getElem?_append_left hn'] at e
      exact f.fr.live n o' hn e l
  have zz : ∀ a, Zof Z (L ++ [p]) (st ++ [o]) a → Zof (fun a => Z a ∨ a = p) L st a := fun a z => by
    rcases z with z | ⟨n, u, e1, e2, l⟩
    · exact .inl (.inl z)
    · by_cases hn : n < L.length
      · rw [List.getElem?_append_left hn] at e1
        rw [List.getElem?_append_left (by omega)] at e2
        exact .inr ⟨n, u, e1, e2, l⟩
      · rw [List.getElem?_append_right (by omega)] at e1
        have : n - L.length = 0 := by
          obtain ⟨h, _⟩ := List.getElem?_eq_some_iff.mp e1
          simpa using h
        rw [this] at e1
        exact .inl (.inr (by simpa using e1.symm))
  have up : ∀ {s : S} {v : V}, SRep G (Zof (fun a => Z a ∨ a = p) L st) H L s v → SRep G (Zof Z (L ++ [p]) (st ++ [o])) H (L ++ [p]) s v := fun {s v} r => by
    cases r with
    | p r => exact .p (r.zone zz)
    | r e => exact .r (by rw [List.getElem?_append_left (List.getElem?_eq_some_iff.mp e).1]; exact e)
    | x e1 e2 e3 e4 => exact .x e1 e2 (e3.zone zz) (e4.mono fun a o e z => ⟨.of e, fun q => z (zz a q)⟩)
  have upF : ∀ {fs : List (Str × S)} {vs : List (Str × V)}, SRepF G (Zof (fun a => Z a ∨ a = p) L st) H L fs vs → SRepF G (Zof Z (L ++ [p]) (st ++ [o])) H (L ++ [p]) fs vs := fun {fs} => by
    induction fs with
    | nil => intro vs r; cases r; exact .nil
    | cons x fs ih => intro vs r; cases r with | cons a b => exact .cons (up a) (ih b)
  have upO : ∀ {a : Addr} {u : O}, OOk G (Zof (fun a => Z a ∨ a = p) L st) H L a u → OOk G (Zof Z (L ++ [p]) (st ++ [o])) H (L ++ [p]) a u := fun {a u} h => by
    cases u with
    | lst ds => obtain ⟨vs, h1, h2⟩ := h; exact ⟨vs, h1, h2.zone zz⟩
    | dic ds => obtain ⟨vs, h1, h2⟩ := h; exact ⟨vs, h1, h2.zone zz⟩
    | diT ds => obtain ⟨vs, h1, h2⟩ := h; exact ⟨vs, h1, h2.zone zz⟩
    | ins c fs => obtain ⟨C, dx, vfs, h1, h2, h3⟩ := h; exact ⟨C, dx, vfs, h1, h2, upF h3⟩
    | frz d => exact Rep.zone zz h
    | dead => trivial
  refine ⟨fw, ⟨by simp [hlen], ?_, fun n a u e1 e2 => ?_, fun a z => f.ok.z0 a (.inl z), fun a m z => ?_, fun a m => ?_, f.ok.tb.zone zz⟩, SS.env.mono fw⟩
  · rw [List.nodup_append]
    exact ⟨f.ok.nd, by simp, fun a ha b hb e => pl (by rw [List.mem_singleton.mp hb] at e; rw [← e]; exact ha)⟩
  · by_cases hn : n < L.length
    · rw [List.getElem?_append_left hn] at e1
      rw [List.getElem?_append_left (by omega)] at e2
      exact upO (f.ok.obj n a u e1 e2)
    · rw [List.getElem?_append_right (by omega)] at e1
      rw [List.getElem?_append_right (by omega)] at e2
      have h0 : n - L.length = 0 := by
        obtain ⟨h, _⟩ := List.getElem?_eq_some_iff.mp e1
        simpa using h
      rw [h0] at e1
      rw [← hlen, h0] at e2
      have ea : p = a := by simpa using e1
      have eu : o = u := by simpa using e2
      subst ea eu
      exact upO ok
  · rcases List.mem_append.mp m with m | m
    · exact f.ok.zl a m (.inl z)
    · rw [List.mem_singleton.mp m] at z; exact pz z
  · rcases List.mem_append.mp m with m | m
    · exact f.ok.lh a m
    · rw [List.mem_singleton.mp m]; exact hp
/-- x = a new thing of one's own that goes on being changed -/
theorem newS {f : Env → Sto → Res O} {i : Nat} {σ : St} {H : Hp} {E : Ends} (q : tMS G W (sNew i f) E σ H) : tMN G W f σ H fun x H1 => gName i x σ H1 E.nx := by
  obtain ⟨Z, ρ, st, L, S, q⟩ := q
  refine ⟨Z, ρ, st, L, S, ?_⟩
  unfold sNew sOf at q
  revert q
  cases f ρ st with
  | stuck => exact fun q => q
  | exc c fs st1 => exact fun q H' L' C dd vfs f o hC hd hr => q σ H' L' C dd vfs f (S.to f o) hC hd hr
  | ok o st1 =>
    intro q p H1 L1 fn ok
    obtain ⟨f2, o2, e2⟩ := alloc S fn ok
    refine q _ H1 (L1 ++ [p]) f2 ⟨o2, e2.set i (.r ?_)⟩
    rw [← fn.ok.len, List.getElem?_append_right (Nat.le_refl _)]
    simp
theorem ms_new {x : Str} {p2 : Pos} {f : Env → Sto → Res O} (i : Nat) (hN : X.N.Nodup) (h : MN G W X e f) (hi : X.N[i]? = some x := by rfl) (hx : Loc X.env.scope x := by first | exact .inl rfl | exact .inr rfl) (hs : swapsWith e (some (.Name x p2)) pos.line X.env = pure false := by rfl) (hf : X.fn x = true ∨ X.env.scope.names.lookup x = some .local := by first | exact .inl rfl | exact .inr rfl | assumption) :
    MS G W X (.Assign [.Name x p2] e pos) (sNew i f) := PS.imp (ps_set hN hi hx h hs hf) fun E σ H q => newS q
theorem ms_asg {f : Den} {g : GD} {vs : List Nat} (h : ME G W X e f) (hg : MG G X tg g vs) (hs : swapsWithSole [tg] e pos.line X.env = pure false := by rfl) (hw : swappedStores [tg] e X.env = pure none := by rfl)
    (h1 : (assignEach [tg] X.env).map (·.2) = [assign tg X.env] := by rfl) : MS G W X (.Assign [tg] e pos) (sAsg g f) := by
  obtain ⟨gt, g1, g2⟩ := hg.ex
  refine PS.imp (ps_asg h g1 hs hw h1) fun E σ H q => ?_
  obtain ⟨Z, ρ, st, L, S, q⟩ := q
  refine ⟨Z, ρ, st, L, S, PostR.bindS S q fun d st1 v H1 L1 e1 f1 S1 r1 q1 => ?_⟩
  have q1 : PostS G Z W L1 st1 H1 (match g d ρ with | some ρ => .next ρ st1 | none => .stuck) E := q1
  split at q1
  · rename_i ρ' eg
    exact g2 _ _ _ _ _ _ _ ρ' _ S1.env r1 eg fun σ' E' w => q1 σ' H1 L1 Fw.refl ⟨S1.ok, E'⟩
  · exact q1.elim
theorem ms_for {iter : Expr} {body : List Stmt} {fi : DenL} {g : GD} {fb : SDen} {vs : List Nat} (hp : PassesOwn (model X.prog X.w) X.A X.env X.xe) (hc : X.calm = true) (hi : MI G W X tg iter fi) (hg : MG G X tg g vs) (hb : MSs G W X body fb)
    (hs : ∀ x, foldedSetIterable iter X.env x = pure x := by intro _; rfl) : MS G W X (.For tg iter body [] pos) (sFor fi g fb) := by
  obtain ⟨gt, g1, g2⟩ := hg.ex
  refine PS.imp (ps_for hp hc hi g1 hb hs) fun E σ H q => ?_
  obtain ⟨Z, ρ, st, L, S, q⟩ := q
  refine ⟨Z, ρ, st, L, S, ?_⟩
  unfold sFor sOf at q
  revert q
  cases fi ρ st with
  | stuck => exact fun q => q
  | exc c fs st1 => exact fun q H' L' C dd vfs f o hC hd hr => q σ H' L' C dd vfs f (S.to f o) hC hd hr
  | ok items st1 =>
    intro q J H1 L1 f1 o1 hy
    have q : PostS G Z W L st H (forL g fb items ρ st1) E := q
    refine ⟨fun i m σ' H' => ∃ ρ' st' L', m = items.length - i ∧ i ≤ items.length ∧ Fw Z L1 st1 H1 L' st' H' ∧ Stt G Z ρ' st' L' σ' H' ∧ PostS G Z W L' st' H' (forL g fb (items.drop i) ρ' st') E, ⟨items.length, ρ, st1, L1, by simp, Nat.zero_le _, Fw.refl, S.to f1 o1, by rw [List.drop_zero]; exact PostS.on f1 q⟩, ?_⟩
    rintro i m σ' H' ⟨ρ', st', L', rfl, hle, fw, S', q'⟩
    obtain ⟨ys, yi⟩ := hy i Z L' st' H' (fun a z => .inl z) fw S'.ok
    by_cases hi : i < items.length
    · obtain ⟨d, hd⟩ : ∃ d, items[i]? = some d := ⟨_, List.getElem?_eq_getElem hi⟩
      obtain ⟨go, hyl⟩ := yi d hd
      have hdrop : items.drop i = d :: items.drop (i + 1) := by
        rw [List.drop_eq_getElem_cons hi]
        rw [List.getElem?_eq_getElem hi] at hd
        cases hd
        rfl
      rw [hdrop] at q'
      unfold forL at q'
      refine .inr ⟨go, fun σ2 H2 => ∃ ρ' st' L', Fw Z L1 st1 H1 L' st' H2 ∧ Stt G Z ρ' st' L' σ2 H2 ∧ PostS G Z W L' st' H2 (forL g fb (items.drop (i + 1)) ρ' st') E, fun σ2 H2 ⟨ρ2, st2, L2, a1, a2, a3⟩ => ⟨_, by omega, ρ2, st2, L2, rfl, hi, a1, a2, a3⟩, fun x H2 hyx => ?_⟩
      obtain ⟨sm, rx⟩ := hyl x H2 hyx
      have S2 := S'.to (Fw.same sm) (S'.ok.same sm)
      have fw2 := fw.trans (Fw.same sm)
      have q2 := PostS.on (Fw.same sm) q'
      cases eg : g d ρ' with
      | none => rw [eg] at q2; exact q2.elim
      | some ρ1 =>
        rw [eg] at q2
        refine g2 _ _ _ _ _ _ _ ρ1 _ S2.env rx eg fun σ3 E3 w => ⟨Z, ρ1, st', L', ⟨S2.ok, E3⟩, ?_⟩
        have q2 : PostS G Z W L' st' H2 (match fb ρ1 st' with
          | .next ρ st => forL g fb (items.drop (i + 1)) ρ st
          | .cont ρ st => forL g fb (items.drop (i + 1)) ρ st
          | .brk ρ st => .next ρ st
          | r => r) E := q2
        revert q2
        cases fb ρ1 st' with
        | next ρ4 st4 => exact fun q σ4 H4 L4 f4 S4 => ⟨ρ4, st4, L4, fw2.trans f4, S4, PostS.on f4 q⟩
        | cont ρ4 st4 => exact fun q σ4 H4 L4 f4 S4 => ⟨ρ4, st4, L4, fw2.trans f4, S4, PostS.on f4 q⟩
        | brk ρ4 st4 => exact fun q => q
        | ret d4 st4 => exact fun q => q
        | exc c fs ρ4 st4 => exact fun q => q
        | stuck => exact fun q => q
    · have e : i = items.length := by omega
      subst e
      rw [List.drop_length] at q'
      exact .inl ⟨ys (Nat.le_refl _), q' σ' H' L' Fw.refl S'⟩
theorem ms_while {c : Expr} {body : List Stmt} {fc : DenB} {fb : SDen} (n : Nat) (hp : PassesOwn (model X.prog X.w) X.A X.env X.xe) (hc : MT G W X c fc) (hb : MSs G W X body fb) : MS G W X (.While c body [] pos) (sWhile n fc fb) := by
  refine PS.imp (ps_while hp hc hb) fun E σ H q => ?_
  obtain ⟨Z, ρ, st, L, S, q⟩ := q
  have q : PostS G Z W L st H (whileL fc fb n ρ st) E := q
  refine ⟨fun m σ' H' => ∃ ρ' st' L', Stt G Z ρ' st' L' σ' H' ∧ PostS G Z W L' st' H' (whileL fc fb m ρ' st') E, ⟨n, ρ, st, L, S, q⟩, ?_⟩
  rintro m σ' H' ⟨ρ', st', L', S', q'⟩
  cases m with
  | zero => exact q'.elim
  | succ m =>
    unfold whileL at q'
    refine ⟨Z, ρ', st', L', S', ?_⟩
    revert q'
    cases fc ρ' st' with
    | stuck => exact fun q => q
    | exc c fs st1 => exact fun q H2 L2 C dd vfs f o hC hd hr => q σ' H2 L2 C dd vfs f (S'.to f o) hC hd hr
    | ok b st1 =>
      intro q' b' H1 L1 f1 o1 rb
      have rb : b = b' := rb
      subst rb
      have S1 := S'.to f1 o1
      cases b with
      | false => exact q' σ' H1 L1 f1 S1
      | true =>
        refine ⟨fun σ2 H2 => ∃ ρ' st' L', Stt G Z ρ' st' L' σ2 H2 ∧ PostS G Z W L' st' H2 (whileL fc fb m ρ' st') E, fun σ2 H2 h => ⟨m, Nat.lt_succ_self m, h⟩, Z, ρ', st1, L1, S1, ?_⟩
        have q' : PostS G Z W L' st' H' (match fb ρ' st1 with
          | .next ρ st => whileL fc fb m ρ st
          | .cont ρ st => whileL fc fb m ρ st
          | .brk ρ st => .next ρ st
          | r => r) E := q'
        have q' := PostS.on f1 q'
        revert q'
        cases fb ρ' st1 with
        | next ρ4 st4 => exact fun q σ4 H4 L4 f4 S4 => ⟨ρ4, st4, L4, S4, PostS.on f4 q⟩
        | cont ρ4 st4 => exact fun q σ4 H4 L4 f4 S4 => ⟨ρ4, st4, L4, S4, PostS.on f4 q⟩
        | brk ρ4 st4 => exact fun q => q
        | ret d4 st4 => exact fun q => q
        | exc c fs ρ4 st4 => exact fun q => q
        | stuck => exact fun q => q
end
end M
namespace M
open PySem PySem.Spec L2

/-! ### things that are changed -/
def lstAt (i : Nat) (ρ : Env) (st : Sto) : Option (Nat × List D) := match ρ[i]? with
  | some (some (.r n)) => (match st[n]? with | some (.lst ds) => some (n, ds) | _ => none)
  | _ => none
/-- x.m(e) as a statement, x a list of one's own; k what it makes of the list -/
@[simp] def sMut1 (k : List D → D → Option (List D)) (i : Nat) (f : Den) : SDen := fun ρ st => match lstAt i ρ st with
  | none => .stuck
  | some _ => sOf f (fun d ρ st => match lstAt i ρ st with
    | some (n, ds) => (match k ds d with | some es => .next ρ (st.set n (.lst es)) | none => .stuck)
    | none => .stuck) ρ st
@[simp] def setAt (l : Option (Nat × List D)) (j d : D) (ρ : Env) (st : Sto) : SRes := match l with
  | some p => (match j with
    | .int z => (match ixN p.2.length z with | some m => .next ρ (st.set p.1 (.lst (p.2.set m d))) | none => .stuck)
    | _ => .stuck)
  | none => .stuck
/-- x[j] = e -/
@[simp] def sSetIx (i : Nat) (fj fe : Den) : SDen := fun ρ st => sOf fe (fun d ρ st => match lstAt i ρ st with
  | none => .stuck
  | some _ => sOf fj (fun j ρ st => setAt (lstAt i ρ st) j d ρ st) ρ st) ρ st
section
variable {G : Wd} {W : WX} {X : Cx} {Z Z' : Zone} {H H' : Hp} {L L' : List Addr} {st st' : Sto} {tg e : Expr} {pos : Pos}
theorem wr {n : Nat} {a : Addr} {o o' : O} {ho : HO} (S : StOk G Z L st H) (e1 : L[n]? = some a) (e2 : st[n]? = some o) (lo : o.live = true) (h : OOk G (Zof Z L (st.set n o')) (upd H a ho) L a o') (lo' : o'.live = true) :
    Fw Z L st H L (st.set n o') (upd H a ho) ∧ StOk G Z L (st.set n o') (upd H a ho) := by
  have la : Live L st a := ⟨n, o, e1, e2, lo⟩
  have am : a ∈ L := List.mem_of_getElem? e1
  have hl : n < st.length := (List.getElem?_eq_some_iff.mp e2).1
  have fw : Fw Z L st H L (st.set n o') (upd H a ho) := by
    refine ⟨⟨[], by simp, by simp⟩, fun b u e nl => ?_, fun b h => ?_, fun b u z e => ?_, fun m o2 hm e3 l2 => ?_⟩
    · have ne : b ≠ a := fun q => nl (q ▸ la)
      exact .of (by rw [upd_ne ne]; exact e)
    · by_cases q : b = a
      · rw [q, upd_same]; simp
      · rw [upd_ne q]; exact h
    · have ne : b ≠ a := fun q => S.zl a am (q ▸ z)
      rw [upd_ne ne]; exact e
    · rcases getElem?_set_cases e3 with ⟨rfl, rfl, _⟩ | ⟨_, h⟩
      · exact ⟨o, e2, lo⟩
      · exact ⟨o2, h, l2⟩
  refine ⟨fw, by simpa using S.len, S.nd, fun m b u e3 e4 => ?_, fun b z => fw.there b (S.z0 b z), S.zl, fun b m => fw.there b (S.lh b m), S.tb.mono fun b u q z => ⟨by rw [upd_ne fun (y : b = a) => z (.inr (by rw [y]; exact la))]; exact q, (fw.keeps b u q z).2⟩⟩
  rcases getElem?_set_cases e4 with ⟨rfl, rfl, _⟩ | ⟨ne, h4⟩
  · rw [e1] at e3
    cases e3
    exact h
  · have nb : b ≠ a := fun q => ne (nodup_at S.nd e3 (q ▸ e1))
    exact (S.obj m b u e3 h4).mono fw (by rw [upd_ne nb])
theorem lstAt_some {i : Nat} {ρ : Env} {σ : St} {n : Nat} {ds : List D} (S : Stt G Z ρ st L σ H) (e : lstAt i ρ st = some (n, ds)) : ∃ a vs, σ[i]? = some (some (.ref a)) ∧ L[n]? = some a ∧ st[n]? = some (.lst ds) ∧ H a = some (.lst vs) ∧ Reps G (Zof Z L st) H ds vs := by
  unfold lstAt at e
  split at e
  · rename_i m er
    split at e
    · rename_i es eo
      cases e
      obtain ⟨v, ev, r⟩ := S.env.2 i _ er
      cases r with
      | r r =>
        obtain ⟨vs, h1, h2⟩ := S.ok.obj _ _ _ r eo
        exact ⟨_, vs, ev, r, eo, h1, h2⟩
    · cases e
  · cases e
/-- what a changing method's reading asks -/
def SimM (G : Wd) (k : List D → D → Option (List D)) (r : V → List V → Hp → VK → Prop) : Prop := ∀ Z H ds d es a vs v Q, H a = some (.lst vs) → Reps G Z H ds vs → Rep G Z H d v → k ds d = some es →
  (∀ ws, (∀ Z' H', Keeps Z Z' H H' → Reps G Z' H' es ws) → Q .non (upd H a (.lst ws))) → r (.ref a) [v] H Q
theorem mutS {k : List D → D → Option (List D)} {r : V → List V → Hp → VK → Prop} {i : Nat} {f : Den} (sm : SimM G k r) {σ : St} {H : Hp} {E : Ends} (q : tMS G W (sMut1 k i f) E σ H) :
    tVar i σ H fun x H1 => tyV X.K "list" x H1 ∧ tCons (tM G W f) tNil σ H1 fun xs H2 => r x xs H2 fun _ H3 => E.nx σ H3 := by
  obtain ⟨Z, ρ, st, L, S, q⟩ := q
  unfold sMut1 at q
  cases e0 : lstAt i ρ st with
  | none => rw [e0] at q; exact q.elim
  | some p =>
    rw [e0] at q
    obtain ⟨n, ds⟩ := p
    obtain ⟨a, vs, ev, e1, e2, h1, h2⟩ := lstAt_some S e0
    refine ⟨.ref a, ev, .inl ⟨rfl, vs, .inl (.inl h1)⟩, Z, ρ, st, L, S, PostR.bindS S q fun d st1 v H1 L1 ed f1 S1 r1 q1 => ?_⟩
    have q1 : PostS G Z W L1 st1 H1 (match lstAt i ρ st1 with
      | some (n, ds) => (match k ds d with | some es => .next ρ (st1.set n (.lst es)) | none => .stuck)
      | none => .stuck) E := q1
    cases e3 : lstAt i ρ st1 with
    | none => rw [e3] at q1; exact q1.elim
    | some p =>
      rw [e3] at q1
      obtain ⟨m, ds1⟩ := p
      obtain ⟨b, ws, ev2, g1, g2, k1, k2⟩ := lstAt_some S1 e3
      rw [ev] at ev2
      cases ev2
      have q1 : PostS G Z W L1 st1 H1 (match k ds1 d with | some es => .next ρ (st1.set m (.lst es)) | none => .stuck) E := q1
      cases ek : k ds1 d with
      | none => rw [ek] at q1; exact q1.elim
      | some es =>
        rw [ek] at q1
        refine sm _ H1 ds1 d es a ws v _ k1 k2 r1 ek fun zs hzs => ?_
        have fws : Keeps (Zof Z L1 st1) (Zof Z L1 (st1.set m (.lst es))) H1 (upd H1 a (.lst zs)) := fun b u e z => by
          have la : Live L1 st1 a := ⟨m, _, g1, g2, rfl⟩
          have ne : b ≠ a := fun q => z (.inr (q ▸ la))
          refine ⟨.of (by rw [upd_ne ne]; exact e), fun q => ?_⟩
          rcases q with q | ⟨j, u2, j1, j2, j3⟩
          · exact z (.inl q)
          · rcases getElem?_set_cases j2 with ⟨rfl, rfl, _⟩ | ⟨_, h⟩
            · rw [g1] at j1; exact ne (Option.some.inj j1).symm
            · exact z (.inr ⟨j, u2, j1, h, j3⟩)
        obtain ⟨fw, ok⟩ := wr (o' := .lst es) (ho := .lst zs) S1.ok g1 g2 rfl ⟨zs, upd_same, hzs _ _ fws⟩ rfl
        exact q1 σ _ L1 fw (S1.to fw ok)

theorem ms_mut1 {k : List D → D → Option (List D)} {r : V → List V → Hp → VK → Prop} {i : Nat} {f : Den} {x name : Str} {id : String} {p apos cpos : Pos} (slot : Slot "list" name id) (hty : typeOf (.builtin id) = pure (.type "method_descriptor")) (hm : MtM X id r) (sm : SimM G k r) (hv : PE X (.Name x p) (tVar i)) (he : ME G W X e f)
    (h1 : PE X (.Call (.Attribute (.Name x p) name apos) [e] [] cpos) (tBM X.K "list" r (tVar i) (tCons (tM G W f) tNil))) (hs : swapsWith (.Call (.Attribute (.Name x p) name apos) [e] [] cpos) none pos.line X.env = pure false := by rfl) : MS G W X (.Expr (.Call (.Attribute (.Name x p) name apos) [e] [] cpos) pos) (sMut1 k i f) :=
  PS.imp (ps_expr h1 hs) fun E σ H q => mutS sm q
/-- append -/
noncomputable def kApp (ds : List D) (d : D) : Option (List D) := if ds.length < sizeLine then some (ds ++ [d]) else none
theorem sim_app : SimM G kApp rAppend := fun Z H ds d es a vs v Q h1 h2 h3 ek q => by
  unfold kApp at ek
  split at ek
  · cases ek
    have hl := h2.length
    exact ⟨a, vs, v, rfl, rfl, h1, by omega, q _ fun Z' H' k => (h2.mono k).append (.cons (h3.mono k) .nil)⟩
  · cases ek
/-- extend by a list -/
noncomputable def kExt (ds : List D) (d : D) : Option (List D) := match d with
  | .lst es => if ds.length + es.length ≤ sizeLine then some (ds ++ es) else none
  | _ => none
def rExtR : V → List V → Hp → VK → Prop := fun x vs H Q => ∃ l b xs zs, x = .ref l ∧ vs = [.ref b] ∧ H l = some (.lst xs) ∧ Rd H b (.lst zs) ∧ xs.length + zs.length ≤ sizeLine ∧ Q .non (upd H l (.lst (xs ++ zs)))
theorem mt_extR : MtM X "list.extend" rExtR := by
  intro pins s σ H x vs v us Q I rx rv h
  obtain ⟨l, b, xs, zs, rfl, rfl, hH, hB, hz, q⟩ := h
  cases rx
  obtain ⟨u, rfl, ru⟩ := rv.one
  cases ru
  obtain ⟨z, its, n, r, hl, e⟩ := I.lstM hH
  obtain ⟨z2, its2, n2, r2, e2⟩ := hB.ok I.hok
  have hl2 := r2.length
  have hsz : its.toArray.size + its2.toArray.size ≤ sizeLine := by rw [List.size_toArray, List.size_toArray]; omega
  have hlong : ¬ (!its.toArray.isEmpty && Builtin.List.listTooLong (its.toArray.size + its2.toArray.size)) = true := by
    rw [notLongL hsz, Bool.and_false]
    exact Bool.false_ne_true
  refine call_meets F.slot_list_extend ⟨_, e, rfl⟩ F.entry_list_extend (F.args_list_extend_2 _ _)
    (AutoSeq1.list_extend_list_list_0 l its.toArray n b its2.toArray n2 hlong (by rw [List.size_toArray]; omega) (by omega)) ⟨e, e2, ?_⟩
  refine ⟨.non, _, I.lset (its' := its ++ its2) hH e (by simp) (r.append r2) ?_, rfl, q⟩
  rw [List.length_append]
  omega
theorem sim_ext : SimM G kExt rExtR := fun Z H ds d es a vs v Q h1 h2 h3 ek q => by
  unfold kExt at ek
  split at ek
  · split at ek
    · cases ek
      obtain ⟨b, ws, rfl, g1, g2⟩ := h3.list'
      have hl := h2.length
      have hl2 := g2.length
      exact ⟨a, b, vs, ws, rfl, rfl, h1, g1, by omega, q _ fun Z' H' k => (h2.mono k).append (g2.mono k)⟩
    · cases ek
  · cases ek
theorem ms_app {i : Nat} {f : Den} {x : Str} {p apos cpos : Pos} (hv : PE X (.Name x p) (tVar i)) (he : ME G W X e f)
    (hbase : attributeBase (.Name x p) "append" X.env (eval (.Name x p) X.env) = eval (.Name x p) X.env := by rfl)
    (hfew : ((backTo cpos (starEach [e] X.env)).all (fun x => !x.1) && (backToKw cpos (keywordEach [] X.env)).all (fun x => x.1.isSome)
      && decide ([e].length + ([] : List Keyword).length + (if ([] : List Keyword).isEmpty then 0 else 1) < 30)) = true := by rfl)
    (hline : (apos.endLine == cpos.line) = true := by rfl) (hst : starEach [e] X.env = (false, eval e X.env) :: starEach [] X.env := by rfl) (hplain : (backTo cpos (starEach [] X.env)).any (·.1) = false := by rfl)
    (hs : swapsWith (.Call (.Attribute (.Name x p) "append" apos) [e] [] cpos) none pos.line X.env = pure false := by rfl) : MS G W X (.Expr (.Call (.Attribute (.Name x p) "append" apos) [e] [] cpos) pos) (sMut1 kApp i f) :=
  PS.imp (ps_expr (pe_bm PySem.F.plainAttrs_list PySem.F.slot_list_append PySem.F.type_list_append mt_append hv (pa_cons he pa_nil hst) hbase hfew hline hst hplain) hs) fun E σ H q => mutS sim_app q
theorem ms_ext {i : Nat} {f : Den} {x : Str} {p apos cpos : Pos} (hv : PE X (.Name x p) (tVar i)) (he : ME G W X e f)
    (hbase : attributeBase (.Name x p) "extend" X.env (eval (.Name x p) X.env) = eval (.Name x p) X.env := by rfl)
    (hfew : ((backTo cpos (starEach [e] X.env)).all (fun x => !x.1) && (backToKw cpos (keywordEach [] X.env)).all (fun x => x.1.isSome)
      && decide ([e].length + ([] : List Keyword).length + (if ([] : List Keyword).isEmpty then 0 else 1) < 30)) = true := by rfl)
    (hline : (apos.endLine == cpos.line) = true := by rfl) (hst : starEach [e] X.env = (false, eval e X.env) :: starEach [] X.env := by rfl) (hplain : (backTo cpos (starEach [] X.env)).any (·.1) = false := by rfl)
    (hs : swapsWith (.Call (.Attribute (.Name x p) "extend" apos) [e] [] cpos) none pos.line X.env = pure false := by rfl) : MS G W X (.Expr (.Call (.Attribute (.Name x p) "extend" apos) [e] [] cpos) pos) (sMut1 kExt i f) :=
  PS.imp (ps_expr (pe_bm PySem.F.plainAttrs_list PySem.F.slot_list_extend PySem.F.type_list_extend mt_extR hv (pa_cons he pa_nil hst) hbase hfew hline hst hplain) hs) fun E σ H q => mutS sim_ext q
theorem ixN_some {α : Type} {xs : List α} {z : Int} {m : Nat} (h : ixN xs.length z = some m) : m < xs.length := (ixN_seq h).2.1
theorem ms_setix {x : Str} {i : Nat} {ej : Expr} {fj fe : Den} {p spos : Pos} (hv : PE X (.Name x p) (tVar i)) (hj : ME G W X ej fj) (he : ME G W X e fe)
    (hs : swapsWithSole [.Subscript (.Name x p) ej spos] e pos.line X.env = pure false := by rfl) (hw : swappedStores [.Subscript (.Name x p) ej spos] e X.env = pure none := by rfl)
    (ha : ∀ v, assign (.Subscript (.Name x p) ej spos) X.env v = (do
      let ov ← holding [v] (eval (.Name x p) X.env)
      let iv ← holding [v, ov] (eval ej X.env)
      standAt spos
      holding [v, ov, iv] (setItem ov iv v)
      release [v, ov, iv] []) := by intro _; rfl)
    (h1 : (assignEach [.Subscript (.Name x p) ej spos] X.env).map (·.2) = [assign (.Subscript (.Name x p) ej spos) X.env] := by rfl) :
    MS G W X (.Assign [.Subscript (.Name x p) ej spos] e pos) (sSetIx i fj fe) := PS.imp (ps_asg he (pg_sub hv hj set_list ha) hs hw h1) fun E σ H q => by
  obtain ⟨Z, ρ, st, L, S, q⟩ := q
  refine ⟨Z, ρ, st, L, S, PostR.bindS S q fun d st1 v H1 L1 ed f1 S1 r1 q1 => ?_⟩
  have q1 : PostS G Z W L1 st1 H1 (match lstAt i ρ st1 with
    | none => .stuck
    | some _ => sOf fj (fun j ρ st => setAt (lstAt i ρ st) j d ρ st) ρ st1) E := q1
  cases e0 : lstAt i ρ st1 with
  | none => rw [e0] at q1; exact q1.elim
  | some p =>
    rw [e0] at q1
    obtain ⟨n0, ds0⟩ := p
    obtain ⟨a, vs0, ev, _⟩ := lstAt_some S1 e0
    refine ⟨.ref a, ev, Z, ρ, st1, L1, S1, PostR.bindS S1 q1 fun j st2 y H2 L2 ej f2 S2 r2 q2 => ?_⟩
    have q2 : PostS G Z W L2 st2 H2 (setAt (lstAt i ρ st2) j d ρ st2) E := q2
    unfold setAt at q2
    cases e2 : lstAt i ρ st2 with
    | none => rw [e2] at q2; exact q2.elim
    | some p =>
      rw [e2] at q2
      obtain ⟨n, ds⟩ := p
      obtain ⟨b, vs, ev2, g1, g2, k1, k2⟩ := lstAt_some S2 e2
      rw [ev] at ev2
      cases ev2
      cases j with
      | int z =>
        have q2 : PostS G Z W L2 st2 H2 (match ixN ds.length z with | some m => .next ρ (st2.set n (.lst (ds.set m d))) | none => .stuck) E := q2
        split at q2
        · rename_i m em
          refine ⟨a, vs, z, m, rfl, r2.int', k1, by rw [← k2.length]; exact em, ?_⟩
          have rd := r1.mono f2.keeps
          have fws : Keeps (Zof Z L2 st2) (Zof Z L2 (st2.set n (.lst (ds.set m d)))) H2 (upd H2 a (.lst (vs.set m v))) := fun b u e z => by
            have la : Live L2 st2 a := ⟨n, _, g1, g2, rfl⟩
            have ne : b ≠ a := fun q => z (.inr (q ▸ la))
            refine ⟨.of (by rw [upd_ne ne]; exact e), fun q => ?_⟩
            rcases q with q | ⟨j, u2, j1, j2, j3⟩
            · exact z (.inl q)
            · rcases getElem?_set_cases j2 with ⟨rfl, rfl, _⟩ | ⟨_, h⟩
              · rw [g1] at j1; exact ne (Option.some.inj j1).symm
              · exact z (.inr ⟨j, u2, j1, h, j3⟩)
          obtain ⟨fw, ok⟩ := wr (o' := .lst (ds.set m d)) (ho := .lst (vs.set m v)) S2.ok g1 g2 rfl ⟨_, upd_same, Reps.set (rd.mono fws) m (k2.mono fws)⟩ rfl
          exact q2 σ _ L2 fw (S2.to fw ok)
        · exact q2.elim
      | _ => exact q2.elim
/-- x op= e, ints, texts, tuples -/
@[simp] def sAug (i : Nat) (g : D → D → Option D) (f : Den) : SDen := fun ρ st => match ρ[i]? with
  | some (some (.p d)) => sOf f (fun e ρ st => match g d e with | some z => .next (ρ.set i (some (.p z))) st | none => .stuck) ρ st
  | _ => .stuck
theorem ms_aug {x : Str} {op : Operator} {i : Nat} {g : D → D → Option D} {f : Den} {r : R2} {p : Pos} (ho : OpR X (inplaceOp op) r) (s : Sim2 G g r) (hN : X.N.Nodup) (he : ME G W X e f) (hi : X.N[i]? = some x := by rfl) (hx : Loc X.env.scope x := by first | exact .inl rfl | exact .inr rfl) (hf : X.fn x = true ∨ X.env.scope.names.lookup x = some .local := by first | exact .inl rfl | exact .inr rfl | assumption) :
    MS G W X (.AugAssign (.Name x p) op e pos) (sAug i g f) := PS.imp (ps_aug (ti := r) hN hi hx he ho hf) fun E σ H q => by
  obtain ⟨Z, ρ, st, L, S, q⟩ := q
  unfold sAug at q
  split at q
  · rename_i d ed
    obtain ⟨v, ev, rv⟩ := S.env.2 i _ ed
    cases rv with
    | p rv =>
      refine ⟨v, ev, Z, ρ, st, L, S, PostR.bindS S q fun e2 st1 y H1 L1 e1 f1 S1 r1 q1 => ?_⟩
      have q1 : PostS G Z W L1 st1 H1 (match g d e2 with | some z => .next (ρ.set i (some (.p z))) st1 | none => .stuck) E := q1
      split at q1
      · rename_i z ez
        exact s _ _ _ _ _ _ z _ S1.ok.inn (.rep (rv.mono f1.keeps)) (.rep r1) ez fun w H' e' r' => q1 _ H' L1 (Fw.same e') ⟨S1.ok.same e', (S1.env.mono (Fw.same e')).set i (.p r')⟩
      · exact q1.elim
  · exact q.elim
end
end M
namespace M
open PySem PySem.Spec L2

/-! ### defs: bodies -/
@[simp] def O.refsBelow (k : Nat) : O → Bool
  | .ins _ fs => fs.all fun p => match p.2 with | .r m => decide (m < k) | _ => true
  | _ => true
/-- what is the def's own goes -/
@[simp] def cutOff (k : Nat) (st : Sto) (r : Sto → Res D) : Res D := if ((st.take k).all (O.refsBelow k)) = true then r (st.take k) else .stuck
@[simp] def dFn (n m : Nat) (fb : SDen) : FD := fun ss st => if ss.length = n then (match fb (ss.map some ++ List.replicate (m - n) none) st with
  | .ret d st' => cutOff st.length st' fun s => .ok d s
  | .next _ st' => cutOff st.length st' fun s => .ok .non s
  | .exc c fs _ st' => cutOff st.length st' fun s => .exc c fs s
  | _ => .stuck) else .stuck
section
variable {G : Wd} {W : WX} {X : Cx} {Z Z' : Zone} {H H' : Hp} {L L' : List Addr} {st st' : Sto} {tg e : Expr} {pos : Pos}
theorem zof_take {k : Nat} {a : Addr} (h : Zof Z (L.take k) (st.take k) a) : Zof Z L st a := by
  rcases h with h | ⟨n, o, e1, e2, l⟩
  · exact .inl h
  · have h1 : n < k := by
      have := (List.getElem?_eq_some_iff.mp e1).1
      rw [List.length_take] at this
      omega
    rw [List.getElem?_take_of_lt h1] at e1 e2
    exact .inr ⟨n, o, e1, e2, l⟩
theorem SRepF.cut {k : Nat} : ∀ {fs : List (Str × S)} {vs : List (Str × V)}, SRepF G (Zof Z L st) H L fs vs → (fs.all fun p => match p.2 with | .r m => decide (m < k) | _ => true) = true → SRepF G (Zof Z (L.take k) (st.take k)) H (L.take k) fs vs
  | _, _, .nil, _ => .nil
  | _, _, .cons r t, h => by
    rw [List.all_cons, Bool.and_eq_true] at h
    refine .cons ?_ (SRepF.cut t h.2)
    cases r with
    | p r => exact .p (r.zone fun a z => zof_take z)
    | r e =>
      have h1 : _ < k := of_decide_eq_true h.1
      exact .r (by rw [List.getElem?_take_of_lt h1]; exact e)
    | x e1 e2 e3 e4 => exact .x e1 e2 (e3.zone fun a z => zof_take z) (e4.mono fun a o e z => ⟨.of e, fun q => z (zof_take q)⟩)
theorem StOk.cut {k : Nat} (S : StOk G Z L st H) (h : (st.take k).all (O.refsBelow k) = true) : StOk G Z (L.take k) (st.take k) H := by
  refine ⟨by rw [List.length_take, List.length_take, S.len], S.nd.sublist (List.take_sublist _ _), fun n a o e1 e2 => ?_, S.z0, fun a m => S.zl a (List.mem_of_mem_take m), fun a m => S.lh a (List.mem_of_mem_take m), S.tb.zone fun a z => zof_take z⟩
  have h1 : n < k := by
    have := (List.getElem?_eq_some_iff.mp e1).1
    rw [List.length_take] at this
    omega
  have ho := List.all_eq_true.mp h o (List.mem_of_getElem? e2)
  rw [List.getElem?_take_of_lt h1] at e1 e2
  have ok := S.obj n a o e1 e2
  cases o with
  | lst ds => obtain ⟨vs, h1, h2⟩ := ok; exact ⟨vs, h1, h2.zone fun a z => zof_take z⟩
  | dic ds => obtain ⟨vs, h1, h2⟩ := ok; exact ⟨vs, h1, h2.zone fun a z => zof_take z⟩
  | diT ds => obtain ⟨vs, h1, h2⟩ := ok; exact ⟨vs, h1, h2.zone fun a z => zof_take z⟩
  | ins c fs => obtain ⟨C, dx, vfs, h1, h2, h3⟩ := ok; exact ⟨C, dx, vfs, h1, h2, h3.cut ho⟩
  | frz d => exact Rep.zone (fun a z => zof_take z) ok
  | dead => trivial
theorem Fw.cut (S : StOk G Z L st H) (f : Fw Z L st H L' st' H') : Fw Z L st H (L'.take st.length) (st'.take st.length) H' ∧ L'.take st.length = L := by
  obtain ⟨M, rfl, hM⟩ := f.pre
  have e : (L ++ M).take st.length = L := by rw [← S.len, List.take_left]
  refine ⟨⟨⟨[], by rw [e, List.append_nil], by simp⟩, f.keep, f.there, f.zk, fun n o' hn e2 l => ?_⟩, e⟩
  have h1 : n < st.length := by rw [← S.len]; exact hn
  rw [List.getElem?_take_of_lt h1] at e2
  exact f.live n o' hn e2 l
theorem env_start {ss : List S} {vs : List V} {N : List Str} (r : SReps G Z H L ss vs) (hn : vs.length ≤ N.length) : EnvOk G Z H L (ss.map some ++ List.replicate (N.length - vs.length) none) (L2.start N vs) := by
  have hl := r.length
  refine ⟨by unfold L2.start; simp [hl], fun i s e => ?_⟩
  by_cases hi : i < ss.length
  · rw [List.getElem?_append_left (by simpa using hi), List.getElem?_map] at e
    obtain ⟨s', h1, h2⟩ := Option.map_eq_some_iff.mp e
    cases h2
    obtain ⟨v, h3, h4⟩ := r.get h1
    refine ⟨v, ?_, h4⟩
    unfold L2.start
    rw [List.getElem?_append_left (by rw [List.length_map]; omega), List.getElem?_map, h3]
    rfl
  · rw [List.getElem?_append_right (by simpa using hi), List.getElem?_replicate] at e
    split at e <;> cases e
end
section
variable {P : Program} {w : World} {K : PySem.W.Frag} {mg : Str → Option Value} {base : Heap} {G : Wd}
theorem okXN {x qual : Str} {st : Stmt} {f : Addr} {fd : FuncData} {N ps : List Str} {k : Nat} {sp : Sp} (F : Fun K x qual st f fd) (S : FnScope N ps (defScope st)) (len : ∀ vs H Q E, sp vs H Q E → vs.length = ps.length)
    (hb : ∀ (cdv : Value) (A : Around) (outer : List PySem.Env) (s : Shared) (H : Hp) (vs : List V) (Q : VK) (E : XK), Room k (A.deeper (PyProof.Rows.envOfC qual (defScope st) s.heap.objs.size f cdv)) → sp vs H Q E →
      ∃ t, PSs (cxOf (L2N.CX P w) P w K mg base N qual (defScope st) f cdv A outer s H E) (defBody st) t ∧ t { nx := fun _ H' => Q .non H', rt := Q } (start N vs) H) : FnOk P w K mg base (L2N.CX P w) (k + 1) f fd ps sp := by
  obtain ⟨oc, od, kV, doc, pm, an, cdv, ct, osl, rfl, lk, hcd⟩ := F.ex
  exact fn_of lk hcd S len fun A outer s H vs Q E hr hsp => hb cdv A outer s H vs Q E hr hsp
theorem takes0N {X : Cx} : L2N.Takes X (fun _ _ _ _ => False) := fun _ _ x => by
  obtain ⟨_, _, _, _, _, _, _, _, _, _, _, _, _, _, _, _, z⟩ := x
  exact z.elim
/-- what is wanted of exceptions in a def's body -/
abbrev WD (E : XK) : WX := fun cls d _ H => E cls d H
theorem spM_body {G : Wd} {n : Nat} {fb : SDen} {vs : List V} {H : Hp} {Q : VK} {E : XK} {N : List Str} (hN : n ≤ N.length) (h : spM G n (dFn n N.length fb) vs H Q E) :
    tMS G (WD E) fb { nx := fun _ H' => Q .non H', rt := Q } (start N vs) H := by
  obtain ⟨hl, Z, ss, st, L, ok, r, q⟩ := h
  have hss : ss.length = n := by rw [r.length]; exact hl
  refine ⟨Z, ss.map some ++ List.replicate (N.length - n) none, st, L, ⟨ok, ?_⟩, ?_⟩
  · rw [← hl]
    exact env_start r (by omega)
  · unfold dFn at q
    rw [if_pos hss] at q
    revert q
    cases fb (ss.map some ++ List.replicate (N.length - n) none) st with
    | stuck => exact fun q => q
    | brk ρ s => exact fun q => q.elim
    | cont ρ s => exact fun q => q.elim
    | next ρ s' =>
      intro q σ' H' L' f' S'
      unfold cutOff at q
      by_cases hc : (s'.take st.length).all (O.refsBelow st.length) = true
      · dsimp only at q
        rw [if_pos hc] at q
        obtain ⟨f2, e⟩ := f'.cut ok
        have o2 := S'.ok.cut hc
        exact q .non H' _ f2 o2 .non
      · dsimp only at q
        rw [if_neg hc] at q
        exact q.elim
    | ret d s' =>
      intro q v H' L' f' o' r'
      unfold cutOff at q
      by_cases hc : (s'.take st.length).all (O.refsBelow st.length) = true
      · dsimp only at q
        rw [if_pos hc] at q
        obtain ⟨f2, e⟩ := f'.cut ok
        exact q v H' _ f2 (o'.cut hc) (r'.zone fun a z => zof_take z)
      · dsimp only at q
        rw [if_neg hc] at q
        exact q.elim
    | exc c fs ρ s' =>
      intro q σ' H' L' C dd vfs f' S' hC hd hr'
      unfold cutOff at q
      by_cases hc : (s'.take st.length).all (O.refsBelow st.length) = true
      · dsimp only at q
        rw [if_pos hc] at q
        obtain ⟨f2, e⟩ := f'.cut ok
        exact q H' _ C dd vfs f2 (S'.ok.cut hc) hC (hd.zone fun a z => zof_take z) (hr'.mono fun a o e z => ⟨.of e, fun q => z (zof_take q)⟩)
      · dsimp only at q
        rw [if_neg hc] at q
        exact q.elim
theorem fn_M {x qual : Str} {s : Stmt} {f : Addr} {fd : FuncData} {N ps : List Str} {k n : Nat} {fb : SDen} (F : Fun K x qual s f fd) (S : FnScope N ps (defScope s)) (hn : ps.length = n) (hN : n ≤ N.length)
    (hbody : ∀ (cdv : Value) (A : Around) (outer : List PySem.Env) (sh : Shared) (H : Hp) (E : XK), Room k (A.deeper (PyProof.Rows.envOfC qual (defScope s) sh.heap.objs.size f cdv)) →
      L2N.Takes (cxOf (L2N.CX P w) P w K mg base N qual (defScope s) f cdv A outer sh H E) (WD E) → PassesOwn (model P w) (A.deeper (PyProof.Rows.envOfC qual (defScope s) sh.heap.objs.size f cdv)) (PyProof.Rows.envOfC qual (defScope s) sh.heap.objs.size f cdv) (cxOf (L2N.CX P w) P w K mg base N qual (defScope s) f cdv A outer sh H E).xe →
      MSs G (WD E) (cxOf (L2N.CX P w) P w K mg base N qual (defScope s) f cdv A outer sh H E) (defBody s) fb) : FnOk P w K mg base (L2N.CX P w) (k + 1) f fd ps (spM G n (dFn n N.length fb)) := by
  exact okXN F S (fun vs H Q E h => by rw [hn]; exact h.1) fun cdv A outer sh H vs Q E hr h => ⟨_, hbody cdv A outer sh H E hr (L2N.takes_of rfl rfl rfl rfl) (passes_of rfl), spM_body hN h⟩
theorem cal_M {x : Str} {s : Stmt} {f : Addr} {fd : FuncData} {ps : List Str} {k n : Nat} {dn : FD} (F : Fun K x x s f fd) (h : FnOk P w K mg base (L2N.CX P w) k f fd ps (spM G n dn)) (hm : mg x = some (.ref f)) (b : Binds K fd ps []) : MCal P w K mg base G k x n dn := ⟨f, fd, ps, h, hm, F.kp, b⟩
theorem MCal.mono {j k : Nat} {x : Str} {n : Nat} {dn : FD} (c : MCal P w K mg base G j x n dn) (h : j ≤ k) : MCal P w K mg base G k x n dn := by
  obtain ⟨f, fd, ps, F, r⟩ := c.ex
  exact ⟨f, fd, ps, F.mono h, r⟩
end

/-! ### calls that hand on things of one's own -/
abbrev DenS := Env → Sto → Res (List S)
@[simp] def aNil : DenS := fun _ st => .ok [] st
@[simp] def aVal (f : Den) (h : DenS) : DenS := fun ρ st => (f ρ st).bind fun d st => (h ρ st).bind fun ds st => .ok (.p d :: ds) st
@[simp] def aRef (i : Nat) (h : DenS) : DenS := fun ρ st => match ρ[i]? with | some (some s) => (h ρ st).bind fun ds st => .ok (s :: ds) st | _ => .stuck
@[simp] def eCallS (n : Nat) (dn : FD) (f : DenS) : Den := fun ρ st => (f ρ st).bind fun ss st => if ss.length = n then dn ss st else .stuck
def PostA (G : Wd) (Z : Zone) (W : WX) (σ : St) (L : List Addr) (st : Sto) (H : Hp) (r : Res (List S)) (Q : List V → Hp → Prop) : Prop := match r with
  | .ok d st' => ∀ v H' L', Fw Z L st H L' st' H' → StOk G Z L' st' H' → SReps G (Zof Z L' st') H' L' d v → Q v H'
  | .exc c fs st' => ExP G Z L st H c fs st' fun cv dd H' => W cv dd σ H'
  | .stuck => False
def tMAS (G : Wd) (W : WX) (f : DenS) : TA := fun σ H Q => ∃ Z ρ st L, Stt G Z ρ st L σ H ∧ PostA G Z W σ L st H (f ρ st) Q
abbrev MAS (G : Wd) (W : WX) (X : Cx) (es : List Expr) (f : DenS) : Prop := PA X es (tMAS G W f)
section
variable {G : Wd} {W : WX} {X : Cx} {Z Z' : Zone} {H H' : Hp} {L L' : List Addr} {st st' : Sto} {e : Expr} {es : List Expr} {pos : Pos}
theorem PostA.on {σ : St} {r : Res (List S)} {Q : List V → Hp → Prop} (f : Fw Z L st H L' st' H') (h : PostA G Z W σ L st H r Q) : PostA G Z W σ L' st' H' r Q := by
  cases r with
  | ok d s => exact fun v H2 L2 g o r => h v H2 L2 (f.trans g) o r
  | exc c fs s => exact ExP.on (P := fun cv dd H' => W cv dd σ H') f h
  | stuck => exact h
theorem PostA.bind {α β : Type} {R : Zone → Hp → α → β → Prop} {σ : St} {r : Res α} {k : α → Sto → Res (List S)} {Q' : List V → Hp → Prop} {Q : β → Hp → Prop}
    (h : PostA G Z W σ L st H (r.bind k) Q') (hk : ∀ d st1 v H1 L1, r = .ok d st1 → Fw Z L st H L1 st1 H1 → StOk G Z L1 st1 H1 → R (Zof Z L1 st1) H1 d v → PostA G Z W σ L1 st1 H1 (k d st1) Q' → Q v H1) : PostR G Z W R σ L st H r Q := by
  cases r with
  | ok d st1 => exact fun v H1 L1 f o rv => hk d st1 v H1 L1 rfl f o rv (PostA.on f h)
  | exc c fs st1 => exact h
  | stuck => exact h
theorem PostA.bindA {σ : St} {r : Res (List S)} {k : List S → Sto → Res (List S)} {Q' Q : List V → Hp → Prop}
    (h : PostA G Z W σ L st H (r.bind k) Q') (hk : ∀ d st1 v H1 L1, r = .ok d st1 → Fw Z L st H L1 st1 H1 → StOk G Z L1 st1 H1 → SReps G (Zof Z L1 st1) H1 L1 d v → PostA G Z W σ L1 st1 H1 (k d st1) Q' → Q v H1) : PostA G Z W σ L st H r Q := by
  cases r with
  | ok d st1 => exact fun v H1 L1 f o rv => hk d st1 v H1 L1 rfl f o rv (PostA.on f h)
  | exc c fs st1 => exact h
  | stuck => exact h
theorem mas_nil : MAS G W X [] aNil := PA.imp pa_nil fun σ H Q q => by
  obtain ⟨Z, ρ, st, L, S, q⟩ := q
  exact q _ H L Fw.refl S.ok .nil
theorem mas_val {f : Den} {h : DenS} (ha : ME G W X e f) (hr : MAS G W X es h) (hs : starEach (e :: es) X.env = (false, eval e X.env) :: starEach es X.env := by rfl) : MAS G W X (e :: es) (aVal f h) := PA.imp (pa_cons ha hr hs) fun σ H Q q => by
  obtain ⟨Z, ρ, st, L, S, q⟩ := q
  refine ⟨Z, ρ, st, L, S, PostA.bind q fun d st1 x H1 L1 e f1 o1 r1 q1 => ?_⟩
  refine ⟨Z, ρ, st1, L1, S.to f1 o1, PostA.bindA q1 fun d2 st2 y H2 L2 e2 f2 o2 r2 q2 => ?_⟩
  exact q2 _ H2 L2 Fw.refl o2 (.cons (.p (r1.mono f2.keeps)) r2)
theorem mas_ref {x : Str} {i : Nat} {h : DenS} {p : Pos} (hv : PE X (.Name x p) (tVar i)) (hr : MAS G W X es h) (hs : starEach ((.Name x p) :: es) X.env = (false, eval (.Name x p) X.env) :: starEach es X.env := by rfl) : MAS G W X ((.Name x p) :: es) (aRef i h) := PA.imp (pa_cons hv hr hs) fun σ H Q q => by
  obtain ⟨Z, ρ, st, L, S, q⟩ := q
  unfold aRef at q
  split at q
  · rename_i s es
    obtain ⟨v, ev, rv⟩ := S.env.2 i _ es
    refine ⟨v, ev, Z, ρ, st, L, S, PostA.bindA q fun d2 st2 y H2 L2 e2 f2 o2 r2 q2 => ?_⟩
    exact q2 _ H2 L2 Fw.refl o2 (.cons (rv.mono f2) r2)
  · exact q.elim
theorem me_callS {k : Nat} {x : Str} {n : Nat} {dn : FD} {p pos : Pos} {f : DenS} (c : MCal X.prog X.w X.K X.mg X.base G k x n dn) (hr : Room k X.A) (tk : L2N.Takes X W) (ha : MAS G W X (e :: es) f) (hg : Gl X x := by rfl)
    (hdb : (x == ("__debug__" : Str)) = false := by decide) (he : starEach (e :: es) X.env = (false, eval e X.env) :: starEach es X.env := by rfl) (hpl : (backTo pos (starEach es X.env)).any (·.1) = false := by rfl) :
    ME G W X (.Call (.Name x p) (e :: es) [] pos) (eCallS n dn f) := by
  obtain ⟨fa, fd, ps, F, hm, kp, b⟩ := c.ex
  refine PE.imp (pe_callS (E := WE W) F hr hg hm kp b (fun σ => L2N.passAt tk σ) ha hdb he hpl) fun σ H Q q => ?_
  obtain ⟨Z, ρ, st, L, S, q⟩ := q
  refine ⟨Z, ρ, st, L, S, ?_⟩
  unfold eCallS at q
  revert q
  cases f ρ st with
  | stuck => exact fun q => q
  | exc c fs s => exact fun q => q
  | ok ss st1 =>
    intro q vs H1 L1 f1 o1 r1
    have q : PostR G Z W (RD G) σ L st H (if ss.length = n then dn ss st1 else .stuck) Q := q
    by_cases hn : ss.length = n
    · rw [if_pos hn] at q
      refine ⟨by rw [← r1.length]; exact hn, Z, ss, st1, L1, o1, r1, ?_⟩
      revert q
      cases dn ss st1 with
      | stuck => exact fun q => q
      | ok d s => exact fun q v H2 L2 g o r => q v H2 L2 (f1.trans g) o r
      | exc c fs s => exact fun q => ExP.on (P := fun cv dd H' => W cv dd σ H') f1 q
    · rw [if_neg hn] at q
      exact q.elim
end

/-! ### lists of one's own made by display, by * -/
@[simp] noncomputable def nLst (f : DenL) : Env → Sto → Res O := fun ρ st => (f ρ st).bind fun ds st => if ds.length ≤ sizeLine then .ok (.lst ds) st else .stuck
section
variable {G : Wd} {W : WX} {X : Cx} {Z Z' : Zone} {H H' : Hp} {L L' : List Addr} {st st' : Sto} {e : Expr} {es : List Expr} {pos : Pos}
theorem FwN.mk_new {p : Addr} {o : HO} {L0 : List Addr} {st0 : Sto} {H0 : Hp} (f : Fw Z L0 st0 H0 L st H) (S : StOk G Z L st H) (h : H p = none) : FwN G Z L0 st0 H0 L st (upd H p o) p :=
  ⟨f.trans (Fw.same (same_new h)), S.enter h, by
    cases q : H0 p with
    | none => rfl
    | some u => exact absurd h (f.there p (by rw [q]; simp))⟩
theorem mn_lst {f : DenL} (h : MA G W X es f) : MN G W X (.List es pos) (nLst f) := PE.imp (pe_lst h) fun σ H Q q => by
  obtain ⟨Z, ρ, st, L, S, q⟩ := q
  refine ⟨Z, ρ, st, L, S, ?_⟩
  unfold nLst at q
  revert q
  cases f ρ st with
  | stuck => exact fun q => q
  | exc c fs s => exact fun q => q
  | ok ds st1 =>
    intro q xs H1 L1 f1 o1 r1
    have q : match (if ds.length ≤ sizeLine then .ok (.lst ds) st1 else .stuck : Res O) with
      | .ok o st' => ∀ p H' L', FwN G Z L st H L' st' H' p → OOk G (Zof (fun a => Z a ∨ a = p) L' st') H' L' p o → Q (.ref p) H'
      | .exc c fs st' => ExP G Z L st H c fs st' fun cv dd H' => W cv dd σ H'
      | .stuck => False := q
    by_cases hz : ds.length ≤ sizeLine
    · rw [if_pos hz] at q
      exact ⟨by rw [← r1.length]; exact hz, fun p hp => q p _ L1 (FwN.mk_new f1 o1 hp) ⟨xs, upd_same, r1.mono (keeps_new hp)⟩⟩
    · rw [if_neg hz] at q
      exact q.elim
/-- xs * n, a list of one's own -/
noncomputable def repO (d e : D) : Option O := match d, e with
  | .lst xs, .int k => if k < 4611686018427387904 ∧ -4611686018427387904 < k ∧ xs.length * k.toNat ≤ sizeLine then some (.lst (List.replicate k.toNat xs).flatten) else none
  | _, _ => none
@[simp] noncomputable def nRep (f h : Den) : Env → Sto → Res O := fun ρ st => (f ρ st).bind fun d st => (h ρ st).bind fun e st => match repO d e with | some o => .ok o st | none => .stuck

theorem mn_rep {a b : Expr} {f h : Den} (ha : ME G W X a f) (hb : ME G W X b h) : MN G W X (.BinOp a .Mult b pos) (nRep f h) := PE.imp (pe_op op_repR ha hb) fun σ H Q q => by
  obtain ⟨Z, ρ, st, L, S, q⟩ := q
  refine ⟨Z, ρ, st, L, S, ?_⟩
  unfold nRep at q
  revert q
  cases f ρ st with
  | stuck => exact fun q => q
  | exc c fs s => exact fun q => q
  | ok d st1 =>
    intro q x H1 L1 f1 o1 r1
    refine ⟨Z, ρ, st1, L1, S.to f1 o1, ?_⟩
    have q : match ((h ρ st1).bind fun e st => match repO d e with | some o => .ok o st | none => .stuck : Res O) with
      | .ok o st' => ∀ p H' L', FwN G Z L st H L' st' H' p → OOk G (Zof (fun a => Z a ∨ a = p) L' st') H' L' p o → Q (.ref p) H'
      | .exc c fs st' => ExP G Z L st H c fs st' fun cv dd H' => W cv dd σ H'
      | .stuck => False := q
    revert q
    cases h ρ st1 with
    | stuck => exact fun q => q.elim
    | exc c fs s => exact fun q => ExP.on (P := fun cv dd H' => W cv dd σ H') f1 q
    | ok e st2 =>
      intro q y H2 L2 f2 o2 r2
      have r1 := r1.mono f2.keeps
      have q : match (match repO d e with | some o => .ok o st2 | none => .stuck : Res O) with
        | .ok o st' => ∀ p H' L', FwN G Z L st H L' st' H' p → OOk G (Zof (fun a => Z a ∨ a = p) L' st') H' L' p o → Q (.ref p) H'
        | .exc c fs st' => ExP G Z L st H c fs st' fun cv dd H' => W cv dd σ H'
        | .stuck => False := q
      cases er : repO d e with
      | none => rw [er] at q; exact q.elim
      | some o =>
        rw [er] at q
        have q : ∀ p H' L', FwN G Z L st H L' st2 H' p → OOk G (Zof (fun a => Z a ∨ a = p) L' st2) H' L' p o → Q (.ref p) H' := q
        unfold repO at er
        split at er
        · split at er
          · rename_i hz
            cases er
            obtain ⟨a, vs, rfl, ha, ra⟩ := r1.list'
            have l1 := ra.length
            exact ⟨a, _, vs, rfl, r2.int', ha, by omega, by omega, by rw [← l1]; exact hz.2.2, fun p hp => q p _ L2 (FwN.mk_new (f1.trans f2) o2 hp) ⟨_, upd_same, (ra.rep _).mono (keeps_new hp)⟩⟩
          · cases er
        · cases er
/-- a new thing of one's own as an argument, as a part of a parallel assignment -/
@[simp] def aNew (f : Env → Sto → Res O) (h : DenS) : DenS := fun ρ st => (f ρ st).bind fun o st => (h ρ (st ++ [o])).bind fun ds st2 => .ok (.r st.length :: ds) st2
theorem mas_new {f : Env → Sto → Res O} {h : DenS} (ha : MN G W X e f) (hr : MAS G W X es h) (hs : starEach (e :: es) X.env = (false, eval e X.env) :: starEach es X.env := by rfl) : MAS G W X (e :: es) (aNew f h) := PA.imp (pa_cons ha hr hs) fun σ H Q q => by
  obtain ⟨Z, ρ, st, L, S, q⟩ := q
  refine ⟨Z, ρ, st, L, S, ?_⟩
  unfold aNew at q
  revert q
  cases f ρ st with
  | stuck => exact fun q => q
  | exc c fs s => exact fun q => q
  | ok o st1 =>
    intro q p H1 L1 fn ok
    obtain ⟨f2, o2, e2⟩ := alloc S fn ok
    have q2 : PostA G Z W σ (L1 ++ [p]) (st1 ++ [o]) H1 ((h ρ (st1 ++ [o])).bind fun ds st2 => .ok (.r st1.length :: ds) st2) Q := PostA.on f2 q
    refine ⟨Z, ρ, st1 ++ [o], L1 ++ [p], ⟨o2, e2⟩, PostA.bindA q2 fun ds st2 y H2 L2 e2 f3 o3 r3 q3 => ?_⟩
    refine q3 _ H2 L2 Fw.refl o3 (.cons (.r (f3.get ?_)) r3)
    rw [← fn.ok.len, List.getElem?_append_right (Nat.le_refl _)]
    simp
/-! ### parallel assignments to names -/
def setAll : List Nat → List S → Env → Option Env
  | [], [], ρ => some ρ
  | i :: is, s :: ss, ρ => setAll is ss (ρ.set i (some s))
  | _, _, _ => none
@[simp] def sPar (is : List Nat) (f : DenS) : SDen := fun ρ st => sOf f (fun ss ρ st => match setAll is ss ρ with | some ρ => .next ρ st | none => .stuck) ρ st
theorem PostA.ofS {σ : St} {ρ : Env} {f : DenS} {K : List S → Env → Sto → SRes} {E : Ends} {Q : List V → Hp → Prop} (SS : Stt G Z ρ st L σ H) (h : PostS G Z W L st H (sOf f K ρ st) E)
    (hk : ∀ d st1 v H1 L1, f ρ st = .ok d st1 → Fw Z L st H L1 st1 H1 → Stt G Z ρ st1 L1 σ H1 → SReps G (Zof Z L1 st1) H1 L1 d v → PostS G Z W L1 st1 H1 (K d ρ st1) E → Q v H1) : PostA G Z W σ L st H (f ρ st) Q := by
  unfold sOf at h
  revert h hk
  cases f ρ st with
  | ok d st1 => exact fun h hk v H1 L1 f o rv => hk d st1 v H1 L1 rfl f (SS.to f o) rv (PostS.on f h)
  | exc c fs st1 => exact fun h hk H' L' C dd vfs f o hC hd hr => h σ H' L' C dd vfs f (SS.to f o) hC hd hr
  | stuck => exact fun h hk => h
/-- names set one after another from the left -/
def gsNames : List Nat → TGs
  | [] => gNil
  | i :: is => gCons (gName i) (gsNames is)
theorem gs_names : ∀ {is : List Nat} {ss : List S} {vs : List V} {ρ ρ' : Env} {σ : St} {Z : Zone} {H : Hp} {L : List Addr} {Q : St → Hp → Prop}, EnvOk G Z H L ρ σ → SReps G Z H L ss vs → setAll is ss ρ = some ρ' → (∀ σ', EnvOk G Z H L ρ' σ' → Q σ' H) → gsNames is vs σ H Q
  | [], [], _, ρ, ρ', σ, _, _, _, _, E, .nil, e, q => by
    cases e
    exact ⟨rfl, q σ E⟩
  | i :: is, s :: ss, _, ρ, ρ', σ, Z, H, L, Q, E, .cons r t, e, q => by
    refine ⟨_, _, rfl, ?_⟩
    exact gs_names (E.set i r) t e q
  | [], _ :: _, _, _, _, _, _, _, _, _, _, _, e, _ => by cases e
  | _ :: _, [], _, _, _, _, _, _, _, _, _, _, e, _ => by cases e
theorem ms_parT {ts : List Expr} {f : DenS} {is : List Nat} {k k2 : Nat} {p1 p2 : Pos} {n : Nat} (hK : G.K = X.K) (hc : X.calm = true) (ha : MAS G W X es f) (hg : PGs X ts (gsNames is)) (hn : (assignEach ts X.env).length = n := by rfl) (hst : (assignEach ts X.env).findIdx? (·.1) = none := by rfl) (hlen : is.length = n := by rfl)
    (hs : swapsWithSole [.Tuple ts k p1] (.Tuple es k2 p2) pos.line X.env = pure false := by rfl) (hw : swappedStores [.Tuple ts k p1] (.Tuple es k2 p2) X.env = pure none := by rfl)
    (h1 : (assignEach [.Tuple ts k p1] X.env).map (·.2) = [assign (.Tuple ts k p1) X.env] := by rfl) (hsz : is.length ≤ sizeLine := by rw [sizeLine_eq]; decide) : MS G W X (.Assign [.Tuple ts k p1] (.Tuple es k2 p2) pos) (sPar is f) := PS.imp (ps_asg (pe_tup ha) (pg_tup hc hg hn hst) hs hw h1) fun E σ H q => by
  obtain ⟨Z, ρ, st, L, S, q⟩ := q
  refine ⟨Z, ρ, st, L, S, PostA.ofS (K := fun ss ρ st => match setAll is ss ρ with | some ρ => .next ρ st | none => .stuck) S q fun ss st1 v H1 L1 e1 f1 S1 r1 q1 => ?_⟩
  have q1 : PostS G Z W L1 st1 H1 (match setAll is ss ρ with | some ρ => .next ρ st1 | none => .stuck) E := q1
  split at q1
  · rename_i ρ' eg
    have hl : ∀ (is : List Nat) (ss : List M.S) (ρ ρ' : Env), setAll is ss ρ = some ρ' → ss.length = is.length := by
      intro is
      induction is with
      | nil => intro ss ρ ρ' e; cases ss with | nil => rfl | cons _ _ => cases e
      | cons i is ih => intro ss ρ ρ' e; cases ss with | nil => cases e | cons s ss => exact congrArg (· + 1) (ih ss _ _ e)
    have l1 := hl is ss ρ ρ' eg
    have l2 := r1.length
    refine ⟨by omega, fun p hp => ⟨p, v, rfl, .inl (.inl upd_same), by omega, ?_⟩⟩
    have sm := same_new (o := .tup v) hp
    have f2 : Fw Z L1 st1 H1 L1 st1 (upd H1 p (.tup v)) := Fw.same sm
    exact gs_names (S1.env.mono f2) (r1.mono f2) eg fun σ' E' => q1 σ' _ L1 f2 ⟨S1.ok.same sm, E'⟩
  · exact q1.elim
theorem ms_par2 {i j : Nat} {x y : Str} {a b : Expr} {px py pt : Pos} {kt k2 pt2} {f : DenS} (hc : X.calm = true) (hN : X.N.Nodup) (ha : MAS G W X [a, b] f) (hi : X.N[i]? = some x := by rfl) (hj : X.N[j]? = some y := by rfl) (hij : i ≠ j := by decide)
    (hx : X.env.scope.names.lookup x = some .local := by rfl) (hy : X.env.scope.names.lookup y = some .local := by rfl)
    (hw : swappedStores [.Tuple [.Name x px, .Name y py] kt pt] (.Tuple [a, b] k2 pt2) X.env = pure (some [x, y]) := by rfl)
    (hs : swapsWithSole [.Tuple [.Name x px, .Name y py] kt pt] (.Tuple [a, b] k2 pt2) pos.line X.env = pure false := by rfl) :
    MS G W X (.Assign [.Tuple [.Name x px, .Name y py] kt pt] (.Tuple [a, b] k2 pt2) pos) (sPar [i, j] f) := PS.imp (ps_par hc hN hi hj hij hx hy ha hw hs) fun E σ H q => by
  obtain ⟨Z, ρ, st, L, S, q⟩ := q
  refine ⟨Z, ρ, st, L, S, PostA.ofS (K := fun ss ρ st => match setAll [i, j] ss ρ with | some ρ => .next ρ st | none => .stuck) S q fun ss st1 v H1 L1 e1 f1 S1 r1 q1 => ?_⟩
  have q1 : PostS G Z W L1 st1 H1 (match setAll [i, j] ss ρ with | some ρ => .next ρ st1 | none => .stuck) E := q1
  match ss, r1, q1 with
  | [s1, s2], .cons r1 (.cons r2 .nil), q1 => exact ⟨_, _, rfl, q1 _ H1 L1 Fw.refl ⟨S1.ok, (S1.env.set i r1).set j r2⟩⟩
  | [], _, q1 => exact q1.elim
  | [_], _, q1 => exact q1.elim
  | _ :: _ :: _ :: _, _, q1 => exact q1.elim
theorem ms_par3 {i j l : Nat} {x y z : Str} {a b c : Expr} {px py pz pt : Pos} {kt k2 pt2} {f : DenS} (hc : X.calm = true) (hN : X.N.Nodup) (ha : MAS G W X [a, b, c] f) (hi : X.N[i]? = some x := by rfl) (hj : X.N[j]? = some y := by rfl) (hl : X.N[l]? = some z := by rfl) (hij : i ≠ j := by decide) (hil : i ≠ l := by decide) (hjl : j ≠ l := by decide)
    (hx : X.env.scope.names.lookup x = some .local := by rfl) (hy : X.env.scope.names.lookup y = some .local := by rfl) (hz : X.env.scope.names.lookup z = some .local := by rfl)
    (hw : swappedStores [.Tuple [.Name x px, .Name y py, .Name z pz] kt pt] (.Tuple [a, b, c] k2 pt2) X.env = pure (some [x, y, z]) := by rfl)
    (hs : swapsWithSole [.Tuple [.Name x px, .Name y py, .Name z pz] kt pt] (.Tuple [a, b, c] k2 pt2) pos.line X.env = pure false := by rfl) :
    MS G W X (.Assign [.Tuple [.Name x px, .Name y py, .Name z pz] kt pt] (.Tuple [a, b, c] k2 pt2) pos) (sPar [i, j, l] f) := PS.imp (ps_par3 hc hN hi hj hl hij hil hjl hx hy hz ha hw hs) fun E σ H q => by
  obtain ⟨Z, ρ, st, L, S, q⟩ := q
  refine ⟨Z, ρ, st, L, S, PostA.ofS (K := fun ss ρ st => match setAll [i, j, l] ss ρ with | some ρ => .next ρ st | none => .stuck) S q fun ss st1 v H1 L1 e1 f1 S1 r1 q1 => ?_⟩
  have q1 : PostS G Z W L1 st1 H1 (match setAll [i, j, l] ss ρ with | some ρ => .next ρ st1 | none => .stuck) E := q1
  match ss, r1, q1 with
  | [s1, s2, s3], .cons r1 (.cons r2 (.cons r3 .nil)), q1 => exact ⟨_, _, _, rfl, q1 _ H1 L1 Fw.refl ⟨S1.ok, ((S1.env.set i r1).set j r2).set l r3⟩⟩
  | [], _, q1 => exact q1.elim
  | [_], _, q1 => exact q1.elim
  | [_, _], _, q1 => exact q1.elim
  | _ :: _ :: _ :: _ :: _, _, q1 => exact q1.elim
/-- a constant of the module -/
theorem me_glob {x : Str} {d : D} {v : V} {u : Value} {p : Pos} (hm : X.mg x = some u) (r : RelV v u) (rd : ∀ Z H, Rep G Z H d v) (hg : Gl X x := by rfl) (hd : (x == ("__debug__" : Str)) = false := by decide) : ME G W X (.Name x p) (eC d) := me_c (pe_glob hg hm r hd) rd
theorem me_gint {x : Str} {i : Int} {t : Tok} {p : Pos} (hm : X.mg x = some (.int i t)) (hg : Gl X x := by rfl) (hd : (x == ("__debug__" : Str)) = false := by decide) : ME G W X (.Name x p) (eC (.int i)) := me_c (pe_glob (v := .int i) hg hm ⟨_, rfl⟩ hd) fun _ _ => .int i
theorem me_gstr {x : Str} {i : Str} {t : Tok} {p : Pos} (hm : X.mg x = some (.str i t)) (hg : Gl X x := by rfl) (hd : (x == ("__debug__" : Str)) = false := by decide) : ME G W X (.Name x p) (eC (.str i)) := me_c (pe_glob (v := .str i) hg hm ⟨_, rfl⟩ hd) fun _ _ => .str i
/-- isinstance(e, (T1, T2)) -/
def dIsi2 (T U : String) (d : D) : Option D := (tyName d).bind fun n => (kitB n T).bind fun b => (kitB n U).map fun c => .bl (b || c)
theorem me_isi2 {T U : String} {y z : Str} {p py pz pt : Pos} {k : Nat} {f : Den} (hK : G.K = X.K) (hm : X.mg "isinstance" = none) (hv : bootBuiltins y = some (.type T)) (hv2 : bootBuiltins z = some (.type U)) (hmy : X.mg y = none) (hmz : X.mg z = none) (ha : ME G W X e f)
    (hgy : Gl X y := by rfl) (hny : y ≠ "__name__" := by decide) (hdby : (y == ("__debug__" : Str)) = false := by decide) (hgz : Gl X z := by rfl) (hnz : z ≠ "__name__" := by decide) (hdbz : (z == ("__debug__" : Str)) = false := by decide) (hg : Gl X "isinstance" := by rfl)
    (hs : starEach [e, .Tuple [.Name y py, .Name z pz] k pt] X.env = (false, eval e X.env) :: starEach [.Tuple [.Name y py, .Name z pz] k pt] X.env := by rfl) (hs2 : starEach [.Tuple [.Name y py, .Name z pz] k pt] X.env = (false, eval (.Tuple [.Name y py, .Name z pz] k pt) X.env) :: starEach [] X.env := by rfl)
    (hs3 : starEach [.Name y py, .Name z pz] X.env = (false, eval (.Name y py) X.env) :: starEach [.Name z pz] X.env := by rfl) (hs4 : starEach [.Name z pz] X.env = (false, eval (.Name z pz) X.env) :: starEach [] X.env := by rfl)
    (hpl : (backTo pos (starEach [.Tuple [.Name y py, .Name z pz] k pt] X.env)).any (·.1) = false := by rfl) :
    ME G W X (.Call (.Name "isinstance" p) [e, .Tuple [.Name y py, .Name z pz] k pt] [] pos) (eOp1 (dIsi2 T U) f) :=
  PE.imp (pe_callB call_isiT hg hm (by decide +kernel) (pa_cons ha (pa_cons (pe_tup (pa_cons (pe_bltn (v := .ty T) hgy hmy hv rfl hny hdby) (pa_cons (pe_bltn (v := .ty U) hgz hmz hv2 rfl hnz hdbz) pa_nil hs4) hs3)) pa_nil hs2) hs) (by decide) (by decide) hs hpl) fun σ H Q q => by
    obtain ⟨Z, ρ, st, L, S, q⟩ := q
    refine ⟨Z, ρ, st, L, S, PostR.bind q fun d st1 x H1 L1 e f1 o1 r1 q1 => ?_⟩
    refine ⟨by show 2 ≤ sizeLine; rw [sizeLine_eq]; omega, fun t ht => ?_⟩
    split at q1
    · rename_i w ez
      unfold dIsi2 at ez
      obtain ⟨n, h1, h2⟩ := Option.bind_eq_some_iff.mp ez
      obtain ⟨b, h3, h4⟩ := Option.bind_eq_some_iff.mp h2
      obtain ⟨c, h5, h6⟩ := Option.map_eq_some_iff.mp h4
      subst h6
      have sm := same_new (o := .tup [.ty T, .ty U]) ht
      refine ⟨_, t, [.ty T, .ty U], .type n, [.type T, .type U], b || c, rfl, upd_same, .cons (.ty T) (.cons (.ty U) .nil), View.tyx hK (.rep (r1.mono (Same.keeps sm))) h1, ?_, q1 _ _ L1 (Fw.same sm) (o1.same sm) (.bl _)⟩
      refine kitAny_cons (kit_ty h3) (fun hb => ?_) (fun hb => by rw [hb]; rfl)
      refine kitAny_cons (kit_ty h5) (fun hc => ?_) (fun hc => by rw [hb, hc]; rfl)
      rw [hb, hc]
      exact kitAny_nil
    · exact q1.elim
end

/-! ### for the printed derivations -/
section
variable {G : Wd} {W : WX} {X : Cx}
theorem hu65 {k : Nat} {A : Around} (r : Room k A) : A.units + 65 < cLine := by have := r.un; omega
theorem hu64 {k : Nat} {A : Around} (r : Room k A) : A.units + 64 < cLine := r.units
theorem gsim_name {vs : List Nat} (i : Nat) (hv : i ∈ vs := by decide) : GSim G (gName i) (gN i) vs := fun Z H L d v ρ σ ρ' Q E r e q => by
  cases e
  exact q _ (E.set i (.p r)) (wipe_set hv)
theorem gssim_nil {vs : List Nat} : GsSim G gNil gsNil vs := fun Z H L d v ρ σ ρ' Q E r e q => by
  cases r with
  | nil => cases e; exact ⟨rfl, q σ E rfl⟩
  | cons _ _ => cases e
theorem gssim_cons {ga : TG} {gb : TGs} {g : GD} {h : List D → Env → Option Env} {vs : List Nat} (a2 : GSim G ga g vs) (b2 : GsSim G gb h vs) : GsSim G (gCons ga gb) (gsCons g h) vs := fun Z H L d v ρ σ ρ' Q E r e q => by
  cases r with
  | nil => cases e
  | cons r t =>
    obtain ⟨ρ1, e1, e2⟩ := Option.bind_eq_some_iff.mp e
    refine ⟨_, _, rfl, a2 _ _ _ _ _ _ _ ρ1 _ E r e1 fun σ1 E1 w1 => ?_⟩
    exact b2 _ _ _ _ _ _ _ ρ' _ E1 t e2 fun σ2 E2 w2 => q σ2 E2 (w2.trans w1)
theorem gsim_tup {ga : TGs} {g : List D → Env → Option Env} {vs : List Nat} {n : Nat} {K : PySem.W.Frag} (hK : G.K = K) (a2 : GsSim G ga g vs) : GSim G (gTup K n ga) (gT g n) vs := fun Z H L d v ρ σ ρ' Q E r e q => by
  unfold gT at e
  split at e
  · split at e
    · rename_i ds hl
      obtain ⟨a, ws, rfl, ha, ra⟩ := r.tup'
      exact ⟨a, ws, rfl, hK ▸ ha, by rw [← ra.length]; exact hl, a2 _ _ _ _ _ _ _ ρ' _ E ra e q⟩
    · cases e
  · cases e
end

section
variable {G : Wd} {W : WX} {X : Cx} {pos : Pos}
theorem own_of {f : Env → Sto → Res O} {σ : St} {H : Hp} {Q : VK} (q : tM G W (ePure f) σ H Q) : tMN G W f σ H Q := by
  obtain ⟨Z, ρ, st, L, S, q⟩ := q
  refine ⟨Z, ρ, st, L, S, ?_⟩
  cases ef : f ρ st with
  | stuck => simp only [ePure, ef, Res.bind] at q; exact q
  | exc c fs st1 => simp only [ePure, ef, Res.bind] at q; exact q
  | ok o st1 =>
    simp only [ePure, ef, Res.bind] at q
    intro p H1 L1 fn ok
    have o1 : StOk G Z L1 st1 H1 := fn.ok.shrink fun a z => .inl z
    have zp : ¬ Zof Z L1 st1 p := fun z => by
      rcases z with z | ⟨n, u, e1, _⟩
      · exact S.ok.z0 p z fn.new
      · exact fn.ok.zl p (List.mem_of_getElem? e1) (.inr rfl)
    have zz : ∀ a, Zof Z L1 st1 a → Zof (fun a => Z a ∨ a = p) L1 st1 a := zof_mono fun a z => .inl z
    cases o with
    | lst ds =>
      obtain ⟨vs, h1, h2⟩ := ok
      exact q _ H1 L1 fn.fr o1 (.lst (.inl h1) zp (h2.zone zz))
    | dic ds =>
      obtain ⟨kvs, h1, h2⟩ := ok
      exact q _ H1 L1 fn.fr o1 (.dK (.inl h1) zp (h2.zone zz))
    | diT ds =>
      obtain ⟨kvs, h1, h2⟩ := ok
      exact q _ H1 L1 fn.fr o1 (.dT (.inl h1) zp (h2.zone zz))
    | frz d => exact q _ H1 L1 fn.fr o1 (Rep.zone zz ok)
    | ins c fs => exact q.elim
    | dead => exact q.elim
theorem setQ {f : Den} {i : Nat} {σ : St} {H : Hp} {E : Ends} (q : tMS G W (sSet i f) E σ H) : tM G W f σ H fun x H1 => gName i x σ H1 E.nx := by
  obtain ⟨Z, ρ, st, L, S, q⟩ := q
  exact ⟨Z, ρ, st, L, S, PostR.bindS S q fun d st1 v H1 L1 e1 f1 S1 r1 q1 => q1 _ H1 L1 Fw.refl ⟨S1.ok, S1.env.set i (.p r1)⟩⟩
section
variable {tg elt iter : Expr} {ifs : List Expr} {scope : Scope} {own : List (Str × Nat)} {fi : DenL} {gm : GD} {ft : DenB} {fe : Den} {g : TG} {y : Str} {py spos : Pos}
theorem ms_setComp (i : Nat) (hc : X.calm = true) (hN : X.N.Nodup) (hi : MI G W X tg iter fi) (ok : BlkOk X.N X.env.scope scope own) (hsim : GSim G g gm (own.map (·.2)))
    (hg : ∀ (s : Shared) (H : Hp) (C : Addr) (cl : List (Str × Addr)) (fp : List Addr), PG (X.blk s H scope (compEnvC scope cl C X.env) fp) tg g) (ht : ∀ (s : Shared) (H : Hp) (C : Addr) (cl : List (Str × Addr)) (fp : List Addr), MTs G W0 (X.blk s H scope (compEnvC scope cl C X.env) fp) ifs ft)
    (he : ∀ (s : Shared) (H : Hp) (C : Addr) (cl : List (Str × Addr)) (fp : List Addr), ME G W0 (X.blk s H scope (compEnvC scope cl C X.env) fp) elt fe)
    (hsw : swapsWith (.ListComp elt [⟨tg, iter, ifs, 0⟩] scope pos) (some (.Name y py)) spos.line X.env = pure true) (hy : X.N[i]? = some y := by rfl) (hyl : X.env.scope.names.lookup y = some .local := by rfl) (hs : ∀ x, foldedSetIterable iter X.env x = pure x := by intro _; rfl) :
    MS G W X (.Assign [.Name y py] (.ListComp elt [⟨tg, iter, ifs, 0⟩] scope pos) spos) (sSet i (ePure (eComp fi gm ft fe (own.map (·.2))))) :=
  PS.imp (ps_setLc hc hN hy hyl hsw hi ok hg ht he hs) fun E σ H q => comp_core hsim (own_of (setQ q))
theorem ms_newComp (i : Nat) (hc : X.calm = true) (hN : X.N.Nodup) (hi : MI G W X tg iter fi) (ok : BlkOk X.N X.env.scope scope own) (hsim : GSim G g gm (own.map (·.2)))
    (hg : ∀ (s : Shared) (H : Hp) (C : Addr) (cl : List (Str × Addr)) (fp : List Addr), PG (X.blk s H scope (compEnvC scope cl C X.env) fp) tg g) (ht : ∀ (s : Shared) (H : Hp) (C : Addr) (cl : List (Str × Addr)) (fp : List Addr), MTs G W0 (X.blk s H scope (compEnvC scope cl C X.env) fp) ifs ft)
    (he : ∀ (s : Shared) (H : Hp) (C : Addr) (cl : List (Str × Addr)) (fp : List Addr), ME G W0 (X.blk s H scope (compEnvC scope cl C X.env) fp) elt fe)
    (hsw : swapsWith (.ListComp elt [⟨tg, iter, ifs, 0⟩] scope pos) (some (.Name y py)) spos.line X.env = pure true) (hy : X.N[i]? = some y := by rfl) (hyl : X.env.scope.names.lookup y = some .local := by rfl) (hs : ∀ x, foldedSetIterable iter X.env x = pure x := by intro _; rfl) :
    MS G W X (.Assign [.Name y py] (.ListComp elt [⟨tg, iter, ifs, 0⟩] scope pos) spos) (sNew i (eComp fi gm ft fe (own.map (·.2)))) :=
  PS.imp (ps_setLc hc hN hy hyl hsw hi ok hg ht he hs) fun E σ H q => comp_core hsim (newS q)
end
end
section
variable {P : Program} {w : World} {K : PySem.W.Frag} {mg : Str → Option Value} {base : Heap} {G : Wd}
/-- a recursion's ground: nothing is promised there -/
theorem fn_stuck {x qual : Str} {s : Stmt} {f : Addr} {fd : FuncData} {N ps : List Str} {n : Nat} (F : Fun K x qual s f fd) (S : FnScope N ps (defScope s)) (hn : ps.length = n) : FnOk P w K mg base (L2N.CX P w) 1 f fd ps (spM G n fun _ _ => .stuck) := by
  refine okXN F S (fun vs H Q E h => by rw [hn]; exact h.1) fun cdv A outer sh H vs Q E hr h => ⟨tNever, pss_never, ?_⟩
  obtain ⟨hl, Z, ss, st, L, ok, r, q⟩ := h
  exact q
end

/-- the law's promise at its call -/
theorem law_sp {K : PySem.W.Frag} {G : Wd} {dn : FD} {H : Hp} {a : Addr} {ns : List Int} (m : dn [.p (.scr ns)] [] = .ok (.bl true) []) (hS : SqL K H a (ns.map V.int)) (hK : G.K = K := by rfl) (ht : TabZ G.T (fun _ => False) H := by intro p hp; cases hp) : spM G 1 dn [.ref a] H (fun v _ => v = .bl true) fun _ _ _ => False := by
  refine ⟨rfl, fun _ => False, [.p (.scr ns)], [], [], ⟨rfl, .nil, fun n a o e => by simp at e, fun a z => z.elim, fun a m => by simp at m, fun a m => by simp at m, ht.zone fun a z => zof_nil.mp z⟩, .cons (.p ?_) .nil, ?_⟩
  · rcases hS with h | h
    · exact .scr h fun z => z.elim id fun ⟨n, o, e, _⟩ => by simp at e
    · exact .scrK (hK ▸ h)
  · rw [m]
    exact fun v H' L' _ _ r => r.bl'
end M
namespace M
open PySem PySem.Spec L2
/-! ### the plain side: rules of evaluation -/
theorem kit_NoneType_int : kitB "NoneType" "int" = some false := by decide +kernel
theorem kit_bool_int : kitB "bool" "int" = some true := by decide +kernel
theorem kit_int_int : kitB "int" "int" = some true := by decide +kernel
theorem kit_str_int : kitB "str" "int" = some false := by decide +kernel
theorem kit_tuple_int : kitB "tuple" "int" = some false := by decide +kernel
theorem kit_list_int : kitB "list" "int" = some false := by decide +kernel
theorem kit_dict_int : kitB "dict" "int" = some false := by decide +kernel
theorem kit_NoneType_bool : kitB "NoneType" "bool" = some false := by decide +kernel
theorem kit_bool_bool : kitB "bool" "bool" = some true := by decide +kernel
theorem kit_int_bool : kitB "int" "bool" = some false := by decide +kernel
theorem kit_str_bool : kitB "str" "bool" = some false := by decide +kernel
theorem kit_tuple_bool : kitB "tuple" "bool" = some false := by decide +kernel
theorem kit_list_bool : kitB "list" "bool" = some false := by decide +kernel
theorem kit_dict_bool : kitB "dict" "bool" = some false := by decide +kernel
theorem kit_NoneType_str : kitB "NoneType" "str" = some false := by decide +kernel
theorem kit_bool_str : kitB "bool" "str" = some false := by decide +kernel
theorem kit_int_str : kitB "int" "str" = some false := by decide +kernel
theorem kit_str_str : kitB "str" "str" = some true := by decide +kernel
theorem kit_tuple_str : kitB "tuple" "str" = some false := by decide +kernel
theorem kit_list_str : kitB "list" "str" = some false := by decide +kernel
theorem kit_dict_str : kitB "dict" "str" = some false := by decide +kernel
theorem kit_NoneType_tuple : kitB "NoneType" "tuple" = some false := by decide +kernel
theorem kit_bool_tuple : kitB "bool" "tuple" = some false := by decide +kernel
theorem kit_int_tuple : kitB "int" "tuple" = some false := by decide +kernel
theorem kit_str_tuple : kitB "str" "tuple" = some false := by decide +kernel
theorem kit_tuple_tuple : kitB "tuple" "tuple" = some true := by decide +kernel
theorem kit_list_tuple : kitB "list" "tuple" = some false := by decide +kernel
theorem kit_dict_tuple : kitB "dict" "tuple" = some false := by decide +kernel
theorem kit_NoneType_list : kitB "NoneType" "list" = some false := by decide +kernel
theorem kit_bool_list : kitB "bool" "list" = some false := by decide +kernel
theorem kit_int_list : kitB "int" "list" = some false := by decide +kernel
theorem kit_str_list : kitB "str" "list" = some false := by decide +kernel
theorem kit_tuple_list : kitB "tuple" "list" = some false := by decide +kernel
theorem kit_list_list : kitB "list" "list" = some true := by decide +kernel
theorem kit_dict_list : kitB "dict" "list" = some false := by decide +kernel
theorem kit_NoneType_dict : kitB "NoneType" "dict" = some false := by decide +kernel
theorem kit_bool_dict : kitB "bool" "dict" = some false := by decide +kernel
theorem kit_int_dict : kitB "int" "dict" = some false := by decide +kernel
theorem kit_str_dict : kitB "str" "dict" = some false := by decide +kernel
theorem kit_tuple_dict : kitB "tuple" "dict" = some false := by decide +kernel
theorem kit_list_dict : kitB "list" "dict" = some false := by decide +kernel
theorem kit_dict_dict : kitB "dict" "dict" = some true := by decide +kernel
@[simp] theorem isi_int (d : D) : dIsi "int" d = match d with | .non => some (.bl false) | .bl _ => some (.bl true) | .int _ => some (.bl true) | .str _ => some (.bl false) | .tup _ => some (.bl false) | .lst _ => some (.bl false) | .dic _ => some (.bl false) | _ => none := by
  cases d <;> first | rfl | exact (congrArg (Option.map D.bl) (by first | exact kit_NoneType_int | exact kit_bool_int | exact kit_int_int | exact kit_str_int | exact kit_tuple_int | exact kit_list_int | exact kit_dict_int))
@[simp] theorem isi_bool (d : D) : dIsi "bool" d = match d with | .non => some (.bl false) | .bl _ => some (.bl true) | .int _ => some (.bl false) | .str _ => some (.bl false) | .tup _ => some (.bl false) | .lst _ => some (.bl false) | .dic _ => some (.bl false) | _ => none := by
  cases d <;> first | rfl | exact (congrArg (Option.map D.bl) (by first | exact kit_NoneType_bool | exact kit_bool_bool | exact kit_int_bool | exact kit_str_bool | exact kit_tuple_bool | exact kit_list_bool | exact kit_dict_bool))
@[simp] theorem isi_str (d : D) : dIsi "str" d = match d with | .non => some (.bl false) | .bl _ => some (.bl false) | .int _ => some (.bl false) | .str _ => some (.bl true) | .tup _ => some (.bl false) | .lst _ => some (.bl false) | .dic _ => some (.bl false) | _ => none := by
  cases d <;> first | rfl | exact (congrArg (Option.map D.bl) (by first | exact kit_NoneType_str | exact kit_bool_str | exact kit_int_str | exact kit_str_str | exact kit_tuple_str | exact kit_list_str | exact kit_dict_str))
@[simp] theorem isi_tuple (d : D) : dIsi "tuple" d = match d with | .non => some (.bl false) | .bl _ => some (.bl false) | .int _ => some (.bl false) | .str _ => some (.bl false) | .tup _ => some (.bl true) | .lst _ => some (.bl false) | .dic _ => some (.bl false) | _ => none := by
  cases d <;> first | rfl | exact (congrArg (Option.map D.bl) (by first | exact kit_NoneType_tuple | exact kit_bool_tuple | exact kit_int_tuple | exact kit_str_tuple | exact kit_tuple_tuple | exact kit_list_tuple | exact kit_dict_tuple))
@[simp] theorem isi_list (d : D) : dIsi "list" d = match d with | .non => some (.bl false) | .bl _ => some (.bl false) | .int _ => some (.bl false) | .str _ => some (.bl false) | .tup _ => some (.bl false) | .lst _ => some (.bl true) | .dic _ => some (.bl false) | _ => none := by
  cases d <;> first | rfl | exact (congrArg (Option.map D.bl) (by first | exact kit_NoneType_list | exact kit_bool_list | exact kit_int_list | exact kit_str_list | exact kit_tuple_list | exact kit_list_list | exact kit_dict_list))
@[simp] theorem isi_dict (d : D) : dIsi "dict" d = match d with | .non => some (.bl false) | .bl _ => some (.bl false) | .int _ => some (.bl false) | .str _ => some (.bl false) | .tup _ => some (.bl false) | .lst _ => some (.bl false) | .dic _ => some (.bl true) | _ => none := by
  cases d <;> first | rfl | exact (congrArg (Option.map D.bl) (by first | exact kit_NoneType_dict | exact kit_bool_dict | exact kit_int_dict | exact kit_str_dict | exact kit_tuple_dict | exact kit_list_dict | exact kit_dict_dict))
@[simp] theorem isi2_tl (d : D) : dIsi2 "tuple" "list" d = match d with | .non => some (.bl false) | .bl _ => some (.bl false) | .int _ => some (.bl false) | .str _ => some (.bl false) | .tup _ => some (.bl true) | .lst _ => some (.bl true) | .dic _ => some (.bl false) | _ => none := by
  cases d <;> first | rfl | (simp only [dIsi2, tyName, Option.bind_some, kit_NoneType_tuple, kit_NoneType_list, kit_bool_tuple, kit_bool_list, kit_int_tuple, kit_int_list, kit_str_tuple, kit_str_list, kit_tuple_tuple, kit_tuple_list, kit_list_tuple, kit_list_list, kit_dict_tuple, kit_dict_list, Option.map_some, Bool.or_false, Bool.or_true, Bool.or_self])

@[simp] theorem flat_non {n} : D.flat n .non = true := by cases n <;> rfl
@[simp] theorem flat_bl {n b} : D.flat n (.bl b) = true := by cases n <;> rfl
@[simp] theorem flat_int {n i} : D.flat n (.int i) = true := by cases n <;> rfl
@[simp] theorem flat_str {n x} : D.flat n (.str x) = PyData.strOk x := by cases n <;> rfl
@[simp] theorem flat_tup {n xs} : D.flat (n + 1) (.tup xs) = D.flats n xs := rfl
@[simp] theorem flat_lst {n xs} : D.flat (n + 1) (.lst xs) = D.flats n xs := rfl
@[simp] theorem flats_nil {n} : D.flats n [] = true := by cases n <;> rfl
@[simp] theorem flats_cons {n x xs} : D.flats n (x :: xs) = (D.flat n x && D.flats n xs) := by cases n <;> rfl
theorem flats_all {n : Nat} : ∀ {xs : List D}, D.flats n xs = xs.all (D.flat n)
  | [] => by simp
  | x :: xs => by simp [flats_all (xs := xs)]
def D.eqvs : List D → List D → Bool
  | [], [] => true
  | x :: xs, y :: ys => D.eqv x y && D.eqvs xs ys
  | _, _ => false
theorem eqvAll_pys : ∀ (xs ys : List D), PyData.eqvAll (D.pys xs) (D.pys ys) = D.eqvs xs ys
  | [], [] => by simp [D.pys, D.eqvs, PyData.eqvAll]
  | [], _ :: _ => by simp [D.pys, D.eqvs, PyData.eqvAll]
  | _ :: _, [] => by simp [D.pys, D.eqvs, PyData.eqvAll]
  | x :: xs, y :: ys => by simp only [D.pys, D.eqvs, PyData.eqvAll, eqvAll_pys xs ys, D.eqv]
@[simp] theorem eqv_int (i j : Int) : D.eqv (.int i) (.int j) = (i == j) := by simp [D.eqv, D.py, PyData.eqv]
@[simp] theorem eqv_str (i j : Str) : D.eqv (.str i) (.str j) = (i == j) := by simp [D.eqv, D.py, PyData.eqv]
@[simp] theorem eqv_bl (i j : Bool) : D.eqv (.bl i) (.bl j) = (i == j) := by simp [D.eqv, D.py, PyData.eqv]
@[simp] theorem eqv_nn : D.eqv .non .non = true := by simp [D.eqv, D.py, PyData.eqv]
@[simp] theorem eqv_tt (xs ys : List D) : D.eqv (.tup xs) (.tup ys) = D.eqvs xs ys := by simp only [D.eqv, D.py, PyData.eqv, eqvAll_pys]
@[simp] theorem eqv_ll (xs ys : List D) : D.eqv (.lst xs) (.lst ys) = D.eqvs xs ys := by simp only [D.eqv, D.py, PyData.eqv, eqvAll_pys]
@[simp] theorem eqvs_nn : D.eqvs [] [] = true := rfl
@[simp] theorem eqvs_nc {x xs} : D.eqvs [] (x :: xs) = false := rfl
@[simp] theorem eqvs_cn {x xs} : D.eqvs (x :: xs) [] = false := rfl
@[simp] theorem eqvs_cc {x xs y ys} : D.eqvs (x :: xs) (y :: ys) = (D.eqv x y && D.eqvs xs ys) := rfl
@[simp] theorem eqv_mx1 {b : Bool} {i : Int} {x : Str} {xs ys : List D} : D.eqv (.non) (.bl b) = false := by simp [D.eqv, D.py, PyData.eqv]
@[simp] theorem eqv_mx2 {b : Bool} {i : Int} {x : Str} {xs ys : List D} : D.eqv (.bl b) (.non) = false := by simp [D.eqv, D.py, PyData.eqv]
@[simp] theorem eqv_mx3 {b : Bool} {i : Int} {x : Str} {xs ys : List D} : D.eqv (.non) (.int i) = false := by simp [D.eqv, D.py, PyData.eqv]
@[simp] theorem eqv_mx4 {b : Bool} {i : Int} {x : Str} {xs ys : List D} : D.eqv (.int i) (.non) = false := by simp [D.eqv, D.py, PyData.eqv]
@[simp] theorem eqv_mx5 {b : Bool} {i : Int} {x : Str} {xs ys : List D} : D.eqv (.non) (.str x) = false := by simp [D.eqv, D.py, PyData.eqv]
@[simp] theorem eqv_mx6 {b : Bool} {i : Int} {x : Str} {xs ys : List D} : D.eqv (.str x) (.non) = false := by simp [D.eqv, D.py, PyData.eqv]
@[simp] theorem eqv_mx7 {b : Bool} {i : Int} {x : Str} {xs ys : List D} : D.eqv (.non) (.tup xs) = false := by simp [D.eqv, D.py, PyData.eqv]
@[simp] theorem eqv_mx8 {b : Bool} {i : Int} {x : Str} {xs ys : List D} : D.eqv (.tup xs) (.non) = false := by simp [D.eqv, D.py, PyData.eqv]
@[simp] theorem eqv_mx9 {b : Bool} {i : Int} {x : Str} {xs ys : List D} : D.eqv (.non) (.lst xs) = false := by simp [D.eqv, D.py, PyData.eqv]
@[simp] theorem eqv_mx10 {b : Bool} {i : Int} {x : Str} {xs ys : List D} : D.eqv (.lst xs) (.non) = false := by simp [D.eqv, D.py, PyData.eqv]
@[simp] theorem eqv_mx11 {b : Bool} {i : Int} {x : Str} {xs ys : List D} : D.eqv (.bl b) (.str x) = false := by simp [D.eqv, D.py, PyData.eqv]
@[simp] theorem eqv_mx12 {b : Bool} {i : Int} {x : Str} {xs ys : List D} : D.eqv (.str x) (.bl b) = false := by simp [D.eqv, D.py, PyData.eqv]
@[simp] theorem eqv_mx13 {b : Bool} {i : Int} {x : Str} {xs ys : List D} : D.eqv (.bl b) (.tup xs) = false := by simp [D.eqv, D.py, PyData.eqv]
@[simp] theorem eqv_mx14 {b : Bool} {i : Int} {x : Str} {xs ys : List D} : D.eqv (.tup xs) (.bl b) = false := by simp [D.eqv, D.py, PyData.eqv]
@[simp] theorem eqv_mx15 {b : Bool} {i : Int} {x : Str} {xs ys : List D} : D.eqv (.bl b) (.lst xs) = false := by simp [D.eqv, D.py, PyData.eqv]
@[simp] theorem eqv_mx16 {b : Bool} {i : Int} {x : Str} {xs ys : List D} : D.eqv (.lst xs) (.bl b) = false := by simp [D.eqv, D.py, PyData.eqv]
@[simp] theorem eqv_mx17 {b : Bool} {i : Int} {x : Str} {xs ys : List D} : D.eqv (.int i) (.str x) = false := by simp [D.eqv, D.py, PyData.eqv]
@[simp] theorem eqv_mx18 {b : Bool} {i : Int} {x : Str} {xs ys : List D} : D.eqv (.str x) (.int i) = false := by simp [D.eqv, D.py, PyData.eqv]
@[simp] theorem eqv_mx19 {b : Bool} {i : Int} {x : Str} {xs ys : List D} : D.eqv (.int i) (.tup xs) = false := by simp [D.eqv, D.py, PyData.eqv]
@[simp] theorem eqv_mx20 {b : Bool} {i : Int} {x : Str} {xs ys : List D} : D.eqv (.tup xs) (.int i) = false := by simp [D.eqv, D.py, PyData.eqv]
@[simp] theorem eqv_mx21 {b : Bool} {i : Int} {x : Str} {xs ys : List D} : D.eqv (.int i) (.lst xs) = false := by simp [D.eqv, D.py, PyData.eqv]
@[simp] theorem eqv_mx22 {b : Bool} {i : Int} {x : Str} {xs ys : List D} : D.eqv (.lst xs) (.int i) = false := by simp [D.eqv, D.py, PyData.eqv]
@[simp] theorem eqv_mx23 {b : Bool} {i : Int} {x : Str} {xs ys : List D} : D.eqv (.str x) (.tup xs) = false := by simp [D.eqv, D.py, PyData.eqv]
@[simp] theorem eqv_mx24 {b : Bool} {i : Int} {x : Str} {xs ys : List D} : D.eqv (.tup xs) (.str x) = false := by simp [D.eqv, D.py, PyData.eqv]
@[simp] theorem eqv_mx25 {b : Bool} {i : Int} {x : Str} {xs ys : List D} : D.eqv (.str x) (.lst xs) = false := by simp [D.eqv, D.py, PyData.eqv]
@[simp] theorem eqv_mx26 {b : Bool} {i : Int} {x : Str} {xs ys : List D} : D.eqv (.lst xs) (.str x) = false := by simp [D.eqv, D.py, PyData.eqv]
@[simp] theorem eqv_mx27 {b : Bool} {i : Int} {x : Str} {xs ys : List D} : D.eqv (.tup xs) (.lst ys) = false := by simp [D.eqv, D.py, PyData.eqv]
@[simp] theorem eqv_mx28 {b : Bool} {i : Int} {x : Str} {xs ys : List D} : D.eqv (.lst ys) (.tup xs) = false := by simp [D.eqv, D.py, PyData.eqv]
@[simp] theorem eqv_bi (b : Bool) (j : Int) : D.eqv (.bl b) (.int j) = ((if b then 1 else 0) == j) := by simp [D.eqv, D.py, PyData.eqv]
@[simp] theorem eqv_ib (b : Bool) (j : Int) : D.eqv (.int j) (.bl b) = (j == (if b then 1 else 0)) := by simp [D.eqv, D.py, PyData.eqv]
theorem eqvs_ints : ∀ (a b : List Int), D.eqvs (a.map .int) (b.map .int) = decide (a = b)
  | [], [] => by simp
  | [], _ :: _ => by simp
  | _ :: _, [] => by simp
  | x :: xs, y :: ys => by
    simp only [List.map_cons, eqvs_cc, eqv_int, eqvs_ints xs ys]
    by_cases h : x = y <;> by_cases h2 : xs = ys <;> simp [h, h2]
theorem rngL_eq : ∀ (n : Nat) (lo : Int), rngL lo n = (List.range n).map fun i => D.int (lo + (i : Nat))
  | 0, _ => rfl
  | n + 1, lo => by
    rw [List.range_succ_eq_map, List.map_cons, List.map_map]
    unfold rngL
    rw [rngL_eq n (lo + 1)]
    congr 1
    · simp
    · apply List.map_congr_left
      intro i _
      simp only [Function.comp_apply]
      congr 1
      push_cast
      omega
theorem rngL0 (n : Nat) : rngL 0 n = (List.range n).map fun i => D.int (i : Nat) := by
  rw [rngL_eq]
  apply List.map_congr_left
  intro i _
  congr 1
  omega
/-- a comprehension whose parts leave the store as it is -/
theorem compL_map {α : Type} {g : GD} {ft : DenB} {fe : Den} {ρ : Env} {st : Sto} (enc : α → D) (p : α → Bool) (f : α → D) : ∀ (xs : List α), (∀ x ∈ xs, ∃ ρ1, g (enc x) ρ = some ρ1 ∧ ft ρ1 st = .ok (p x) st ∧ (p x = true → fe ρ1 st = .ok (f x) st)) → compL g ft fe ρ (xs.map enc) st = .ok ((xs.filter p).map f) st
  | [], _ => rfl
  | x :: xs, h => by
    obtain ⟨ρ1, h1, h2, h3⟩ := h x List.mem_cons_self
    have ih := compL_map enc p f xs fun y hy => h y (List.mem_cons_of_mem _ hy)
    rw [List.map_cons]
    unfold compL
    simp only [h1, h2]
    cases hp : p x with
    | true => simp only [h3 hp, ih, Res.bind, List.filter_cons, hp, if_true, List.map_cons]
    | false => simp only [ih, List.filter_cons, hp, Bool.false_eq_true, if_false]
theorem compL_all {α : Type} {g : GD} {fe : Den} {ρ : Env} {st : Sto} (enc : α → D) (f : α → D) (xs : List α) (h : ∀ x ∈ xs, ∃ ρ1, g (enc x) ρ = some ρ1 ∧ fe ρ1 st = .ok (f x) st) : compL g eYes fe ρ (xs.map enc) st = .ok (xs.map f) st := by
  rw [compL_map enc (fun _ => true) f xs fun x hx => by
    obtain ⟨ρ1, h1, h2⟩ := h x hx
    exact ⟨ρ1, h1, rfl, fun _ => h2⟩]
  rw [List.filter_eq_self.mpr (fun _ _ => rfl)]
/-- a for loop by what holds between two turns -/
theorem forL_inv {α : Type} {g : GD} {fb : SDen} (enc : α → D) (I : List α → Env → Sto → Prop) : ∀ (post pre : List α) (ρ : Env) (st : Sto), I pre ρ st →
    (∀ pre x post' ρ st, pre ++ x :: post' = pre ++ x :: post' → I pre ρ st → (∃ a b, a ++ x :: b = pre ++ x :: post' ∧ True) → ∃ ρ1 ρ2 st2, g (enc x) ρ = some ρ1 ∧ (fb ρ1 st = .next ρ2 st2 ∨ fb ρ1 st = .cont ρ2 st2) ∧ I (pre ++ [x]) ρ2 st2) →
    ∃ ρ' st', forL g fb (post.map enc) ρ st = .next ρ' st' ∧ I (pre ++ post) ρ' st'
  | [], pre, ρ, st, h, _ => ⟨ρ, st, rfl, by rw [List.append_nil]; exact h⟩
  | x :: post, pre, ρ, st, h, hs => by
    obtain ⟨ρ1, ρ2, st2, h1, h2, h3⟩ := hs pre x post ρ st rfl h ⟨_, _, rfl, trivial⟩
    obtain ⟨ρ', st', e, r⟩ := forL_inv enc I post (pre ++ [x]) ρ2 st2 h3 hs
    refine ⟨ρ', st', ?_, by rw [List.append_assoc] at r; exact r⟩
    rw [List.map_cons]
    unfold forL
    simp only [h1]
    rcases h2 with h2 | h2 <;> simp only [h2] <;> exact e
/-- .. by the number of turns -/
theorem forL_ix {α : Type} {g : GD} {fb : SDen} (enc : α → D) (xs : List α) (I : Nat → Env → Sto → Prop) {ρ : Env} {st : Sto} (h0 : I 0 ρ st)
    (hs : ∀ i x ρ st, xs[i]? = some x → I i ρ st → ∃ ρ1 ρ2 st2, g (enc x) ρ = some ρ1 ∧ (fb ρ1 st = .next ρ2 st2 ∨ fb ρ1 st = .cont ρ2 st2) ∧ I (i + 1) ρ2 st2) :
    ∃ ρ' st', forL g fb (xs.map enc) ρ st = .next ρ' st' ∧ I xs.length ρ' st' := by
  have go : ∀ (n i : Nat) ρ st, n = xs.length - i → i ≤ xs.length → I i ρ st → ∃ ρ' st', forL g fb ((xs.drop i).map enc) ρ st = .next ρ' st' ∧ I xs.length ρ' st' := by
    intro n
    induction n with
    | zero =>
      intro i ρ st hn hi h
      have : i = xs.length := by omega
      subst this
      rw [List.drop_length]
      exact ⟨ρ, st, rfl, h⟩
    | succ n ih =>
      intro i ρ st hn hi h
      have hl : i < xs.length := by omega
      rw [List.drop_eq_getElem_cons hl, List.map_cons]
      obtain ⟨ρ1, ρ2, st2, h1, h2, h3⟩ := hs i _ ρ st (List.getElem?_eq_getElem hl) h
      obtain ⟨ρ', st', e, r⟩ := ih (i + 1) ρ2 st2 (by omega) hl h3
      refine ⟨ρ', st', ?_, r⟩
      unfold forL
      simp only [h1]
      rcases h2 with h2 | h2 <;> simp only [h2] <;> exact e
  have := go xs.length 0 ρ st (by omega) (Nat.zero_le _) h0
  rw [List.drop_zero] at this
  exact this

@[simp] theorem dInts_map (l : List Int) : dInts (l.map .int) = some l := by
  induction l with
  | nil => rfl
  | cons x l ih => simp [dInts, ih]
@[simp] theorem dInts_map2 {α : Type} (f : α → Int) (l : List α) : dInts (l.map fun x => .int (f x)) = some (l.map f) := by
  induction l with
  | nil => rfl
  | cons x l ih => simp [dInts, ih]
@[simp] theorem dInts_map3 {α : Type} (f : α → Int) (l : List α) : dInts (l.map (D.int ∘ f)) = some (l.map f) := dInts_map2 f l
@[simp] theorem dBools_map2 {α : Type} (f : α → Bool) (l : List α) : dBools (l.map fun x => .bl (f x)) = some (l.map f) := by
  induction l with
  | nil => rfl
  | cons x l ih => simp [dBools, ih]
@[simp] theorem dBools_map3 {α : Type} (f : α → Bool) (l : List α) : dBools (l.map (D.bl ∘ f)) = some (l.map f) := dBools_map2 f l
theorem sz {n : Nat} (h : n ≤ 1000000) : n ≤ sizeLine := by rw [sizeLine_eq]; omega
theorem szlt {n : Nat} (h : n ≤ 1000000) : n < sizeLine := by rw [sizeLine_eq]; omega
/-- a for loop over one name that changes the store alone -/
theorem forL_store {α : Type} {v : Nat} {fb : SDen} {base : Env} (enc : α → D) (xs : List α) (T : Nat → Sto) (hs : ∀ i x, xs[i]? = some x → fb (base.set v (some (.p (enc x)))) (T i) = .next (base.set v (some (.p (enc x)))) (T (i + 1))) :
    ∃ ρ, ρ.set v none = base.set v none ∧ forL (gN v) fb (xs.map enc) base (T 0) = .next ρ (T xs.length) := by
  obtain ⟨ρ', st', e, h1, h2⟩ := forL_ix (g := gN v) (fb := fb) enc xs (fun i ρ st => ρ.set v none = base.set v none ∧ st = T i) (ρ := base) (st := T 0) ⟨rfl, rfl⟩ (by
    rintro i x ρ st hx ⟨h1, rfl⟩
    have e : ρ.set v (some (.p (enc x))) = base.set v (some (.p (enc x))) := by
      have := congrArg (fun l : Env => l.set v (some (.p (enc x)))) h1
      simpa [List.set_set] using this
    refine ⟨ρ.set v (some (.p (enc x))), base.set v (some (.p (enc x))), T (i + 1), rfl, .inl ?_, by simp [List.set_set], rfl⟩
    rw [e]
    exact hs i x hx)
  subst h2
  exact ⟨ρ', h1, e⟩
/-- .. where a turn may return or go on: the first that returns -/
theorem forL_find {α : Type} {v : Nat} {fb : SDen} {base : Env} {st : Sto} (enc : α → D) (r : α → Option D) : ∀ (xs : List α), (∀ x ∈ xs, fb (base.set v (some (.p (enc x)))) st = match r x with | some d => .ret d st | none => .next (base.set v (some (.p (enc x)))) st) →
    ∀ ρ : Env, ρ.set v none = base.set v none → (∃ ρ', ρ'.set v none = base.set v none ∧ forL (gN v) fb (xs.map enc) ρ st = match xs.findSome? r with | some d => .ret d st | none => .next ρ' st)
  | [], _, ρ, h => ⟨ρ, h, rfl⟩
  | x :: xs, hs, ρ, h => by
    have e : ρ.set v (some (.p (enc x))) = base.set v (some (.p (enc x))) := by
      have := congrArg (fun l : Env => l.set v (some (.p (enc x)))) h
      simpa [List.set_set] using this
    have hx := hs x List.mem_cons_self
    rw [List.map_cons]
    unfold forL
    simp only [gN, e, hx]
    cases hr : r x with
    | some d => exact ⟨base, rfl, by simp [hr]⟩
    | none =>
      obtain ⟨ρ', h2, e2⟩ := forL_find enc r xs (fun y hy => hs y (List.mem_cons_of_mem _ hy)) (base.set v (some (.p (enc x)))) (by simp [List.set_set])
      refine ⟨ρ', h2, ?_⟩
      simp only [List.findSome?_cons, hr]
      exact e2
end M
namespace M
open PySem PySem.Spec L2 NdefX PyProof.Rows
/-! ### own exceptions: __init__ that says super().__init__(text) -/
section
open PySem.W
variable {P : Program} {w : World} {K : Frag} {A : Around} {E : Value → Shared → Prop} {h : Heap} {g : Array GenState} {d : Drawn} {t : Nat} {os : OsState}
variable {nm q : Str} {C N : Addr} {bs bm : List Value} {hdct : Bool} {sn : List Str} {sub : List Value} {ab : Bool} {col : Option Bool} {dd : Option Addr} {k0 k1 k2 k3 k5 : Option Value}
theorem call_mw {u e t0 : Addr} {rest : List Value} {Q : Value → Shared → Prop} (hT : ∀ Y : String, bm.contains (.type Y) = HandSPX.veTail.contains (.type Y))
    (hC : h.get? C = some (excClassObj nm q C N bs bm hdct sn sub ab col dd k0 k1 k2 k3 k5 "ValueError.__new__")) (he : h.get? e = some (HandSPX.excO C t0)) (hu : h.get? u = some (kxs_mw "ValueError.__init__" e)) (hrest : rest.length ≤ sizeLine)
    (hq : ∀ h' t1, (∀ b o, b ≠ e → h.get? b = some o → h'.get? b = some o) → h'.get? e = some (HandSPX.excO C t1) → Q .none ⟨h', g, d, t, os⟩) :
    wpAny (model P w) A (call (.ref u) rest) Q E ⟨h, g, d, t, os⟩ := by
  refine wpAny_call (codeAny_of_tree ?_)
  show wpAny _ A.in1 (callAny (.ref u) ⟨rest, []⟩) _ _ _
  simp only [callAny]
  refine wpAny_bind (wpAny_load hu ?_)
  simp only [kxs_mw, show (Value.type "method-wrapper" == Value.type "method" || Value.type "method-wrapper" == Value.type "builtin_function_or_method" || Value.type "method-wrapper" == Value.type "method-wrapper") = true by decide, if_true]
  refine W.KFB.if_so (by decide) ?_
  refine wpAny_bind (ESX.check_bound F.excBase_ValueError hC he rfl ?_)
  refine wpAny_bind (wpAny_pure (wpAny_pure ?_))
  refine ⟨Code.quiet_builtin _ (by decide +kernel), codeAny_builtin F.excBase_ValueError.initEntry ?_⟩
  rw [Around.under_plainId F.excBase_ValueError.init.plain _]
  wp_walk
  refine hq _ h.objs.size (fun b o hb ho => ?_) ?_
  · rw [Heap.get?_update_other _ _ (Ne.symm hb)]
    exact Heap.get?_push_of_some _ ho
  · rw [Heap.get?_update_self _ (Heap.get?_push_of_some _ he) rfl]
    rfl
end
/-- an own class whose __init__ says super().__init__(text), then self.f = x .. -/
structure SupC (P : Program) (K : PySem.W.Frag) (mg : Str → Option Value) (C fI cc cda : Addr) (name qual : Str) (params : Arguments) (body : List Stmt) (scope : Scope) : Prop where
  T : OexC K C
  iC : PySem.W.findIn K (.ref C) "__init__" = some (some (.ref fI))
  tI : PySem.W.typeIn K (.ref fI) = some (.type "function")
  fn : ∃ (oc kV doc pm ct : Value) (an od : Option Addr) (osl : Array (Option Value)), K.lookup fI = some ⟨oc, od, .func (PySem.W.ksFn name qual params body scope .none kV doc pm an (.ref cda) ct cc), osl⟩
  hcd : PySem.W.codeIn K (.ref cda) qual = true
  hcode : ∃ (ccl : Value) (cdd : Option Addr) (vs : Array Value) (ccs : Array (Option Value)) (file : Str) (tf : Tok), K.lookup cda = some ⟨ccl, cdd, .fields vs, ccs⟩ ∧ vs[2]? = some (.str file tf) ∧ ((P.main.file : Str) == file) = true
  hcell : ∃ (cl : Value) (cld : Option Addr) (csl : Array (Option Value)), K.lookup cc = some ⟨cl, cld, .cell (some (.ref C)), csl⟩
  hm : PySem.W.ks_superIn K C C "__init__" = some (some (.builtin "ValueError.__init__"))
  ho : PySem.W.nsIn K PySem.cStatics "thirdparty.any" = some none
  hsub : PySem.W.mroIn K C (.ref C) = some true
  hB : PySem.W.subIn K (.ref C) (.type "ValueError") = some true
  hsup : mg "super" = none
  htop : (P.main.scope.names.lookup ("super" : Str)).isSome = false
section
variable {CX : CXT} {P : Program} {w : World} {K : PySem.W.Frag} {mg : Str → Option Value} {base : Heap} {N ps : List Str} {k : Nat}
theorem init_run {C fI cc cda : Addr} {name qual : Str} {params : Arguments} {scope : Scope} {p0 p1 p2 p3 p4 p5 : Pos} {msg : Str} {j : Nat} {ar : Arg} {rest : List Stmt} {t : TS}
    (F : SupC P K mg C fI cc cda name qual params (.Expr (.Call (.Attribute (.Call (.Name "super" p0) [] [] p1) "__init__" p2) [.Constant (.str msg) j p3] [] p4) p5 :: rest) scope)
    (S : NScope N ps ["__class__"] scope) (hp : (params.posonlyargs ++ params.args).head? = some ar) (hps : ps.head? = some ar.arg) (hks : scope.names.lookup ("super" : Str) = some .globalImplicit)
    (hb : ∀ (kV doc pm ctv : Value) (an : Option Addr) (us : List Value), us.length = ps.length → bindArgs (PySem.W.ksFn name qual params (.Expr (.Call (.Attribute (.Call (.Name "super" p0) [] [] p1) "__init__" p2) [.Constant (.str msg) j p3] [] p4) p5 :: rest) scope .none kV doc pm an (.ref cda) ctv cc) ⟨us, []⟩ = pure (ps.zip us))
    (hbody : ∀ (A : Around) (outer : List PySem.Env) (s : Shared) (H : Hp) (E : XK), Room k (A.deeper (envF ⟨name, qual, params, .Expr (.Call (.Attribute (.Call (.Name "super" p0) [] [] p1) "__init__" p2) [.Constant (.str msg) j p3] [] p4) p5 :: rest, scope, [("__class__", cc)], cda⟩ fI s.heap.objs.size)) →
      PSs (ncx CX P w K mg base N ⟨name, qual, params, .Expr (.Call (.Attribute (.Call (.Name "super" p0) [] [] p1) "__init__" p2) [.Constant (.str msg) j p3] [] p4) p5 :: rest, scope, [("__class__", cc)], cda⟩ fI A outer s H E) rest t)
    {pl : PySem.Env → Sem Bool} (he : ∀ env : PySem.Env, eval (.Call (.Attribute (.Call (.Name "super" p0) [] [] p1) "__init__" p2) [.Constant (.str msg) j p3] [] p4) env = (do
      let ov ← attributeBase (.Call (.Name "super" p0) [] [] p1) "__init__" env (eval (.Call (.Name "super" p0) [] [] p1) env)
      standAt p2.atName
      let (f, first) ← holding [ov] (getMethod ov "__init__" (pl env))
      callWith p4 f first (backTo p4 (starEach [.Constant (.str msg) j p3] env)) []))
    (hi : ∀ env : PySem.Env, env.scope = scope → interactive env = false)
    {A : Around} {outer : List PySem.Env} {s : Shared} {H : Hp} {us : List Value} {vs ws : List V} {a : Addr} {Q : VK} {E : XK} (hr : Room (k + 1) A) (e0 : Env0 P w K mg base A outer s H) (r : Vals vs us) (hl : vs.length = ps.length) (hv : vs = .ref a :: ws) (ha : H a = some (exo a C none))
    (hq : t { nx := fun _ H' => Q .non H', rt := Q } (startF N vs [some (.ref C)]) H) : codeAny (model P w) A (.call (.ref fI) ⟨us, []⟩) (CR CX outer P w H s Q E) s := by
  subst hv
  obtain ⟨oc, kV, doc, pm, ct, an, od, osl, lk⟩ := F.fn
  obtain ⟨ccl, cdd, fvs, ccs, file, tf, hco, hfv, hfile⟩ := F.hcode
  obtain ⟨cl, cld, csl, hce⟩ := F.hcell
  have KB := e0.mod.kin
  have up : ∀ b o, base.get? b = some o → s.heap.get? b = some o := fun b o e => (e0.bs b o e).1
  have KX : K.In s.heap := KB.keeps up
  have lim : s.heap.NoLimit := e0.mod.nolimit.keeps up
  have hHc : H cc = none := (e0.bs _ _ (KB _ _ hce)).2
  have C1 : CellsAt [("__class__", cc)] ["__class__"] [some (V.ref C)] s.heap H := by
    refine ⟨rfl, fun y c e => ?_, fun x y c e1 e2 => ?_, fun i y e => ?_⟩
    · have := PySem.mem_of_lookup e
      simp only [List.mem_singleton, Prod.mk.injEq] at this
      rw [this.2]
      exact ⟨hHc, _, _, KX _ _ hce, rfl⟩
    · have h1 := PySem.mem_of_lookup e1
      have h2 := PySem.mem_of_lookup e2
      simp only [List.mem_singleton, Prod.mk.injEq] at h1 h2
      rw [h1.1, h2.1]
    · match i, e with
      | 0, e =>
        cases e
        exact ⟨cc, rfl, fun v ev => by cases ev; exact ⟨.ref C, rfl, _, KX _ _ hce, rfl⟩⟩
  have hlu : us.length = ps.length := by rw [← r.length]; exact hl
  have hC := F.T.cls
  obtain ⟨nm, q, NC, bs, bm, sn, sub, ab, col, dd, k0, k1, k2, k3, k5, hC, hbm⟩ := hC
  have hcl : PySem.W.clsIn K C = some { name := nm, bases := bs, mro := .ref C :: bm, ns := NC, qualname := q, hasDict := true, slotNames := sn, subclasses := sub, abstract := ab, collection := col, hasDel := false } := by unfold PySem.W.clsIn; rw [hC] <;> rfl
  obtain ⟨t1, hoa⟩ := exo_at e0.hok ha
  have hzl : ∀ x ∈ ps, scope.names.lookup x = some .local := S.par
  refine PySem.ks_codeAny_call_defAt (fd := PySem.W.ksFn name qual params _ scope .none kV doc pm an (.ref cda) ct cc) (binds := ps.zip us) hr.depth (KX _ _ lk) rfl lim (PySem.W.codeRec_of KX F.hcd) rfl ?_ S.nocell (fun ⟨n, _⟩ hy => hzl n (List.of_mem_zip hy).1) (fun h₁ hns kp => ?_) S.co S.gen S.kind
  · intro M A E Q hQ
    rw [hb kV doc pm ct an us hlu]
    exact wpAny_pure hQ
  have I := inv_startN (CX := CX) (P := P) (w := w) (mg := mg) (base := base) (E := E) (f := fI) (tk := s.toks + (ps.zip us).length) (F := ⟨name, qual, params, .Expr (.Call (.Attribute (.Call (.Name "super" p0) [] [] p1) "__init__" p2) [.Constant (.str msg) j p3] [] p4) p5 :: rest, scope, [("__class__", cc)], cda⟩) S hr.hd e0 hl r C1 hns kp
  obtain ⟨hp0, g, d, tk, os⟩ := s
  have X1 : K.In h₁ := KX.keeps kp
  obtain ⟨mb, hb1, hb2⟩ := e0.mod.blt
  have hC1 : h₁.get? C = some (excClassObj nm q C NC bs bm true sn sub ab col dd k0 k1 k2 k3 k5 "ValueError.__new__") := X1 _ _ hC
  have ha1 : h₁.get? a = some (HandSPX.excO C t1) := kp _ _ hoa
  have hlk : (ps.zip us).reverse.lookup ar.arg = some (.ref a) := by
    cases us with
    | nil => cases r
    | cons u us =>
      cases r with
      | cons r1 r2 =>
        obtain rfl : u = Value.ref a := r1
        cases ps with
        | nil => simp at hps
        | cons y ps =>
          simp only [List.head?_cons, Option.some.injEq] at hps
          subst hps
          have ndP : (ar.arg :: ps).Nodup := by
            have z := S.nd.sublist (List.take_sublist ((ar.arg :: ps).length + 1) N)
            rw [show N.take ((ar.arg :: ps).length + 1) = _ from S.pre] at z
            exact (List.nodup_append.mp z).1
          exact zip_look ndP (i := 0) rfl rfl
  have hne : a ≠ C := fun z => by
    rw [z] at ha1
    rw [ha1] at hC1
    cases hC1
  refine PySem.ks_wpAt_execs_cons (PySem.ks_wpAt_Expr_any (PySem.ks_wpAt_MethodCall (he := he _) (PySem.ks_wpAt_super_base (show scope.names.lookup ("super" : Str) = some .globalImplicit from hks) (show scope.names.lookup ("__class__" : Str) = some .free from S.frk _ (by simp)) rfl rfl (X1 _ _ lk) rfl hp rfl (X1 _ _ hco) rfl hfv hfile F.htop ?_)) (hi := hi _ rfl))
  refine PySem.W.ks_loadName_global S.kind hks (PySem.Calls.loadGlobal_builtin ((e0.mod.glob.keeps up).keeps kp) F.hsup ((hb1.keeps up).keeps kp) ((hb2 _ (by decide)).trans (by rfl)) ⟨rfl, ?_⟩)
  refine wpAny_loadName_free S.kind (S.frk _ (by simp)) rfl ⟨_, X1 _ _ hce, rfl⟩ ?_
  refine wpAny_loadName_local S.kind (hzl _ (List.mem_of_mem_head? hps)) hns hlk ?_
  refine PySem.ks_wpAny_isType_cls hC1 rfl ⟨rfl, ?_⟩
  refine PySem.ks_wpAny_call_super hC1 rfl ha1 rfl (fun c z => by cases z) (PySem.W.looks_mroIn X1 F.hsub) (fun h' e k => ?_)
  have X2 : K.In h' := X1.keeps k
  have ha2 := k _ _ ha1
  have IA : PySem.W.InstAt h' a (HandSPX.excO C t1) C none := ⟨ha2, rfl, rfl, trivial⟩
  have hf := F.hm
  unfold PySem.W.ks_superIn at hf
  rw [hcl] at hf
  refine PySem.W.kxs_getMethod PySem.W.kxs_ValueError e (PySem.W.looks_opaque X2 F.ho) (l₀ := .ref C :: bm) (fun A Q E s k q => wpAny_bind ((PySem.W.looks_clsIn X2 hcl) A _ E s k (wpAny_pure q))) rfl X2 hf (IA.type.andThen (PySem.W.looks_subIn X2 F.hB)) hne rfl ?_
  refine PySem.W.kxs_callWith (i := "ValueError.__init__") (x := a) rfl (PySem.Calls.evalArgs_plain (PySem.Calls.spliced_cons (PySem.Calls.Constant_str (k := j) (pos := p3) (PySem.Calls.spliced_nil ⟨Heap.get?_push_size _ rfl, ?_⟩))))
  refine call_mw (PySem.HandSPX.refsVE_contains · bm hbm) (Heap.get?_push_of_some _ (k _ _ hC1)) (Heap.get?_push_of_some _ ha2) (Heap.get?_push_size _ rfl) (by show 1 ≤ sizeLine; rw [sizeLine_eq]; omega) fun h2 t2 k2 e2 => ?_
  have I2 := I.kept (h' := h'.push (PySem.W.kxs_mw "ValueError.__init__" a)) (t' := tk + (ps.zip us).length + 1) fun b o z => Heap.get?_push_of_some _ (k b o z)
  have J := I2.write (t' := tk + (ps.zip us).length + 1 + 1) (x := a) (e := a) (o := exo a C none) (h' := h2) (by rw [ha]; exact True.intro) (.inl rfl) k2 ⟨_, e2⟩ (exo_ok e2)
  have eu : upd H a (exo a C none) = H := by
    funext b
    by_cases hb : b = a
    · rw [hb, upd_same, ha]
    · rw [upd_ne hb]
  rw [eu] at J
  refine PySem.wpAt_of_wpAny ?_
  have hb2 := hbody A outer ⟨hp0, g, d, tk, os⟩ H E (hr.deeper _)
  refine wpAny_mono (hb2.run [] _ _ H _ J hq) (fun fl s' hs => ?_) fun e s' hs => hs
  have fin : ∀ {σ' : L2.St} {H' : Hp} {v : V} {u : Value}, Inv (ncx CX P w K mg base N ⟨name, qual, params, .Expr (.Call (.Attribute (.Call (.Name "super" p0) [] [] p1) "__init__" p2) [.Constant (.str msg) j p3] [] p4) p5 :: rest, scope, [("__class__", cc)], cda⟩ fI A outer ⟨hp0, g, d, tk, os⟩ H E) [] σ' H' s' → L2.RelV v u → Q v H' → CE outer P w H ⟨hp0, g, d, tk, os⟩ Q u s' :=
    fun {σ' H' v u} J rv q => ⟨v, H', J.os, J.bare, J.base, J.hok, rv, q⟩
  cases fl with
  | ret u =>
    obtain ⟨v, σ', H', J, rv, q⟩ := hs
    exact fin J rv q
  | next =>
    obtain ⟨σ', H', J, q⟩ := hs
    exact fin (v := V.non) (u := Value.none) J rfl q
  | brk =>
    obtain ⟨_, _, _, q⟩ := hs
    exact False.elim q
  | cont =>
    obtain ⟨_, _, _, q⟩ := hs
    exact False.elim q
end
end M
namespace M
open PySem PySem.Spec L2 NdefX PyProof.Rows
/-- what __init__ leaves: the fields fs in a new dict; no field, no dict -/
def IniPost (a C : Addr) (H : Hp) (fs : List (Str × V)) (H' : Hp) : Prop := match fs with
  | [] => H' = H
  | _ => ∃ dx, H dx = none ∧ dx ≠ a ∧ H' a = some (exo a C (some dx)) ∧ H' dx = some (exd dx fs) ∧ ∀ b, b ≠ a → b ≠ dx → H' b = H b
/-- the promise of an __init__ -/
def IniOk (P : Program) (w : World) (K : PySem.W.Frag) (mg : Str → Option Value) (base : Heap) (CX : CXT) (k : Nat) (C fI : Addr) (n : Nat) (fl : List V → List (Str × V)) : Prop :=
  ∀ (A : Around) (outer : List PySem.Env) (s : Shared) (H : Hp) (us : List Value) (a : Addr) (ws : List V) (Q : VK) (E : XK), Room k A → Env0 P w K mg base A outer s H → Vals (.ref a :: ws) us → ws.length = n → H a = some (exo a C none) →
    (∀ H', IniPost a C H (fl ws) H' → Q .non H') → codeAny (model P w) A (.call (.ref fI) ⟨us, []⟩) (CR CX outer P w H s Q E) s
theorem IniOk.mono {P : Program} {w : World} {K : PySem.W.Frag} {mg : Str → Option Value} {base : Heap} {CX : CXT} {j k : Nat} {C fI : Addr} {n : Nat} {fl : List V → List (Str × V)} (h : IniOk P w K mg base CX j C fI n fl) (e : j ≤ k) : IniOk P w K mg base CX k C fI n fl :=
  fun A outer s H us a ws Q E hr => h A outer s H us a ws Q E (hr.mono e)
section
variable {X : Cx} {C fI : Addr} {k n : Nat} {fl : List V → List (Str × V)}
/-- the end of C(..) where no field was written -/
theorem mk_end1 {pins : List (Addr × Obj)} {σ : L2.St} {H1 : Hp} {hp hp2 h2 : Heap} {g1 g2 : Array GenState} {d1 d2 : Drawn} {t1 t2 : Nat} {os1 os2 : OsState} {a C : Addr} (I1 : Inv X pins σ H1 ⟨hp, g1, d1, t1, os1⟩)
    (ha : hp.objs.size ≤ a) (k : ∀ b o, hp.get? b = some o → hp2.get? b = some o) (un : Un (frs X.stack) [] (upd H1 a (exo a C none)) (upd H1 a (exo a C none)) hp2 h2) (hok : HOk X.prog X.w (upd H1 a (exo a C none)) h2) (ho : os2 = os1) (hb : AllBare g2) :
    ∃ (t0 : Addr) (G : Heap), Inv X pins σ H1 ⟨G, g2, d2, t2, os2⟩ ∧ (∀ b o, G.get? b = some o → h2.get? b = some o) ∧ G.get? a = none ∧
      h2.get? a = some ({ cls := .ref C, dict := none, data := .fields #[.ref t0, .none, .none, .none, .bool false, .none] } : Obj) := by
  obtain ⟨t0, hoe⟩ := exo_at hok upd_same
  have hn : H1 a = none := I1.hok.fresh ha
  obtain ⟨G, g1', g2'⟩ := restrict h2 fun b => decide (b ≠ a)
  have gk : ∀ b, b ≠ a → G.get? b = h2.get? b := fun b hb => g1' b (decide_eq_true hb)
  have ge : G.get? a = none := g2' a (by simp)
  have nha : ∀ {b : Addr} {o : Obj}, hp.get? b = some o → b ≠ a := fun {b o} z => Nat.ne_of_lt (Nat.lt_of_lt_of_le (Heap.lt_size z) ha)
  have up : ∀ {b : Addr}, b ≠ a → H1 b = none → upd H1 a (exo a C none) b = none := fun {b} hb n => by rw [upd_ne hb]; exact n
  have U : Un (frs X.stack) [] H1 H1 hp G := {
    keep := fun b o z n hf hx => by
      rw [gk b (nha z)]
      exact un.keep b o (k b o z) (up (nha z) n) hf hx
    slot := fun b o z n hf hx => by
      rw [gk b (nha z)]
      exact un.slot b o (k b o z) (up (nha z) n) hf hx
    free := fun b o z n hx => n
    there := fun b o z hx => by
      rw [gk b (nha z)]
      exact un.there b o (k b o z) hx
    tups := fun b xs z => z
    frzs := fun b o v z => z
    tbls := fun b ps z => ⟨#[], by rw [z]; simp⟩ }
  have hok3 : HOk X.prog X.w H1 G := fun b o z => by
    have hba : b ≠ a := fun e => by rw [e, hn] at z; cases z
    have z2 : upd H1 a (exo a C none) b = some o := by rw [upd_ne hba]; exact z
    have noa : ∀ {c : Addr}, upd H1 a (exo a C none) c = some (.own b) → c ≠ a := fun {c} hc => at_ne upd_same hc exo_own
    exact (hok b o z2).stay (fun c v hc y => by
        have hca : c ≠ a := by
          rcases hc with hc | hc
          · rw [hc]
            exact hba
          · exact noa hc
        rw [gk c hca]
        exact y)
      (fun c hc => by have := noa hc; rw [upd_ne this] at hc; exact hc) (fun c xs hc => by
        have : c ≠ a := at_ne upd_same hc exo_tup
        rw [upd_ne this] at hc
        exact hc)
  exact ⟨t0, G, I1.call' (ch := []) ho U hok3 hb (fun b z => absurd z (by simp)), fun b o z => by
    by_cases hba : b = a
    · rw [hba, ge] at z
      cases z
    · exact (gk b hba).symm.trans z, ge, hoe⟩
/-- C(..), its fields -/
def tMkS (C : Addr) (n : Nat) (fl : List V → List (Str × V)) (ta : TA) : L2.St → Hp → XK → Prop := fun σ H Q => ta σ H fun vs H1 => vs.length = n ∧
  (fl vs = [] → Q (.ref C) none H1) ∧ (fl vs ≠ [] → ∀ d, H1 d = none → Q (.ref C) (some d) (upd H1 d (.xd (fl vs))))
theorem mk_call {pins : List (Addr × Obj)} {σ : L2.St} {H1 : Hp} {s1 : Shared} {us : List Value} {vs : List V} {Q : XK} (T : OexC X.K C) (iC : PySem.W.findIn X.K (.ref C) "__init__" = some (some (.ref fI))) (tI : PySem.W.typeIn X.K (.ref fI) = some (.type "function"))
    (F1 : IniOk X.prog X.w X.K X.mg X.base (fun _ _ _ _ _ _ => False) k C fI n fl) (hr : Room (k + 1) X.A) (hn9 : n ≤ 1000) (I1 : Inv X pins σ H1 s1) (r1 : Vals vs us) (hl : vs.length = n)
    (q1 : fl vs = [] → Q (.ref C) none H1) (q2 : fl vs ≠ [] → ∀ d, H1 d = none → Q (.ref C) (some d) (upd H1 d (.xd (fl vs)))) : wpAny (model X.prog X.w) X.A (call (.ref C) us) (L2N.MkP X pins σ Q) X.xe s1 := by
  obtain ⟨nm, q, N, bs, bm, sn, sub, ab, col, dd, k0, k1, k2, k3, k5, hC, hbm⟩ := T.cls
  obtain ⟨hp, g, dr, tk, os⟩ := s1
  have hsz : hp.objs.size ≤ hp.objs.size + 1 := Nat.le_succ _
  have hn : H1 (hp.objs.size + 1) = none := I1.hok.fresh hsz
  have kk : ∀ b o, hp.get? b = some o → ((hp.push (PySem.W.kdv_tup us)).push (PySem.HandSPX.excO C hp.objs.size)).get? b = some o := fun b o e => Heap.get?_push_of_some _ (Heap.get?_push_of_some _ e)
  have hget : ((hp.push (PySem.W.kdv_tup us)).push (PySem.HandSPX.excO C hp.objs.size)).get? (hp.objs.size + 1) = some (PySem.HandSPX.excO C hp.objs.size) := by heap_get
  have I2 : Inv X pins σ (upd H1 (hp.objs.size + 1) (exo (hp.objs.size + 1) C none)) ⟨(hp.push (PySem.W.kdv_tup us)).push (PySem.HandSPX.excO C hp.objs.size), g, dr, tk, os⟩ :=
    I1.laid (t' := tk) (a := hp.objs.size + 1) (o := exo (hp.objs.size + 1) C none) (h' := (hp.push (PySem.W.kdv_tup us)).push (PySem.HandSPX.excO C hp.objs.size)) kk hsz (exo_ok hget)
  have hus : us.length ≤ sizeLine := by
    rw [← Paired.length r1, sizeLine_eq]
    omega
  refine wpAny_call (PySem.HandSPX.call_own F.excBase_ValueError (fun Y => PySem.HandSPX.refsVE_contains Y bm hbm) (I1.kIn _ _ hC) (PySem.W.looks_findIn I1.kIn iC) (fun self => PySem.W.bind_fn I1.kIn self tI) hus
    (codeAny_mono (F1 _ X.stack _ _ (Value.ref (hp.objs.size + 1) :: us) (hp.objs.size + 1) vs (fun v H2 => v = .non ∧ IniPost (hp.objs.size + 1) C (upd H1 (hp.objs.size + 1) (exo (hp.objs.size + 1) C none)) (fl vs) H2) (fun _ _ _ => False) (hr.make C us []) (I2.env0.make C us []) (.cons rfl r1) hl upd_same fun H' h => ⟨rfl, h⟩) fun r s' hq' => ?_))
  cases r with
  | error er => exact (show False from hq').elim
  | ok fl2 =>
    cases fl2 with
    | ret u =>
      obtain ⟨v, H2, os2, bare2, un2, hok2, rv, ev, post⟩ := hq'
      subst ev
      obtain ⟨h2, g2, d2, t2, os'⟩ := s'
      refine ⟨rv, ?_⟩
      cases hf : fl vs with
      | nil =>
        rw [hf] at post
        have e2 : H2 = upd H1 (hp.objs.size + 1) (exo (hp.objs.size + 1) C none) := post
        subst e2
        obtain ⟨t0, G, J, kG, ge, hoe⟩ := mk_end1 (d2 := d2) (t2 := t2) I1 hsz kk un2 hok2 os2 bare2
        exact ⟨hp.objs.size + 1, _, _, ⟨G, g2, d2, t2, os'⟩, _, .ref C, none, rfl, J, kG, ge, hoe, ⟨rfl, rfl, fun vs hv => by cases hv; rfl⟩, rfl, rfl, hn, rfl, bare2, raises_own T.exC T.tyC, q1 hf⟩
      | cons x xs =>
        rw [hf] at post
        obtain ⟨d, hd0, hda, ea, ed, hrest⟩ := post
        have hd1 : H1 d = none := by rw [upd_ne hda] at hd0; exact hd0
        obtain ⟨t0, G, J, kG, ge, hoe, na⟩ := mk_end0 (d2 := d2) (t2 := t2) I1 hsz kk un2 hok2 os2 bare2 ea ed hd1
        have eH : upd (del H2 (hp.objs.size + 1)) d (.xd (x :: xs)) = upd H1 d (.xd (x :: xs)) := by
          funext b
          by_cases hbd : b = d
          · rw [hbd, upd_same, upd_same]
          · rw [upd_ne hbd, upd_ne hbd]
            by_cases hba : b = hp.objs.size + 1
            · rw [hba, del_same, hn]
            · rw [del_ne hba, hrest b hba hbd, upd_ne hba]
        rw [eH] at J na
        refine ⟨hp.objs.size + 1, _, _, ⟨G, g2, d2, t2, os'⟩, _, .ref C, some d, rfl, J, kG, ge, hoe, ⟨rfl, rfl, fun vs hv => by cases hv; rfl⟩, rfl, rfl, na, rfl, bare2, raises_own T.exC T.tyC, ?_⟩
        have := q2 (by rw [hf]; simp) d hd1
        rw [hf] at this
        exact this
    | next => exact False.elim hq'
    | brk => exact False.elim hq'
    | cont => exact False.elim hq'
theorem pmk_sup {x : Str} {e : Expr} {es : List Expr} {ta : TA} {p pos : Pos} (T : OexC X.K C) (iC : PySem.W.findIn X.K (.ref C) "__init__" = some (some (.ref fI))) (tI : PySem.W.typeIn X.K (.ref fI) = some (.type "function"))
    (F1 : IniOk X.prog X.w X.K X.mg X.base (fun _ _ _ _ _ _ => False) k C fI n fl) (hr : Room (k + 1) X.A) (hn9 : n ≤ 1000) (hm : X.mg x = some (.ref C)) (ha : PA X (e :: es) ta) (hg : Gl X x := by rfl)
    (hdb : (x == ("__debug__" : Str)) = false := by decide) (he : starEach (e :: es) X.env = (false, eval e X.env) :: starEach es X.env := by rfl) (hpl : (backTo pos (starEach es X.env)).any (·.1) = false := by rfl) :
    L2N.PMk X (.Call (.Name x p) (e :: es) [] pos) (tMkS C n fl ta) := by
  intro pins s σ H Q I h
  refine wpAny_Call_Name_kw (ld_glob I hg hm ?_ hdb)
  exact PySem.W.callWith_K (h₀ := X.base) I.ok.mod.kin T.kC (thn (ha.run pos pins s σ H _ I h) fun us s1 ⟨vs, H1, I1, r1, hl, q1, q2⟩ => ⟨I1.kIn, mk_call T iC tI F1 hr hn9 I1 r1 hl q1 q2⟩) he hpl
end
section
variable {P : Program} {w : World} {K : PySem.W.Frag} {mg : Str → Option Value} {base : Heap} {N : List Str} {k : Nat} {C fI cc cda : Addr} {name qual : Str} {params : Arguments} {scope : Scope} {p0 p1 p2 p3 p4 p5 q1 q2 q3 q4 r1 r2 r3 r4 : Pos} {msg f1 f2 x1 x2 : Str} {j : Nat} {ar : Arg}
  {pl : PySem.Env → Sem Bool}
abbrev supS (p0 p1 p2 p3 p4 p5 : Pos) (msg : Str) (j : Nat) : Stmt := .Expr (.Call (.Attribute (.Call (.Name "super" p0) [] [] p1) "__init__" p2) [.Constant (.str msg) j p3] [] p4) p5
abbrev SupEv (p0 p1 p2 p3 p4 : Pos) (msg : Str) (j : Nat) (pl : PySem.Env → Sem Bool) : Prop := ∀ env : PySem.Env, eval (.Call (.Attribute (.Call (.Name "super" p0) [] [] p1) "__init__" p2) [.Constant (.str msg) j p3] [] p4) env = (do
      let ov ← attributeBase (.Call (.Name "super" p0) [] [] p1) "__init__" env (eval (.Call (.Name "super" p0) [] [] p1) env)
      standAt p2.atName
      let (f, first) ← holding [ov] (getMethod ov "__init__" (pl env))
      callWith p4 f first (backTo p4 (starEach [.Constant (.str msg) j p3] env)) [])
theorem ini0 (F : SupC P K mg C fI cc cda name qual params [supS p0 p1 p2 p3 p4 p5 msg j] scope) (S : NScope N ["self"] ["__class__"] scope) (hp : (params.posonlyargs ++ params.args).head? = some ar) (har : ar.arg = "self") (hks : scope.names.lookup ("super" : Str) = some .globalImplicit)
    (hb : ∀ (kV doc pm ctv : Value) (an : Option Addr) (us : List Value), us.length = (["self"] : List Str).length → bindArgs (PySem.W.ksFn name qual params [supS p0 p1 p2 p3 p4 p5 msg j] scope .none kV doc pm an (.ref cda) ctv cc) ⟨us, []⟩ = pure ((["self"] : List Str).zip us))
    (he : SupEv p0 p1 p2 p3 p4 msg j pl) (hi : ∀ env : PySem.Env, env.scope = scope → interactive env = false) : IniOk P w K mg base (fun _ _ _ _ _ _ => False) (k + 1) C fI 0 fun _ => [] := by
  intro A outer s H us a ws Q E hr e0 r hw ha q
  have hws : ws = [] := List.length_eq_zero_iff.mp hw
  subst hws
  exact init_run (t := fun D σ H => D.nx σ H) F S hp (by rw [har]; rfl) hks hb (fun A outer s H E hr2 => pss_nil) he hi hr e0 r rfl rfl ha (q H rfl)
abbrev fldS (f x : Str) (q1 q2 q3 q4 : Pos) : Stmt := .Assign [.Attribute (.Name "self" q1) f q2] (.Name x q3) q4
abbrev FldSw (scope : Scope) (f x : Str) (q1 q2 q3 q4 : Pos) : Prop := ∀ env : PySem.Env, env.scope = scope → swapsWith (.Name x q3) (some (.Attribute (.Name "self" q1) f q2)) q4.line env = pure false
theorem ini1 (F : SupC P K mg C fI cc cda name qual params [supS p0 p1 p2 p3 p4 p5 msg j, fldS f1 x1 q1 q2 q3 q4] scope) (S : NScope ["self", x1, "__class__"] ["self", x1] ["__class__"] scope) (hp : (params.posonlyargs ++ params.args).head? = some ar) (har : ar.arg = "self") (hks : scope.names.lookup ("super" : Str) = some .globalImplicit)
    (hb : ∀ (kV doc pm ctv : Value) (an : Option Addr) (us : List Value), us.length = (["self", x1] : List Str).length → bindArgs (PySem.W.ksFn name qual params [supS p0 p1 p2 p3 p4 p5 msg j, fldS f1 x1 q1 q2 q3 q4] scope .none kV doc pm an (.ref cda) ctv cc) ⟨us, []⟩ = pure ((["self", x1] : List Str).zip us))
    (he : SupEv p0 p1 p2 p3 p4 msg j pl) (hi : ∀ env : PySem.Env, env.scope = scope → interactive env = false) (hs1 : FldSw scope f1 x1 q1 q2 q3 q4) (hno1 : PySem.W.findIn K (.ref C) f1 = some none)
    (hd1 : (x1 == ("__debug__" : Str)) = false) (hc1 : (x1 == ("__classdict__" : Str)) = false) : IniOk P w K mg base (fun _ _ _ _ _ _ => False) (k + 1) C fI 1 fun vs => [(f1, vs.getD 0 .non)] := by
  intro A outer s H us a ws Q E hr e0 r hw ha q
  match ws, hw with
  | [y], _ =>
    refine init_run (k := k) (t := tOst K f1 (tVar 0) (tVar 1)) F S hp (by rw [har]; rfl) hks hb (fun A outer s H E hr2 => by
      refine pss_one (ps_ost (to := tVar 0) (te := tVar 1) ?_ ?_ (hs := hs1 _ ?_))
      · exact pe_var (i := 0) rfl (.inl (S.par "self" (by simp)))
      · exact pe_var (i := 1) rfl (.inl (S.par x1 (by simp))) hd1 hc1
      · rfl) he hi hr e0 r rfl rfl ha ?_
    refine ⟨y, rfl, .ref a, rfl, a, C, rfl, F.T, hno1, .inl ⟨ha, fun dx n ne => q _ ?_⟩⟩
    exact ⟨dx, n, ne, upd_same, by rw [upd_ne ne, upd_same]; rfl, fun b h1 h2 => by rw [upd_ne h1, upd_ne h2]⟩
theorem ini2 (F : SupC P K mg C fI cc cda name qual params [supS p0 p1 p2 p3 p4 p5 msg j, fldS f1 x1 q1 q2 q3 q4, fldS f2 x2 r1 r2 r3 r4] scope) (S : NScope ["self", x1, x2, "__class__"] ["self", x1, x2] ["__class__"] scope) (hp : (params.posonlyargs ++ params.args).head? = some ar) (har : ar.arg = "self") (hks : scope.names.lookup ("super" : Str) = some .globalImplicit)
    (hb : ∀ (kV doc pm ctv : Value) (an : Option Addr) (us : List Value), us.length = (["self", x1, x2] : List Str).length → bindArgs (PySem.W.ksFn name qual params [supS p0 p1 p2 p3 p4 p5 msg j, fldS f1 x1 q1 q2 q3 q4, fldS f2 x2 r1 r2 r3 r4] scope .none kV doc pm an (.ref cda) ctv cc) ⟨us, []⟩ = pure ((["self", x1, x2] : List Str).zip us))
    (he : SupEv p0 p1 p2 p3 p4 msg j pl) (hi : ∀ env : PySem.Env, env.scope = scope → interactive env = false) (hs1 : FldSw scope f1 x1 q1 q2 q3 q4) (hs2 : FldSw scope f2 x2 r1 r2 r3 r4) (hno1 : PySem.W.findIn K (.ref C) f1 = some none) (hno2 : PySem.W.findIn K (.ref C) f2 = some none)
    (hd1 : (x1 == ("__debug__" : Str)) = false) (hc1 : (x1 == ("__classdict__" : Str)) = false) (hd2 : (x2 == ("__debug__" : Str)) = false) (hc2 : (x2 == ("__classdict__" : Str)) = false) : IniOk P w K mg base (fun _ _ _ _ _ _ => False) (k + 1) C fI 2 fun vs => [(f2, vs.getD 1 .non), (f1, vs.getD 0 .non)] := by
  intro A outer s H us a ws Q E hr e0 r hw ha q
  match ws, hw with
  | [y, z], _ =>
    refine init_run (k := k) (t := tSeq (tOst K f1 (tVar 0) (tVar 1)) (tOst K f2 (tVar 0) (tVar 2))) F S hp (by rw [har]; rfl) hks hb (fun A outer s H E hr2 => by
      refine pss_cons (ps_ost (to := tVar 0) (te := tVar 1) ?_ ?_ (hs := hs1 _ ?_)) (pss_one (ps_ost (to := tVar 0) (te := tVar 2) ?_ ?_ (hs := hs2 _ ?_)))
      · exact pe_var (i := 0) rfl (.inl (S.par "self" (by simp)))
      · exact pe_var (i := 1) rfl (.inl (S.par x1 (by simp))) hd1 hc1
      · rfl
      · exact pe_var (i := 0) rfl (.inl (S.par "self" (by simp)))
      · exact pe_var (i := 2) rfl (.inl (S.par x2 (by simp))) hd2 hc2
      · rfl) he hi hr e0 r rfl rfl ha ?_
    refine ⟨y, rfl, .ref a, rfl, a, C, rfl, F.T, hno1, .inl ⟨ha, fun dx n ne => ?_⟩⟩
    refine ⟨z, rfl, .ref a, rfl, a, C, rfl, F.T, hno2, .inr ⟨dx, [(f1, y)], upd_same, by rw [upd_ne ne, upd_same], by simp, q _ ?_⟩⟩
    exact ⟨dx, n, ne, by rw [upd_ne (Ne.symm ne), upd_same], upd_same, fun b h1 h2 => by rw [upd_ne h2, upd_ne h1, upd_ne h2]⟩
end
end M
namespace M
open PySem PySem.Spec L2
/-! ### raise -/
def flV (fl : List (Str × Nat)) (vs : List V) : List (Str × V) := fl.map fun p => (p.1, vs.getD p.2 .non)
def flD (fl : List (Str × Nat)) (ds : List D) : List (Str × D) := fl.map fun p => (p.1, ds.getD p.2 .non)
/-- an own exception class that may be raised -/
structure MExc (P : Program) (w : World) (K : PySem.W.Frag) (mg : Str → Option Value) (base : Heap) (G : Wd) (k : Nat) (c : Str) (n : Nat) (fl : List (Str × Nat)) : Prop where
  ex : ∃ C fI : Addr, OexC K C ∧ PySem.W.findIn K (.ref C) "__init__" = some (some (.ref fI)) ∧ PySem.W.typeIn K (.ref fI) = some (.type "function") ∧ IniOk P w K mg base (fun _ _ _ _ _ _ => False) k C fI n (flV fl) ∧ mg c = some (.ref C) ∧ G.cls c = some C
  small : n ≤ 1000
@[simp] def sRaise (c : Str) (n : Nat) (fl : List (Str × Nat)) (f : DenL) : SDen := fun ρ st => sOf f (fun ds ρ st => if ds.length = n then .exc c (flD fl ds) ρ st else .stuck) ρ st
section
variable {G : Wd} {W : WX} {X : Cx} {Z : Zone} {H : Hp} {L : List Addr} {st : Sto}
theorem Reps.getD {ds : List D} {vs : List V} (r : Reps G Z H ds vs) (i : Nat) : Rep G Z H (ds.getD i .non) (vs.getD i .non) := by
  rw [List.getD_eq_getElem?_getD, List.getD_eq_getElem?_getD]
  cases e : ds[i]? with
  | none =>
    rw [r.none_of e]
    exact .non
  | some d =>
    obtain ⟨v, e2, rv⟩ := r.get e
    rw [e2]
    exact rv
theorem repF_fl {ds : List D} {vs : List V} (r : Reps G Z H ds vs) : ∀ fl : List (Str × Nat), RepF G Z H (flD fl ds) (flV fl vs)
  | [] => .nil
  | (f, i) :: fl => .cons (r.getD i) (repF_fl r fl)
theorem StOk.fresh_out (S : StOk G Z L st H) {p : Addr} (h : H p = none) : ¬ Zof Z L st p := fun z => by
  rcases z with z | ⟨n, o, e, _⟩
  · exact S.z0 p z h
  · exact S.lh p (List.mem_of_getElem? e) h
theorem ms_raise {k n : Nat} {c : Str} {fl : List (Str × Nat)} {p pos pos' : Pos} {e : Expr} {es : List Expr} {f : DenL} (hc : X.calm = true) (m : MExc X.prog X.w X.K X.mg X.base G k c n fl) (hr : Room (k + 1) X.A) (tk : L2N.Takes X W) (ha : MA G W X (e :: es) f) (hg : Gl X c := by rfl)
    (hdb : (c == ("__debug__" : Str)) = false := by decide) (he : starEach (e :: es) X.env = (false, eval e X.env) :: starEach es X.env := by rfl) (hpl : (backTo pos (starEach es X.env)).any (·.1) = false := by rfl) :
    MS G W X (.Raise (some (.Call (.Name c p) (e :: es) [] pos)) none pos') (sRaise c n fl f) := by
  obtain ⟨C, fI, T, iC, tI, ini, hm, hC⟩ := m.ex
  refine PS.imp (L2N.ps_raise hc tk (pmk_sup T iC tI ini hr m.small hm ha hg hdb he hpl)) fun E σ H q => ?_
  obtain ⟨Z, ρ, st, L, S, q⟩ := q
  refine ⟨Z, ρ, st, L, S, PostR.bindS S q fun ds st1 vs H1 L1 e1 f1 S1 r1 q1 => ?_⟩
  have q1 : PostS G Z W L1 st1 H1 (if ds.length = n then .exc c (flD fl ds) ρ st1 else .stuck) E := q1
  by_cases hn : ds.length = n
  · rw [if_pos hn] at q1
    refine ⟨by rw [← r1.length]; exact hn, fun e0 => ?_, fun e0 d hd => ?_⟩
    · have ef : fl = [] := by
        cases fl with
        | nil => rfl
        | cons _ _ => cases e0
      subst ef
      exact q1 σ H1 L1 C none [] Fw.refl S1 hC rfl .nil
    · have sm := same_new (o := .xd (flV fl vs)) hd
      have f2 : Fw Z L1 st1 H1 L1 st1 (upd H1 d (.xd (flV fl vs))) := Fw.same sm
      exact q1 σ _ L1 C (some d) (flV fl vs) f2 (S1.to f2 (S1.ok.same sm)) hC ⟨upd_same, S1.ok.fresh_out hd⟩ (repF_fl (r1.mono f2.keeps) fl)
  · rw [if_neg hn] at q1
    exact q1.elim
end
end M
/-! ### isinstance of an exception that has its dict -/
namespace PySem.W
open PySem PySem.Spec PySem.Calls PyProof.Rows
section
variable {prog : Program} {w : World} {A : Around} {E : Value → Shared → Prop} {s : Shared} {K : Frag} {x D : Addr} {ox : Obj} {od : Option Obj}
theorem mfind_data {C : Addr} {name : Str} {a g : Value} (hc : (clsIn K C).isSome = true) (ha : findIn K (.ref C) name = some (some a)) (hg : specialIn K a "__get__" = some (some g)) (ht : takesIn K a = some true) : findObj K C od name = some (.bind g a) := by
  obtain ⟨cd, hc⟩ := Option.isSome_iff_exists.mp hc
  unfold findObj
  rw [hc, Option.bind_some, ha, Option.bind_some]
  simp [hg, ht]
theorem mkin_class {Q : Option Value → Shared → Prop} (C : L2.ExcC K D)
    (X : K.In s.heap) (I : InstAt s.heap x ox D od) (h : Q (some (.ref D)) { s with toks := s.toks + 1 }) : wpAny (model prog w) A (getAttr? (.ref x) "__class__") Q E s := by
  have hf : findObj K D od "__class__" = some (.bind (.builtin "getset_descriptor.__get__") (.builtin "object.__class__")) := mfind_data (by obtain ⟨cd, hc, _⟩ := any_some C.hd; rw [hc]; rfl) C.ha C.hn C.ht
  obtain ⟨hp, g, d, t, os⟩ := s
  have L0 := I.type (M := model prog w)
  have L1 := looks_findIn (M := model prog w) X C.hg
  have L2 := looks_findIn (M := model prog w) X C.hk
  have L3 := looks_find (M := model prog w) X I hf
  have sub : Looks (model prog w) hp (isInstance (.ref x) (.type "BaseException")) true := L0.andThen (looks_subIn X C.hs)
  have hx0 : (false && onTheHeap (Value.builtin "BaseException.__getattribute__")) = false := rfl
  have hx2 : (Value.builtin "BaseException.__getattribute__" == Value.builtin "object.__getattribute__") = false := by decide +kernel
  have hx1 : (onTheHeap (Value.ref D) && Value.builtin "BaseException.__getattribute__" == Value.builtin "object.__getattribute__") = false := by rw [hx2]; rfl
  unfold getAttr? getAttrBy? getAttrBy
  refine wpAny_bind (wpAny_mkText (wpAny_bind (wpAny_attempt (wpAny_holding (wpAny_bind (L0.at (wpAny_bind (L1.at ?_))))))))
  show wpAny _ _ (if (onTheHeap (Value.ref D) && Value.builtin "BaseException.__getattribute__" == Value.builtin "object.__getattribute__") = true then _ else _) _ _ _
  rw [hx1, if_neg Bool.false_ne_true]
  unfold getAttrByItsOwn hookBefore
  refine wpAny_bind ?_
  rw [if_pos (show onTheHeap (Value.ref D) = true from rfl)]
  refine L2.at ?_
  refine wpAny_bind (wpAny_attempt (wpAny_holding ?_))
  unfold callGetattribute
  rw [hx0, if_neg Bool.false_ne_true]
  unfold boundAndCalled
  rw [PySem.F.excAttr_ValueError.ga.bind (.ref x)]
  refine wpAny_bind (wpAny_pure ?_)
  show wpAny _ _ (call (.builtin "BaseException.__getattribute__") [.ref x, .str "__class__" t]) _ _ _
  refine wpAny_call (codeAny_call_builtin PySem.F.excAttr_ValueError.ga.plain PySem.F.entry_bexc_ga ?_)
  refine @check_slot (model prog w) _ _ ⟨hp, g, d, t + 1, os⟩ "BaseException.__getattribute__" "BaseException" "__getattribute__" (.ref x) [.str "__class__" t] [] _ (by decide +kernel) (by decide +kernel) sub (PySem.F.args_bexc_ga (.ref x) (.str "__class__" t)) ?_
  unfold Builtin.«object.__getattribute__»
  refine wpAny_bind (wpAny_of_eq (a := ((Value.ref x : Value), [Value.str "__class__" t])) (by first | rfl | (simp only [slotArgs]; rfl)) ?_)
  refine wpAny_bind (wpAny_pure (wpAny_bind (L0.at (wpAny_bind (L3.at ?_)))))
  show wpAny _ _ (holding [Value.builtin "object.__class__"] (call (.builtin "getset_descriptor.__get__") [.builtin "object.__class__", .ref x, .ref D]) >>= ret) _ _ _
  refine wpAny_bind (wpAny_holding (wpAny_call (class_get (s := ⟨hp, g, d, t + 1, os⟩) (ox := ox) (od := od) X I C.hm ?_)))
  refine wpAny_pure ?_
  show wpAny _ _ (handedOut (.ref D)) _ _ _
  rw [handedOut_of (v := .ref D) rfl]
  first
    | exact wpAny_pure (wpAny_pure h)
    | exact wpAny_pure h
    | exact wpAny_pure (wpAny_bind (wpAny_pure (wpAny_pure h)))
theorem mkitx_exc (C : L2.ExcC K D) : KitX K (.ref x) (.ref D) (fun h => InstAt h x ox D od) where
  ty := fun _ _ _ I => I.type
  it := fun _ _ X _ => by
    obtain ⟨cdD, hcD, _⟩ := any_some C.hd
    unfold clsIn at hcD
    split at hcD
    · rename_i c' d' cd' sl' ho
      intro A' Q' E' s' k q
      unfold isType loadHead
      exact wpAny_bind (wpAny_loadPart (k _ _ (X _ _ ho)) (wpAny_pure q))
    · cases hcD
  ne := fun h tp dd its n sl X htp => by
    obtain ⟨cdD, hcD, _⟩ := any_some C.hd
    refine Bool.eq_false_iff.mpr fun q => ?_
    have e : D = tp := Value.ref.inj (beq_iff_eq.mp q)
    subst e
    unfold clsIn at hcD
    split at hcD
    · rename_i c' d' cd' sl' ho
      have z := (X _ _ ho).symm.trans htp
      cases z
    · cases hcD
  ca := fun X I k => mkin_class C X I k
end
end PySem.W
namespace M
open PySem PySem.Spec L2
/-! ### worlds that differ in what they pin -/
structure Like (G G' : Wd) : Prop where
  K : G'.K = G.K
  cls : G'.cls = G.cls
  fn : G'.fn = G.fn
section
variable {G G' : Wd} {Z : Zone} {H : Hp}
mutual
theorem Rep.conv (g : Like G G') : ∀ {d : D} {v : V}, Rep G Z H d v → Rep G' Z H d v
  | _, _, .non => .non
  | _, _, .bl b => .bl b
  | _, _, .int i => .int i
  | _, _, .str x => .str x
  | _, _, .tup r z h => .tup r z (Reps.conv g h)
  | _, _, .tupK r h => .tupK (g.K ▸ r) (Reps.conv g h)
  | _, _, .lst r z h => .lst r z (Reps.conv g h)
  | _, _, .dK r z h => .dK r z (RepK.conv g h)
  | _, _, .dT r z h => .dT r z (RepT.conv g h)
  | _, _, .ins e z c h => .ins e z (g.cls ▸ c) (RepF.conv g h)
  | _, _, .fn e => .fn (g.fn ▸ e)
  | _, _, .scr r z => .scr r z
  | _, _, .scrK h => .scrK (g.K ▸ h)
theorem Reps.conv (g : Like G G') : ∀ {d : List D} {v : List V}, Reps G Z H d v → Reps G' Z H d v
  | _, _, .nil => .nil
  | _, _, .cons h t => .cons (Rep.conv g h) (Reps.conv g t)
theorem RepK.conv (g : Like G G') : ∀ {d : List (D × D)} {v : List (Key × V)}, RepK G Z H d v → RepK G' Z H d v
  | _, _, .nil => .nil
  | _, _, .int h t => .int (Rep.conv g h) (RepK.conv g t)
  | _, _, .str h t => .str (Rep.conv g h) (RepK.conv g t)
theorem RepT.conv (g : Like G G') : ∀ {d : List (D × D)} {v : List (List Key × V)}, RepT G Z H d v → RepT G' Z H d v
  | _, _, .nil => .nil
  | _, _, .cons e h t => .cons (Reps.conv g e) (Rep.conv g h) (RepT.conv g t)
theorem RepF.conv (g : Like G G') : ∀ {d : List (Str × D)} {v : List (Str × V)}, RepF G Z H d v → RepF G' Z H d v
  | _, _, .nil => .nil
  | _, _, .cons h t => .cons (Rep.conv g h) (RepF.conv g t)
end
theorem Like.symm (g : Like G G') : Like G' G := ⟨g.K.symm, g.cls.symm, g.fn.symm⟩
theorem StOk.nil_of (z : ∀ a, Z a → H a ≠ none) (t : TabZ G'.T Z H) : StOk G' Z [] [] H := ⟨rfl, .nil, fun n a o e => by simp at e, z, fun a h => by simp at h, fun a h => by simp at h, t.zone fun a z => zof_nil.mp z⟩
end
/-- the world where p's object is the exception that is handled -/
abbrev gx (G : Wd) (p : Addr × Obj) (C : Addr) : Wd := { G with exc := some (p.1, C, p.2.dict) }
theorem like_gx {G : Wd} {p : Addr × Obj} {C : Addr} : Like G (gx G p C) := ⟨rfl, rfl, rfl⟩
/-- the context bears the world's exception -/
def HotX (G : Wd) (X : Cx) : Prop := ∃ (a C : Addr) (dd : Option Addr) (oe : Obj) (vs : Array Value), G.exc = some (a, C, dd) ∧ (a, oe) ∈ X.pn ∧ oe.cls = .ref C ∧ oe.dict = dd ∧ oe.data = .fields vs
section
variable {G : Wd} {W : WX} {X : Cx}
/-- isinstance(e, D), e the caught exception; sub: whether a class is below D -/
@[simp] def eIsX (i : Nat) (sub : Str → Option Bool) : Den := fun ρ st => match ρ[i]? with
  | some (some (.x c _)) => (match sub c with | some b => .ok (.bl b) st | none => .stuck)
  | _ => .stuck
theorem inst_pin {pins : List (Addr × Obj)} {σ : St} {H : Hp} {s : Shared} {a C : Addr} {dd : Option Addr} {oe : Obj} {vs : Array Value} {vfs : List (Str × V)} {Z : Zone} (I : Inv X pins σ H s) (hp : (a, oe) ∈ X.pn) (hc : oe.cls = .ref C) (hd : oe.dict = dd) (hv : oe.data = .fields vs) (x : XdAt Z H dd vfs) :
    ∃ od, PySem.W.InstAt s.heap a oe C od := by
  obtain ⟨hget, _⟩ := I.pin (a, oe) (List.mem_append.mpr (.inl hp))
  obtain ⟨oc, odc, oda, osl⟩ := oe
  dsimp only at hc hd hv
  subst hc hd hv
  cases odc with
  | none => exact ⟨none, hget, rfl, rfl, trivial⟩
  | some d =>
    have hx : ObjOk X.prog X.w H s.heap d (.xd vfs) := I.hok d _ x.1
    obtain ⟨mA, ⟨od, es, ep, ho, hr⟩, _⟩ := hx
    exact ⟨some od, hget, rfl, rfl, ho⟩
/-- what isinstance asks of the classes -/
structure XCls (G : Wd) (K : PySem.W.Frag) : Prop where
  exc : ∀ c C, G.cls c = some C → ExcC K C
  fld : ∀ c C, G.cls c = some C → XfC K C
def rIsX (X : Cx) : List V → Hp → VK → Prop := fun xs H Q => ∃ (a C : Addr) (dd : Option Addr) (oe : Obj) (vs : Array Value) (vfs : List (Str × V)) (Z : Zone) (c : V) (cv : Value) (b : Bool), xs = [.ref a, c] ∧ (a, oe) ∈ X.pn ∧ oe.cls = .ref C ∧ oe.dict = dd ∧ oe.data = .fields vs ∧ XdAt Z H dd vfs ∧ ExcC X.K C ∧
  (∀ u, RelV c u → u = cv) ∧ PySem.W.kitOne X.K (.ref C) cv = some b ∧ Q (.bl b) H
theorem call_isX : CallR X (.builtin "isinstance") (rIsX X) := by
  intro pins s σ H xs us Q I r h
  obtain ⟨a, C, dd, oe, vs, vfs, Z, c, cv, b, rfl, hp, hc, hd, hv, hx, hE, hcv, e, q⟩ := h
  cases r with
  | cons rx rr =>
    cases rr with
    | cons rt rr =>
      cases rr
      cases rx
      have ec := hcv _ rt
      subst ec
      obtain ⟨od, J⟩ := inst_pin I hp hc hd hv hx
      exact PySem.W.kia_one (PySem.W.mkitx_exc hE) I.kIn J e (fun z => nomatch z) fun tk => ⟨.bl b, H, I.kept (t' := tk) fun _ _ z => z, rfl, q⟩
theorem me_isx1 (i : Nat) {x y : Str} {v : V} {cv : Value} {sub : Str → Option Bool} {p px py pos : Pos} (hx : HotX G X) (hE : XCls G X.K) (hs : ∀ c C b, G.cls c = some C → sub c = some b → PySem.W.kitOne X.K (.ref C) cv = some b) (hcv : ∀ u, RelV v u → u = cv) (hm : X.mg "isinstance" = none) (h0 : PE X (.Name x px) (tVar i)) (h1 : PE X (.Name y py) (tC v)) (hg : Gl X "isinstance" := by rfl)
    (hst : starEach [.Name x px, .Name y py] X.env = (false, eval (.Name x px) X.env) :: starEach [.Name y py] X.env := by rfl) (hs2 : starEach [.Name y py] X.env = (false, eval (.Name y py) X.env) :: starEach [] X.env := by rfl) (hpl : (backTo pos (starEach [.Name y py] X.env)).any (·.1) = false := by rfl) :
    ME G W X (.Call (.Name "isinstance" p) [.Name x px, .Name y py] [] pos) (eIsX i sub) :=
  PE.imp (pe_callB call_isX hg hm (by decide +kernel) (pa_cons h0 (pa_cons h1 pa_nil hs2) hst) (by decide) (by decide) hst hpl) fun σ H Q q => by
    obtain ⟨Z, ρ, st, L, S, q⟩ := q
    unfold eIsX at q
    split at q
    · rename_i c fs er
      split at q
      · rename_i b eb
        obtain ⟨v0, ev, r⟩ := S.env.2 i _ er
        cases r with
        | x e1 e2 e3 e4 =>
          obtain ⟨a, C, dd, oe, vs, f1, f2, f3, f4, f5⟩ := hx
          rw [f1] at e1
          cases e1
          exact ⟨_, ev, _, _, _, oe, vs, _, _, v, cv, b, rfl, f2, f3, f4, f5, e3, hE.exc _ _ e2, hcv, hs _ _ _ e2 eb, q (.bl b) H L Fw.refl S.ok (.bl b)⟩
      · exact q.elim
    · exact q.elim
/-- e.f, e the caught exception -/
@[simp] def eXf (i : Nat) (f : Str) : Den := fun ρ st => match ρ[i]? with
  | some (some (.x _ fs)) => (match fs.lookup f with | some d => .ok d st | none => .stuck)
  | _ => .stuck
theorem RepF.look {Z : Zone} {H : Hp} {f : Str} : ∀ {fs : List (Str × D)} {vfs : List (Str × V)} {d : D}, RepF G Z H fs vfs → fs.lookup f = some d → ∃ v, vfs.lookup f = some v ∧ Rep G Z H d v
  | _, _, _, .nil, e => by simp at e
  | _, _, d, .cons (x := x) r t, e => by
    rw [List.lookup_cons] at e ⊢
    split at e
    · cases e
      exact ⟨_, rfl, r⟩
    · exact RepF.look t e
theorem SRep.x_inv {Z : Zone} {H : Hp} {L : List Addr} {c : Str} {fs : List (Str × D)} {v : V} (r : SRep G Z H L (.x c fs) v) : ∃ (a C : Addr) (dd : Option Addr) (vfs : List (Str × V)), v = .ref a ∧ G.exc = some (a, C, dd) ∧ G.cls c = some C ∧ XdAt Z H dd vfs ∧ RepF G Z H fs vfs := by
  cases r with
  | x e1 e2 e3 e4 => exact ⟨_, _, _, _, rfl, e1, e2, e3, e4⟩
theorem me_xf (i : Nat) {x f : Str} {px pos : Pos} (hx : HotX G X) (hE : XCls G X.K) (hno : ∀ c C, G.cls c = some C → PySem.W.findIn X.K (.ref C) f = some none) (h0 : PE X (.Name x px) (tVar i)) (hb : attributeBase (.Name x px) f X.env (eval (.Name x px) X.env) = eval (.Name x px) X.env := by rfl) :
    ME G W X (.Attribute (.Name x px) f pos) (eXf i f) := by
  refine ⟨fun pins s σ H Q I q => ?_⟩
  obtain ⟨Z, ρ, st, L, S, q⟩ := q
  unfold eXf at q
  split at q
  · rename_i c fs er
    split at q
    · rename_i d ed
      obtain ⟨v0, ev, r⟩ := S.env.2 i _ er
      obtain ⟨a1, C1, dd1, vfs, rfl, e1, e2, e3, e4⟩ := r.x_inv
      obtain ⟨a, C, dd, oe, vs, f1, f2, f3, f4, f5⟩ := hx
      rw [f1] at e1
      obtain ⟨rfl, rfl, rfl⟩ : a = a1 ∧ C = C1 ∧ dd = dd1 := by simpa using e1
      obtain ⟨v, el, rv⟩ := e4.look ed
      refine attr_of hb (thn (h0.run pins s σ H (fun x H1 => x = .ref a ∧ H1 = H) I ⟨_, ev, rfl, rfl⟩) fun u s1 hh => ?_)
      obtain ⟨x, H1, I1, rx, ex, eH⟩ := hh
      subst ex
      subst eH
      obtain rfl : u = Value.ref a := rx
      cases dd with
      | none =>
        have e3 : vfs = [] := e3
        subst e3
        cases el
      | some dd =>
        obtain ⟨ha, _⟩ := I1.pin (a, oe) (List.mem_append_left _ f2)
        have hx : ObjOk X.prog X.w H1 s1.heap dd (.xd vfs) := I1.hok dd _ e3.1
        obtain ⟨mA, hns, hr⟩ := hx
        obtain ⟨od, ho, hl⟩ := lookIn_ns hns
        obtain ⟨u, hu, ru⟩ := RelO.some_of (v := v) (o := mA f) (by rw [← el]; exact hr f)
        have T := hE.fld _ _ e2
        have J : PySem.W.InstAt s1.heap a oe C (some od) := ⟨ha, f3, by unfold PySem.W.notCls; rw [f5] <;> rfl, by rw [f4]; exact ho⟩
        exact PySem.HandSPX.exc_get I1.kIn J T.ga T.gg T.exC (PySem.W.findObj_own T.hdC (hno _ _ e2) rfl (by rw [hl, hu])) (handed_of ru) ⟨v, H1, I1.tok _, ru, q v H1 L Fw.refl S.ok rv⟩
    · exact q.elim
  · exact q.elim
end
end M
namespace M
open PySem PySem.Spec L2 L2H PyProof.Rows
/-! ### a def that is called in an except suite with the exception -/
structure FnHE (P : Program) (w : World) (K : PySem.W.Frag) (mg : Str → Option Value) (base : Heap) (CX : CXT) (k : Nat) (f : Addr) (fd : FuncData) (ps : List Str) (sp : (Addr × Obj) → Sp) : Prop where
  len : ∀ p vs H Q E, sp p vs H Q E → vs.length = ps.length
  run : ∀ (A : Around) (outer : List PySem.Env) (s : Shared) (H : Hp) (args : Args) (us : List Value) (vs : List V) (Q : VK) (E : XK) (p : Addr × Obj), RoomH k A → Hot1 A p → PinOk outer H s p → Env0 P w K mg base A outer s H → BindsTo s fd args (ps.zip us) → Vals vs us → sp p vs H Q E →
    codeAny (model P w) A (.call (.ref f) args) (CR CX outer P w H s Q E) s
theorem fn_ofHE {CX : CXT} {P : Program} {w : World} {K : PySem.W.Frag} {mg : Str → Option Value} {base : Heap} {k : Nat} {f : Addr} {name qual : Str} {params : Arguments} {body : List Stmt} {scope : Scope} {dV kV doc pm cdv ct oc : Value} {an od : Option Addr}
    {osl : Array (Option Value)} {N ps : List Str} {sp : (Addr × Obj) → Sp} (lk : K.lookup f = some ⟨oc, od, .func (PySem.W.fnOf name qual params body scope dV kV doc pm an cdv ct), osl⟩) (hcd : PySem.W.codeIn K cdv qual = true) (S : FnScope N ps scope)
    (len : ∀ p vs H Q E, sp p vs H Q E → vs.length = ps.length)
    (hbody : ∀ (A : Around) (outer : List PySem.Env) (s : Shared) (H : Hp) (vs : List V) (Q : VK) (E : XK) (p : Addr × Obj), Hot1 A p → RoomH k (A.deeper (envOfC qual scope s.heap.objs.size f cdv)) → sp p vs H Q E →
      ∃ t, PSs (cxH CX P w K mg base N qual scope f cdv A outer s H E p) body t ∧ t { nx := fun _ H' => Q .non H', rt := Q } (L2.start N vs) H) :
    FnHE P w K mg base CX (k + 1) f (PySem.W.fnOf name qual params body scope dV kV doc pm an cdv ct) ps sp := by
  refine ⟨len, fun A outer s H args us vs Q E p hr hot hpin e0 hb r hsp => ?_⟩
  have hl := len _ _ _ _ _ hsp
  have KX : K.In s.heap := e0.mod.kin.keeps fun b o e => (e0.bs b o e).1
  have lim : s.heap.NoLimit := e0.mod.nolimit.keeps fun b o e => (e0.bs b o e).1
  have hkind : ∀ y ∈ ps.zip us, scope.names.lookup y.1 = some .local ∨ (scope.names.lookup y.1 = some .cell ∧ ((cellsFrom (s.heap.objs.size + 1) scope.names []).lookup y.1).isSome = true) := fun ⟨n, v⟩ hy => by
    rcases S.par n (List.of_mem_zip hy).1 with q | q
    · exact .inl q
    · exact .inr ⟨q, PySem.W.cellsFrom_some _ _ _ (.inl q)⟩
  refine codeAny_call_function hr.depth (KX _ _ lk) rfl S.co S.gen rfl (PySem.W.codeRec_of KX hcd) (hb _ _ _ _ ?_)
  refine wpAny_newFunctionEnv_cells S.kind hkind fun env he s1 x => ?_
  subst he
  refine ⟨lim.keeps x.toInCall.keep, codeAny_func ?_⟩
  obtain ⟨t, ht, hq⟩ := hbody A outer s H vs Q E p hot (hr.deeper _) hsp
  have I : Inv (cxH CX P w K mg base N qual scope f cdv A outer s H E p) [] (L2.start N vs) H s1 := inv_startH S hpin e0 hl r x
  refine wpAny_mono (ht.run [] s1 (L2.start N vs) H _ I hq) (fun fl s' hs => ?_) fun e s' hs => hs
  have fin : ∀ {σ' : L2.St} {H' : Hp} {v : V} {u : Value}, Inv (cxH CX P w K mg base N qual scope f cdv A outer s H E p) [] σ' H' s' → RelV v u → Q v H' → CE outer P w H s Q u s' :=
    fun {σ' H' v u} J rv q => ⟨v, H', J.os, J.bare, J.base, J.hok, rv, q⟩
  cases fl with
  | ret u =>
    obtain ⟨v, σ', H', J, rv, q⟩ := hs
    exact fin J rv q
  | next =>
    obtain ⟨σ', H', J, q⟩ := hs
    exact fin (v := V.non) (u := Value.none) J rfl q
  | brk =>
    obtain ⟨_, _, _, q⟩ := hs
    exact False.elim q
  | cont =>
    obtain ⟨_, _, _, q⟩ := hs
    exact False.elim q
def spMX (G : Wd) (dn : FD) (p : Addr × Obj) : Sp := fun vs H Q E => ∃ (C : Addr) (c : Str) (fs : List (Str × D)) (vfs : List (Str × V)) (Z : Zone) (dvs : Array Value), vs = [.ref p.1] ∧ p.2.cls = .ref C ∧ p.2.data = .fields dvs ∧ G.cls c = some C ∧ (∀ a, Z a → H a ≠ none) ∧ TabZ G.T Z H ∧
  XdAt Z H p.2.dict vfs ∧ RepF G Z H fs vfs ∧ match dn [.x c fs] [] with
    | .ok d [] => ∀ v H', Fw Z [] [] H [] [] H' → TabZ G.T Z H' → Rep G Z H' d v → Q v H'
    | _ => False
section
variable {P : Program} {w : World} {K : PySem.W.Frag} {mg : Str → Option Value} {base : Heap} {G : Wd}
theorem fn_MH {x qual : Str} {s : Stmt} {f : Addr} {fd : FuncData} {N ps : List Str} {k : Nat} {fb : SDen} (F : Fun K x qual s f fd) (S : FnScope N ps (defScope s)) (hn : ps.length = 1) (hN : 1 ≤ N.length)
    (hbody : ∀ (cdv : Value) (A : Around) (outer : List PySem.Env) (sh : Shared) (H : Hp) (E : XK) (p : Addr × Obj) (C : Addr), RoomH k (A.deeper (envOfC qual (defScope s) sh.heap.objs.size f cdv)) →
      L2N.Takes (cxH (L2N.CX P w) P w K mg base N qual (defScope s) f cdv A outer sh H E p) (WD E) → PassesOwn (model P w) (A.deeper (envOfC qual (defScope s) sh.heap.objs.size f cdv)) (envOfC qual (defScope s) sh.heap.objs.size f cdv) (cxH (L2N.CX P w) P w K mg base N qual (defScope s) f cdv A outer sh H E p).xe →
      HotX (gx G p C) (cxH (L2N.CX P w) P w K mg base N qual (defScope s) f cdv A outer sh H E p) → MSs (gx G p C) (WD E) (cxH (L2N.CX P w) P w K mg base N qual (defScope s) f cdv A outer sh H E p) (defBody s) fb) :
    FnHE P w K mg base (L2N.CX P w) (k + 1) f fd ps (spMX G (dFn 1 N.length fb)) := by
  obtain ⟨oc, od, kV, doc, pm, an, cdv, ct, osl, rfl, lk, hcd⟩ := F.ex
  refine fn_ofHE lk hcd S (fun p vs H Q E h => by obtain ⟨C, c, fs, vfs, Z, dvs, rfl, _⟩ := h; exact hn.symm) fun A outer sh H vs Q E p hot hr hsp => ?_
  obtain ⟨C, c, fs, vfs, Z, dvs, rfl, hc, hd, hC, hz, ht, hx, hf, q⟩ := hsp
  refine ⟨_, hbody cdv A outer sh H E p C hr (L2N.takes_of rfl rfl rfl rfl) (passes_of rfl) ⟨p.1, C, p.2.dict, p.2, dvs, rfl, List.mem_singleton.mpr rfl, hc, rfl, hd⟩, ?_⟩
  have z0 : ∀ {a}, Zof Z [] [] a → Z a := fun h => zof_nil.mp h
  refine ⟨Z, ([.x c fs] : List M.S).map some ++ List.replicate (N.length - 1) none, [], [], ⟨StOk.nil_of hz ht, ?_⟩, ?_⟩
  · have hf2 : RepF (gx G p C) (Zof Z [] []) H fs vfs := (RepF.conv like_gx hf).mono fun a o e z => ⟨.of e, fun q => z (z0 q)⟩
    have hx2 : XdAt (Zof Z [] []) H p.2.dict vfs := hx.zone fun a z => z0 z
    have r1 : SRep (gx G p C) (Zof Z [] []) H [] (.x c fs) (.ref p.1) := SRep.x (G := gx G p C) rfl hC hx2 hf2
    exact env_start (G := gx G p C) (.cons r1 .nil) hN
  · unfold dFn at q
    rw [if_pos (by rfl)] at q
    revert q
    cases fb (([.x c fs] : List M.S).map some ++ List.replicate (N.length - 1) none) [] with
    | stuck => exact fun q => q.elim
    | brk ρ s => exact fun q => q.elim
    | cont ρ s => exact fun q => q.elim
    | next ρ s' =>
      intro q σ' H' L' f' S'
      unfold cutOff at q
      simp only [List.length_nil, List.take_zero, List.all_nil, if_true] at q
      obtain ⟨f2, e⟩ := f'.cut (StOk.nil_of (G' := G) hz ht)
      simp only [List.length_nil, List.take_zero] at f2
      exact q .non H' f2 (S'.ok.tb.zone fun a z => .inl z) .non
    | ret d s' =>
      intro q v H' L' f' o' r'
      unfold cutOff at q
      simp only [List.length_nil, List.take_zero, List.all_nil, if_true] at q
      obtain ⟨f2, e⟩ := f'.cut (StOk.nil_of (G' := G) hz ht)
      simp only [List.length_nil, List.take_zero] at f2
      exact q v H' f2 (o'.tb.zone fun a z => .inl z) ((r'.zone fun a z => .inl z).conv like_gx.symm)
    | exc c fs ρ s' =>
      intro q
      unfold cutOff at q
      simp only [List.length_nil, List.take_zero, List.all_nil, if_true] at q
end
end M
namespace M
open PySem PySem.Spec L2 LamX PyProof.Rows
/-! ### a lambda is made: what becomes of the heap -/
/-- from H to H1: the table at P may grow, a code object may be new -/
structure TabTo (P : Addr) (H H1 : Hp) : Prop where
  keep : ∀ b o, H b = some o → b ≠ P → H1 b = some o
  there : ∀ b, H b ≠ none → H1 b ≠ none
  tab : ∀ ps, H P = some (.tbl ps) → ∃ ps', H1 P = some (.tbl ps')
theorem TabTo.refl {P : Addr} {H : Hp} : TabTo P H H := ⟨fun _ _ e _ => e, fun _ e => e, fun ps e => ⟨ps, e⟩⟩
section
variable {X : Cx} {pins : List (Addr × Obj)} {σ : L2.St} {H : Hp} {s : Shared}
theorem lam_new {T : List (Addr × Str)} {c P : Addr} {Zz : Zone} {params : Arguments} {body : Expr} {scope : Scope} {pos : Pos} {E : Value → Shared → Prop} {Q : Value → Shared → Prop} (I : Inv X pins σ H s) (TB : TabB X.base X.mg c P) (hcode : X.env.code = .ref c)
    (hm : (P, X.env.qual ++ "<lambda>") ∈ T) (hu : ∀ p ∈ T, p.1 = P → p.2 = X.env.qual ++ "<lambda>") (hT : TabZ T Zz H) (hz : ∀ a, Zz a → H a ≠ none) (hdef : defaultsOf params X.env = ([], [])) (hfree : ∀ y ∈ scope.names, y.2 = .free → ∃ c, X.env.cells.lookup y.1 = some c)
    (h : ∀ (f c' : Addr) (pm ctv : Value) (H1 : Hp) (s' : Shared), Inv X pins σ H1 s' → TabTo P H H1 → TabZ T Zz H1 →
      s'.heap.get? f = some (PySem.W.kla_obj "<lambda>" (X.env.qual ++ "<lambda>") params body scope (cloFrom X.env.cells scope.names []) pm c' ctv) → H1 f = none → f ∉ frs X.stack → H1 c' = some (CodeO c' (X.env.qual ++ "<lambda>")) → ¬ Zz c' → Q (.ref f) s') :
    wpAny (model X.prog X.w) X.A (eval (.Lambda params body scope pos) X.env) Q E s := by
  obtain ⟨hPz, ps, hP, ht, ha⟩ := hT _ hm
  have bP : s.heap.BuiltinsAt X.mg P := TB.bm.keeps I.bk
  have hP' : s.heap.get? P = some { cls := .none, data := .fields ps } := I.hok P _ hP
  have out : ∀ f, s.heap.objs.size ≤ f → f ∉ frs X.stack := fun f hf z => (List.mem_cons.mp (I.stkSub _ z)).elim (fun e => Nat.lt_irrefl _ (Nat.lt_of_lt_of_le (e ▸ I.lt) hf)) (I.nofs hf)
  refine PySem.W.kla_eval hdef ?_
  cases hc : codeAmong pos ps.toList with
  | some cv =>
    obtain ⟨c', e, hco, hcz⟩ := ha pos cv hc
    subst e
    refine PySem.W.kla_makeFunctionHit (mg := X.mg) (c := c) (P := P) (ps := ps) (closure_ok hfree) I.ok.glob (I.mod.glob.keeps I.bk) hcode (TB.code.keeps I.bk) hP' ht hc bP fun ctv h' tk hx hsz => ?_
    exact h h'.objs.size c' _ ctv H _ (I.kept (t' := tk) fun b o e => Heap.get?_push_of_some _ (hx b o e)) .refl hT (Heap.get?_push_size _ rfl) (I.hok.fresh hsz) (out _ hsz) hco hcz
  | none =>
    refine PySem.W.kla_makeFunction (mg := X.mg) (c := c) (P := P) (ps := ps) (closure_ok hfree) I.ok.glob (I.mod.glob.keeps I.bk) hcode (TB.code.keeps I.bk) hP' ht hc TB.gP bP fun c' ctv h' tk hx hge hlt hrec htb => ?_
    obtain ⟨c2, oc, vs, t, e2, hoc, hd, hv⟩ := hrec
    cases e2
    have nC : H c' = none := I.hok.fresh hge
    have hsz : s.heap.objs.size ≤ h'.objs.size := Nat.le_trans hge (Nat.le_of_lt hlt)
    have J := inv_table (t' := tk) (more := #[rawInt pos.line, rawInt pos.col, .ref c']) (h' := h'.push (PySem.W.kla_obj "<lambda>" (X.env.qual ++ "<lambda>") params body scope (cloFrom X.env.cells scope.names []) ((X.mg "__name__").getD .none) c' ctv)) I hP
      (fun b o hb e => Heap.get?_push_of_some _ (hx b o hb e)) (Heap.get?_push_of_some _ htb) hge ⟨oc, vs, t, Heap.get?_push_of_some _ hoc, hd, hv⟩
    have nPc : P ≠ c' := ne_of_none hP nC
    have kp : ∀ b o, H b = some o → b ≠ P → upd (upd H P (.tbl (ps ++ #[rawInt pos.line, rawInt pos.col, .ref c']))) c' (CodeO c' (X.env.qual ++ "<lambda>")) b = some o := fun b o e n => by rw [upd_ne (ne_of_none e nC), upd_ne n]; exact e
    have atP : upd (upd H P (.tbl (ps ++ #[rawInt pos.line, rawInt pos.col, .ref c']))) c' (CodeO c' (X.env.qual ++ "<lambda>")) P = some (.tbl (ps ++ #[rawInt pos.line, rawInt pos.col, .ref c'])) := by rw [upd_ne nPc, upd_same]
    have czn : ¬ Zz c' := fun z => hz c' z nC
    have codeP : ∀ {c0 : Addr} {q : Str}, H c0 = some (CodeO c0 q) → c0 ≠ P := fun {c0 q} e z => by
      rw [z, hP] at e
      exact codeO_ne ps (Option.some.inj e).symm
    refine h h'.objs.size c' _ ctv _ _ J ⟨kp, fun b e => ?_, fun _ _ => ⟨_, atP⟩⟩ (fun p hp => ?_) (Heap.get?_push_size _ rfl) ?_ (out _ hsz) upd_same czn
    · cases e1 : H b with
      | none => exact absurd e1 e
      | some o =>
        by_cases hb : b = P
        · rw [hb, atP]; simp
        · rw [kp b o e1 hb]; simp
    · obtain ⟨z0, ps', a1, a2, a3⟩ := hT p hp
      by_cases hb : p.1 = P
      · refine ⟨z0, _, by rw [hb]; exact atP, ?_, fun p' cv hcv => ?_⟩
        · simpa using PySem.TriplesOk_snoc _ _ _ _ ht
        · have hcv : codeAmong p' (ps.toList ++ [rawInt pos.line, rawInt pos.col, .ref c']) = some cv := by simpa using hcv
          rcases among_app _ ht hcv with z | z
          · obtain ⟨c0, e1, e2, e3⟩ := ha p' cv z
            exact ⟨c0, e1, kp _ _ (by rw [hu p hp hb]; exact e2) (codeP e2), e3⟩
          · exact ⟨c', z, by rw [hu p hp hb]; exact upd_same, czn⟩
      · refine ⟨z0, ps', kp _ _ a1 hb, a2, fun p' cv hcv => ?_⟩
        obtain ⟨c0, e1, e2, e3⟩ := a3 p' cv hcv
        exact ⟨c0, e1, kp _ _ e2 (codeP e2), e3⟩
    · have n1 : h'.objs.size ≠ c' := Nat.ne_of_gt hlt
      have n2 : h'.objs.size ≠ P := Nat.ne_of_gt (Nat.lt_of_lt_of_le (Heap.lt_size hP') hsz)
      rw [upd_ne n1, upd_ne n2]
      exact I.hok.fresh hsz
end
section
variable {G : Wd} {Z : Zone} {L : List Addr} {st : Sto} {H H1 : Hp} {P : Addr}
theorem Fw.tab {ps : Array Value} (hz : ¬ Zof Z L st P) (hP : H P = some (.tbl ps)) (t : TabTo P H H1) : Fw Z L st H L st H1 := by
  obtain ⟨ps', h1⟩ := t.tab ps hP
  refine ⟨⟨[], by simp, by simp⟩, fun a o e _ => ?_, t.there, fun a o z e => t.keep a o e fun y => hz (.inl (y ▸ z)), fun n o' _ e l => ⟨o', e, l⟩⟩
  by_cases ha : a = P
  · subst ha
    rw [hP] at e
    cases e
    exact ⟨_, h1, rfl⟩
  · exact .of (t.keep a o e ha)
theorem StOk.tab {ps : Array Value} (S : StOk G Z L st H) (hz : ¬ Zof Z L st P) (hP : H P = some (.tbl ps)) (t : TabTo P H H1) (tz : TabZ G.T (Zof Z L st) H1) : StOk G Z L st H1 := by
  have f := Fw.tab hz hP t
  refine ⟨S.len, S.nd, fun n a o e1 e2 => ?_, fun a z => t.there a (S.z0 a z), S.zl, fun a m => t.there a (S.lh a m), tz⟩
  refine OOk.zk (fun b hb => ?_) f (fun l => ⟨n, o, e1, e2, l⟩) (S.obj n a o e1 e2)
  obtain ⟨u, e⟩ : ∃ u, H b = some u := by
    obtain ⟨n, o', e1, _⟩ := hb
    exact Option.ne_none_iff_exists'.mp (S.lh b (List.mem_of_getElem? e1))
  rw [e]
  exact t.keep b u e fun y => hz (.inr (y ▸ hb))
end
end M
namespace M
open PySem PySem.Spec L2 PyProof.Rows
/-! ### xs.count(y), xs.index(y) -/
def cntB (f : PyData → Bool) : List PyData → Nat
  | [] => 0 | d :: r => (if f d = true then 1 else 0) + cntB f r
def rCountD (K : PySem.W.Frag) : V → List V → Hp → VK → Prop := fun x xs H Q => ∃ (a : Addr) (y : V) (d : PyData) (ds : List PyData), x = V.ref a ∧ xs = [y] ∧ Dp K H (V.ref a) (.list ds) ∧ Dp K H y d ∧ SeqAt.shaped (.list ds) = true ∧ SeqAt.shaped d = true ∧
  Q (.int (ds.countP fun z => PyData.eqv z d : Nat)) H
section
variable {G : Wd} {W : WX} {X : Cx}
theorem mt_countD (hu : X.A.units + 65 < cLine) : MtR X "list.count" (rCountD X.K) := by
  intro pins s σ H x xs v us Q I rx rxs h
  obtain ⟨a, y, d, ds, rfl, rfl, hl, hy, sl, sd, q⟩ := h
  cases rx
  cases rxs with
  | cons ry rt =>
    rename_i uy ut
    cases rt
    obtain ⟨bs, r1⟩ := Dp.reads I d y uy hy ry
    have hxs : PyData.canLayAll0 ds = true := SeqAt.canLay_of_shaped sl
    have hroom : X.A.units + 1 + min (PyData.depthAll ds) d.depth < cLine := room_in_shaped sd hu
    cases hl with
    | lst hs ha =>
      obtain ⟨its, rv, ⟨⟨cls, dd, data, sls⟩, n, ho, hc, hdn, hdt⟩, hlen⟩ := I.list hs
      simp only at hc hdt
      subst hc hdt
      obtain ⟨as, h4⟩ := Dp.readsAll I ds _ its ha rv
      have hmap : its.map (SeqAt.readOf s.heap) = ds := SeqAt.readsAll_map ds its as hxs h4
      refine call_meets PySem.F.slot_list_count ⟨_, ho, rfl⟩ PySem.F.entry_list_count (PySem.F.args_list_count_2 _ _)
        (SeqAt.list_countAt a its.toArray n dd sls uy fun u => PyData.eqv (SeqAt.readOf s.heap u) d) ⟨ho, SeqAt.items_eqAt (vs := its.toArray) (show ReadsAll s.heap its.toArray.toList ds as from h4) r1 hxs (SeqAt.canLay_of_shaped sd) hroom, ?_⟩
      refine ⟨.int (ds.countP fun z => PyData.eqv z d : Nat), H, I.tok _, ⟨s.toks, ?_⟩, q⟩
      show Value.int ((its.countP fun u => PyData.eqv (SeqAt.readOf s.heap u) d : Nat) : Int) s.toks = _
      rw [← hmap, List.countP_map]
      rfl
def dCount (c d : D) : Option D := match c with
  | .lst ds => if (D.flat 60 d && D.flats 59 ds) = true then some (.int (ds.countP fun z => D.eqv z d : Nat)) else none
  | _ => none
def dIndex (c d : D) : Option D := match c with
  | .lst ds => if (D.flat 60 d && D.flats 59 ds) = true then (ds.findIdx? fun z => D.eqv z d).map fun j => .int (j : Nat) else none
  | _ => none
/-- o.m(e), o a list -/
@[simp] def eLm (g : D → D → Option D) (f h : Den) : Den := fun ρ st => (f ρ st).bind fun d st => match d with
  | .lst ds => (h ρ st).bind fun e st2 => match g (.lst ds) e with | some z => .ok z st2 | none => .stuck
  | _ => .stuck
theorem me_lm {g : D → D → Option D} {r : V → List V → Hp → VK → Prop} {id : String} {name : Str} {o e : Expr} {f h : Den} {apos cpos : Pos} (slot : Slot "list" name id) (hty : typeOf (.builtin id) = pure (.type "method_descriptor")) (hm : MtR X id r)
    (sm : ∀ Z H ds e x y z Q, In Z H → Rep G Z H (.lst ds) x → Rep G Z H e y → g (.lst ds) e = some z → (∀ v, Rep G Z H z v → Q v H) → r x [y] H Q) (ho : ME G W X o f) (he : ME G W X e h)
    (hbase : attributeBase o name X.env (eval o X.env) = eval o X.env := by rfl)
    (hfew : ((backTo cpos (starEach [e] X.env)).all (fun x => !x.1) && (backToKw cpos (keywordEach [] X.env)).all (fun x => x.1.isSome)
      && decide (([e] : List Expr).length + ([] : List Keyword).length + (if ([] : List Keyword).isEmpty then 0 else 1) < 30)) = true := by rfl)
    (hline : (apos.endLine == cpos.line) = true := by rfl) (hs : starEach [e] X.env = (false, eval e X.env) :: starEach [] X.env := by rfl) (hplain : (backTo cpos (starEach [] X.env)).any (·.1) = false := by rfl) :
    ME G W X (.Call (.Attribute o name apos) [e] [] cpos) (eLm g f h) :=
  PE.imp (pe_bm PySem.F.plainAttrs_list slot hty hm ho (pa_cons he pa_nil hs) hbase hfew hline hs hplain) fun σ H Q q => by
    obtain ⟨Z, ρ, st, L, S, q⟩ := q
    refine ⟨Z, ρ, st, L, S, PostR.bind q fun d st1 x H1 L1 e1 f1 o1 r1 q1 => ?_⟩
    cases d with
    | lst ds =>
      refine ⟨?_, Z, ρ, st1, L1, S.to f1 o1, PostR.bind q1 fun d2 st2 y H2 L2 e2 f2 o2 r2 q2 => ?_⟩
      · cases r1 with
        | lst r z h => exact .inl ⟨rfl, _, .inl r⟩
      · have r1' := r1.mono f2.keeps
        split at q2
        · rename_i z ez
          exact sm _ _ _ _ _ _ z _ o2.inn r1' r2 ez fun v rv => q2 v H2 L2 Fw.refl o2 rv
        · exact q2.elim
    | _ => exact q1.elim
theorem sm_count (hK : G.K = X.K) : ∀ Z H ds e x y z Q, In Z H → Rep G Z H (.lst ds) x → Rep G Z H e y → dCount (.lst ds) e = some z → (∀ v, Rep G Z H z v → Q v H) → rCountD X.K x [y] H Q := by
  intro Z H ds e x y z Q hi rx ry ez q
  simp only [dCount] at ez
  split at ez
  · rename_i hf
    rw [Bool.and_eq_true] at hf
    have hl : D.flat 60 (.lst ds) = true := hf.2
    cases ez
    have d1 := hK ▸ rx.dp hl
    have d2 := hK ▸ ry.dp hf.1
    have e1 : D.py (.lst ds) = .list (D.pys ds) := by unfold D.py; rfl
    rw [e1] at d1
    obtain ⟨a, rfl⟩ : ∃ a, x = .ref a := by cases rx with | lst r z h => exact ⟨_, rfl⟩
    refine ⟨a, y, e.py, D.pys ds, rfl, rfl, d1, d2, by rw [← e1]; exact py_shaped hl, py_shaped hf.1, ?_⟩
    have hc : ∀ l : List D, (D.pys l).countP (fun z => PyData.eqv z e.py) = l.countP fun z => D.eqv z e := by
      intro l
      induction l with
      | nil => rfl
      | cons z l ih => unfold D.pys; rw [List.countP_cons, List.countP_cons, ih]; rfl
    rw [hc ds]
    exact q _ (.int _)
  · cases ez
theorem pys_get : ∀ (l : List D) (i : Nat), (D.pys l)[i]? = l[i]?.map D.py
  | [], i => by simp [D.pys]
  | x :: l, 0 => by simp [D.pys]
  | x :: l, i + 1 => by simp only [D.pys, List.getElem?_cons_succ]; exact pys_get l i
theorem sm_index (hK : G.K = X.K) : ∀ Z H ds e x y z Q, In Z H → Rep G Z H (.lst ds) x → Rep G Z H e y → dIndex (.lst ds) e = some z → (∀ v, Rep G Z H z v → Q v H) → rIndexD X.K x [y] H Q := by
  intro Z H ds e x y z Q hi rx ry ez q
  simp only [dIndex] at ez
  split at ez
  · rename_i hf
    rw [Bool.and_eq_true] at hf
    have hl : D.flat 60 (.lst ds) = true := hf.2
    obtain ⟨j, hj, rfl⟩ := Option.map_eq_some_iff.mp ez
    obtain ⟨hjl, h1, h2⟩ := List.findIdx?_eq_some_iff_getElem.mp hj
    have d1 := hK ▸ rx.dp hl
    have d2 := hK ▸ ry.dp hf.1
    have e1 : D.py (.lst ds) = .list (D.pys ds) := by unfold D.py; rfl
    rw [e1] at d1
    obtain ⟨a, rfl⟩ : ∃ a, x = .ref a := by cases rx with | lst r z h => exact ⟨_, rfl⟩
    refine ⟨a, y, e.py, D.pys ds, j, ds[j].py, rfl, rfl, d1, d2, by rw [← e1]; exact py_shaped hl, py_shaped hf.1, by rw [pys_get, List.getElem?_eq_getElem hjl]; rfl, h1, fun m z' hm hz => ?_, q _ (.int _)⟩
    rw [pys_get, List.getElem?_eq_getElem (by omega)] at hz
    cases hz
    have := h2 m hm
    simpa [D.eqv] using this
  · cases ez
end
end M
/-! ### a lambda with defaults is made -/
namespace PySem.W
open PySem PySem.Spec PySem.Calls PyProof.Rows
abbrev dla_fn (name qual : Str) (params : Arguments) (body : Expr) (scope : Scope) (cl : List (Str × Addr)) (dV pm cdv ct : Value) : FuncData :=
  { kla_fn name qual params body scope cl pm cdv ct with defaults := dV }
abbrev dla_obj (name qual : Str) (params : Arguments) (body : Expr) (scope : Scope) (clos : List (Str × Addr)) (dV pm : Value) (c' : Addr) (ctv : Value) : Obj :=
  { cls := .type "function", data := .func (dla_fn name qual params body scope clos dV pm (.ref c') ctv) }
section
variable {M : Model} {A : Around} {E : Value → Shared → Prop} {s : Shared} {name qual : Str} {params : Arguments} {body : Expr} {scope : Scope} {env : Env} {c P : Addr} {ps : Array Value} {pos : Pos} {firstLine : Nat} {mg : Str → Option Value}
  {clos : List (Str × Addr)} {dV : Value} {Q : Value → Shared → Prop}
theorem dla_tail (hcl : closureFor scope env = pure clos) (hge0 : env.globals = mainGlobals) (hg : s.heap.Ns mainGlobals mg) (hcode : env.code = .ref c) (C : CodeHd s.heap c P) (hP : s.heap.get? P = some { cls := .none, data := .fields ps }) (ht : TriplesOk ps.toList)
    (hnf : codeAmong pos ps.toList = none) (hgP : mainGlobals ≠ P) (hb : s.heap.BuiltinsAt mg P)
    (h : ∀ c' ctv h' tk, Heap.ExtBut P s.heap h' → s.heap.objs.size ≤ c' → c' < h'.objs.size → h'.CodeRec (.ref c') qual → h'.get? P = some { cls := .none, data := .fields (ps ++ #[rawInt pos.line, rawInt pos.col, .ref c']) } →
      Q (.ref h'.objs.size) { s with heap := h'.push (dla_obj name qual params body scope clos dV ((mg "__name__").getD .none) c' ctv), toks := tk }) :
    wpAny M A (makeTail name qual params (.expr body) scope env dV .none none pos firstLine) Q E s := by
  obtain ⟨bm, ob, hbm, hne0, _, hneP, hbo, hcls, hdict, hdata⟩ := hb
  unfold makeTail
  rw [hcl, hge0]
  refine wpAny_bind (wpAny_pure ?_)
  cases clos with
  | nil =>
    simp only [List.isEmpty_nil, if_true]
    refine wpAny_bind (wpAny_pure (wpAny_bind (wpAny_functionCodeX hcode (C.code hP ht) (C.tab hP) hnf fun c' h' tk hx hge hlt _ hrec htb _ => ?_)))
    have hg' := hg.extBut hx hgP
    exact wpAny_bind (wpAny_builtinsFor hg' hbm hne0 (hx _ _ hneP hbo) hcls hdict hdata (wpAny_bind (wpAny_nsGet hg' (wpAny_bind (wpAny_pure (wpAny_newObj_type (h c' .none h' tk hx hge hlt hrec htb.2) (by size_fits)))))))
  | cons q r =>
    simp only [List.isEmpty_cons, Bool.false_eq_true, if_false]
    refine wpAny_bind (wpAny_newTextTuple ?_)
    refine wpAny_bind (wpAny_functionCodeX hcode ((C.keeps fun b o e => Heap.get?_push_of_some _ e).code (Heap.get?_push_of_some _ hP) ht) ((C.keeps fun b o e => Heap.get?_push_of_some _ e).tab (Heap.get?_push_of_some _ hP)) hnf fun c' h' tk hx hge hlt _ hrec htb _ => ?_)
    have hg' := (hg.push _).extBut hx hgP
    have hx' : Heap.ExtBut P s.heap h' := fun b o hb' e => hx b o hb' (Heap.get?_push_of_some _ e)
    exact wpAny_bind (wpAny_builtinsFor hg' hbm hne0 (hx' _ _ hneP hbo) hcls hdict hdata (wpAny_bind (wpAny_nsGet hg' (wpAny_bind (wpAny_pure (wpAny_newObj_type (h c' _ h' tk hx' (Nat.le_trans (by rw [Heap.size_push]; omega) hge) hlt hrec htb.2) (by size_fits)))))))
theorem dla_tailHit {cv : Value} (hcl : closureFor scope env = pure clos) (hge0 : env.globals = mainGlobals) (hg : s.heap.Ns mainGlobals mg) (hcode : env.code = .ref c) (C : CodeHd s.heap c P) (hP : s.heap.get? P = some { cls := .none, data := .fields ps }) (ht : TriplesOk ps.toList)
    (hf : codeAmong pos ps.toList = some cv) (hb : s.heap.BuiltinsAt mg P)
    (h : ∀ (ctv : Value) (h' : Heap) (tk : Tok), (∀ b o, s.heap.get? b = some o → h'.get? b = some o) → s.heap.objs.size ≤ h'.objs.size →
      Q (.ref h'.objs.size) { s with heap := h'.push { cls := .type "function", data := .func (dla_fn name qual params body scope clos dV ((mg "__name__").getD .none) cv ctv) }, toks := tk }) :
    wpAny M A (makeTail name qual params (.expr body) scope env dV .none none pos firstLine) Q E s := by
  obtain ⟨bm, ob, hbm, hne0, _, hneP, hbo, hcls, hdict, hdata⟩ := hb
  unfold makeTail
  rw [hcl, hge0]
  refine wpAny_bind (wpAny_pure ?_)
  cases clos with
  | nil =>
    simp only [List.isEmpty_nil, if_true]
    refine wpAny_bind (wpAny_pure (wpAny_bind (wpAny_functionCode_hit hcode (C.code hP ht) hf ?_)))
    exact wpAny_bind (wpAny_builtinsFor hg hbm hne0 hbo hcls hdict hdata (wpAny_bind (wpAny_nsGet hg (wpAny_bind (wpAny_pure (wpAny_newObj_type (h .none s.heap s.toks (fun _ _ e => e) (Nat.le_refl _)) (by size_fits)))))))
  | cons q r =>
    simp only [List.isEmpty_cons, Bool.false_eq_true, if_false]
    refine wpAny_bind (wpAny_newTextTuple (wpAny_bind (wpAny_functionCode_hit hcode ((C.keeps fun b o e => Heap.get?_push_of_some _ e).code (Heap.get?_push_of_some _ hP) ht) hf ?_)))
    refine wpAny_bind (wpAny_builtinsFor (hg.push _) hbm hne0 (Heap.get?_push_of_some _ hbo) hcls hdict hdata (wpAny_bind (wpAny_nsGet (hg.push _) ?_)))
    exact wpAny_bind (wpAny_pure (wpAny_newObj_type (h _ _ s.toks (fun b o e => Heap.get?_push_of_some _ e) (by rw [Heap.size_push]; omega)) (by size_fits)))
/-- lambda x=e: .. -/
theorem dla_eval {x1 : Sem Value} (hdef : defaultsOf params env = ([x1], [])) (h : wpAny M A x1 (fun v s1 => wpAny M A (newTextTuple [v]) (fun dv s2 => wpAny M A (makeTail "<lambda>" (env.qual ++ "<lambda>") params (.expr body) scope env dv .none none pos pos.line) Q E s2) E s1) E s) :
    wpAny M A (eval (.Lambda params body scope pos) env) Q E s := by
  rw [arm_eval_Lambda, hdef]
  show wpAny M A (do let dv ← evalAll [x1]; let kdv ← holding dv (evalAllOpt []); makeFunction "<lambda>" (env.qual ++ "<lambda>") params (.expr body) scope env dv kdv [] pos pos.line) Q E s
  refine wpAny_bind ?_
  simp only [evalAll]
  refine wpAny_bind (wpAny_mono h (fun v s1 h1 => ?_) fun _ _ z => z)
  refine wpAny_bind (wpAny_holding (wpAny_pure (wpAny_pure ?_)))
  refine wpAny_bind (wpAny_holding (wpAny_pure ?_))
  rw [makeFunction_eq]
  simp only [List.zip_nil_right, List.filterMap_nil, List.isEmpty_nil, List.isEmpty_cons, Bool.false_eq_true, if_true, if_false, pure_bind]
  exact wpAny_bind h1
end
end PySem.W
namespace M
open PySem PySem.Spec L2 LamX PyProof.Rows
/-! ### lambdas with parameters, with defaults -/
theorem lookup_nodup {β : Type} : ∀ {l : List (Str × β)} {x : Str} {b : β}, (l.map (·.1)).Nodup → (x, b) ∈ l → l.lookup x = some b
  | (k, v) :: r, x, b, hn, hm => by
    rw [List.lookup_cons]
    rcases List.mem_cons.mp hm with e | e
    · cases e
      simp
    · have hk : x ≠ k := fun z => by
        have := (List.nodup_cons.mp (show (k :: r.map (·.1)).Nodup from hn)).1
        exact this (List.mem_map.mpr ⟨(x, b), e, z⟩)
      have : (x == k) = false := by simpa using hk
      rw [this]
      exact lookup_nodup (List.nodup_cons.mp (show (k :: r.map (·.1)).Nodup from hn)).2 e
theorem zip_fst_sub : ∀ (ps : List Str) (us : List Value), ((ps.zip us).map (·.1)).Sublist ps
  | [], _ => by simp
  | _ :: _, [] => by simp
  | p :: ps, u :: us => by
    rw [List.zip_cons_cons, List.map_cons]
    exact (zip_fst_sub ps us).cons₂ p
theorem lookup_zip_rev {ps : List Str} {us : List Value} {j : Nat} {y : Str} {u : Value} (hn : ps.Nodup) (hp : ps[j]? = some y) (hu : us[j]? = some u) : (ps.zip us).reverse.lookup y = some u := by
  refine lookup_nodup ?_ ?_
  · rw [List.map_reverse]
    refine List.pairwise_reverse.mpr ?_
    have h2 : ((ps.zip us).map (·.1)).Nodup := hn.sublist (zip_fst_sub ps us)
    exact h2.imp fun h => Ne.symm h
  · refine List.mem_reverse.mpr ?_
    refine List.mem_iff_getElem?.mpr ⟨j, ?_⟩
    rw [List.getElem?_zip_eq_some]
    exact ⟨hp, hu⟩
section
variable {X : Cx} {pins : List (Addr × Obj)} {σ : L2.St} {H HZ : Hp} {s s1 : Shared}
theorem lam_tail {dV : Value} {T : List (Addr × Str)} {c P : Addr} {Zz : Zone} {params : Arguments} {body : Expr} {scope : Scope} {pos : Pos} {E : Value → Shared → Prop} {Q : Value → Shared → Prop} (I : Inv X pins σ H s) (TB : TabB X.base X.mg c P) (hcode : X.env.code = .ref c)
    (hm : (P, X.env.qual ++ "<lambda>") ∈ T) (hu : ∀ p ∈ T, p.1 = P → p.2 = X.env.qual ++ "<lambda>") (hT : TabZ T Zz H) (hz : ∀ a, Zz a → H a ≠ none) (hfree : ∀ y ∈ scope.names, y.2 = .free → ∃ c, X.env.cells.lookup y.1 = some c)
    (h : ∀ (f c' : Addr) (pm ctv : Value) (H1 : Hp) (s' : Shared), Inv X pins σ H1 s' → TabTo P H H1 → TabZ T Zz H1 → (∀ b o, b ≠ P → s.heap.get? b = some o → s'.heap.get? b = some o) → (∀ b o, H b = none → s.heap.get? b = some o → H1 b = none) →
      s'.heap.get? f = some (PySem.W.dla_obj "<lambda>" (X.env.qual ++ "<lambda>") params body scope (cloFrom X.env.cells scope.names []) dV pm c' ctv) → H1 f = none → f ∉ frs X.stack → H1 c' = some (CodeO c' (X.env.qual ++ "<lambda>")) → ¬ Zz c' → Q (.ref f) s') :
    wpAny (model X.prog X.w) X.A (makeTail "<lambda>" (X.env.qual ++ "<lambda>") params (.expr body) scope X.env dV .none none pos pos.line) Q E s := by
  obtain ⟨hPz, ps, hP, ht, ha⟩ := hT _ hm
  have bP : s.heap.BuiltinsAt X.mg P := TB.bm.keeps I.bk
  have hP' : s.heap.get? P = some { cls := .none, data := .fields ps } := I.hok P _ hP
  have out : ∀ f, s.heap.objs.size ≤ f → f ∉ frs X.stack := fun f hf z => (List.mem_cons.mp (I.stkSub _ z)).elim (fun e => Nat.lt_irrefl _ (Nat.lt_of_lt_of_le (e ▸ I.lt) hf)) (I.nofs hf)
  cases hc : codeAmong pos ps.toList with
  | some cv =>
    obtain ⟨c', e, hco, hcz⟩ := ha pos cv hc
    subst e
    refine PySem.W.dla_tailHit (mg := X.mg) (c := c) (P := P) (ps := ps) (closure_ok hfree) I.ok.glob (I.mod.glob.keeps I.bk) hcode (TB.code.keeps I.bk) hP' ht hc bP fun ctv h' tk hx hsz => ?_
    exact h h'.objs.size c' _ ctv H _ (I.kept (t' := tk) fun b o e => Heap.get?_push_of_some _ (hx b o e)) .refl hT (fun b o _ e => Heap.get?_push_of_some _ (hx b o e)) (fun b o e _ => e) (Heap.get?_push_size _ rfl) (I.hok.fresh hsz) (out _ hsz) hco hcz
  | none =>
    refine PySem.W.dla_tail (mg := X.mg) (c := c) (P := P) (ps := ps) (closure_ok hfree) I.ok.glob (I.mod.glob.keeps I.bk) hcode (TB.code.keeps I.bk) hP' ht hc TB.gP bP fun c' ctv h' tk hx hge hlt hrec htb => ?_
    obtain ⟨c2, oc, vs, t, e2, hoc, hd, hv⟩ := hrec
    cases e2
    have nC : H c' = none := I.hok.fresh hge
    have hsz : s.heap.objs.size ≤ h'.objs.size := Nat.le_trans hge (Nat.le_of_lt hlt)
    have J := inv_table (t' := tk) (more := #[rawInt pos.line, rawInt pos.col, .ref c']) (h' := h'.push (PySem.W.dla_obj "<lambda>" (X.env.qual ++ "<lambda>") params body scope (cloFrom X.env.cells scope.names []) dV ((X.mg "__name__").getD .none) c' ctv)) I hP
      (fun b o hb e => Heap.get?_push_of_some _ (hx b o hb e)) (Heap.get?_push_of_some _ htb) hge ⟨oc, vs, t, Heap.get?_push_of_some _ hoc, hd, hv⟩
    have nPc : P ≠ c' := ne_of_none hP nC
    have kp : ∀ b o, H b = some o → b ≠ P → upd (upd H P (.tbl (ps ++ #[rawInt pos.line, rawInt pos.col, .ref c']))) c' (CodeO c' (X.env.qual ++ "<lambda>")) b = some o := fun b o e n => by rw [upd_ne (ne_of_none e nC), upd_ne n]; exact e
    have atP : upd (upd H P (.tbl (ps ++ #[rawInt pos.line, rawInt pos.col, .ref c']))) c' (CodeO c' (X.env.qual ++ "<lambda>")) P = some (.tbl (ps ++ #[rawInt pos.line, rawInt pos.col, .ref c'])) := by rw [upd_ne nPc, upd_same]
    have czn : ¬ Zz c' := fun z => hz c' z nC
    have codeP : ∀ {c0 : Addr} {q : Str}, H c0 = some (CodeO c0 q) → c0 ≠ P := fun {c0 q} e z => by
      rw [z, hP] at e
      exact codeO_ne ps (Option.some.inj e).symm
    refine h h'.objs.size c' _ ctv _ _ J ⟨kp, fun b e => ?_, fun _ _ => ⟨_, atP⟩⟩ (fun p hp => ?_) (fun b o hb e => Heap.get?_push_of_some _ (hx b o hb e)) (fun b o e1 e2 => ?_) (Heap.get?_push_size _ rfl) ?_ (out _ hsz) upd_same czn
    · cases e1 : H b with
      | none => exact absurd e1 e
      | some o =>
        by_cases hb : b = P
        · rw [hb, atP]; simp
        · rw [kp b o e1 hb]; simp
    · obtain ⟨z0, ps', a1, a2, a3⟩ := hT p hp
      by_cases hb : p.1 = P
      · refine ⟨z0, _, by rw [hb]; exact atP, ?_, fun p' cv hcv => ?_⟩
        · simpa using PySem.TriplesOk_snoc _ _ _ _ ht
        · have hcv : codeAmong p' (ps.toList ++ [rawInt pos.line, rawInt pos.col, .ref c']) = some cv := by simpa using hcv
          rcases among_app _ ht hcv with z | z
          · obtain ⟨c0, e1, e2, e3⟩ := ha p' cv z
            exact ⟨c0, e1, kp _ _ (by rw [hu p hp hb]; exact e2) (codeP e2), e3⟩
          · exact ⟨c', z, by rw [hu p hp hb]; exact upd_same, czn⟩
      · refine ⟨z0, ps', kp _ _ a1 hb, a2, fun p' cv hcv => ?_⟩
        obtain ⟨c0, e1, e2, e3⟩ := a3 p' cv hcv
        exact ⟨c0, e1, kp _ _ e2 (codeP e2), e3⟩
    · have n1 : b ≠ c' := fun z => by
        rw [z] at e2
        exact Nat.lt_irrefl _ (Nat.lt_of_lt_of_le (Heap.lt_size e2) hge)
      have n2 : b ≠ P := fun z => by
        rw [z, hP] at e1
        cases e1
      rw [upd_ne n1, upd_ne n2]
      exact e1
    · have n1 : h'.objs.size ≠ c' := Nat.ne_of_gt hlt
      have n2 : h'.objs.size ≠ P := Nat.ne_of_gt (Nat.lt_of_lt_of_le (Heap.lt_size hP') hsz)
      rw [upd_ne n1, upd_ne n2]
      exact I.hok.fresh hsz
/-- what the evaluation of a lambda gives: a function that, called with m arguments, binds ps to them and then to vs -/
def LamMk (X : Cx) (T : List (Addr × Str)) (P : Addr) (params : Arguments) (body : Expr) (scope : Scope) (lpos : Pos) (ps : List Str) (m : Nat) (vs : List V) : Prop :=
  ∀ (Zz : Zone) (pins : List (Addr × Obj)) (σ : L2.St) (H : Hp) (s : Shared) (E : Value → Shared → Prop) (Q : Value → Shared → Prop), Inv X pins σ H s → TabZ T Zz H → (∀ a, Zz a → H a ≠ none) →
    (∀ (f c' : Addr) (dV pm ctv : Value) (H1 : Hp) (s' : Shared), Inv X pins σ H1 s' → TabTo P H H1 → TabZ T Zz H1 →
      s'.heap.get? f = some (PySem.W.dla_obj "<lambda>" (X.env.qual ++ "<lambda>") params body scope (cloFrom X.env.cells scope.names []) dV pm c' ctv) → H1 f = none → f ∉ frs X.stack → H1 c' = some (CodeO c' (X.env.qual ++ "<lambda>")) → ¬ Zz c' →
      (∀ (H2 : Hp) (s2 : Shared), Un (frs X.stack) [] H1 H2 s'.heap s2.heap → ∃ us : List Value, Vals vs us ∧ ∀ us0 : List Value, us0.length = m → BindsTo s2 (PySem.W.dla_fn "<lambda>" (X.env.qual ++ "<lambda>") params body scope (cloFrom X.env.cells scope.names []) dV pm (.ref c') ctv) ⟨us0, []⟩ (ps.zip (us0 ++ us))) →
      Q (.ref f) s') →
    wpAny (model X.prog X.w) X.A (eval (.Lambda params body scope lpos) X.env) Q E s
theorem lamMk_plain {T : List (Addr × Str)} {c P : Addr} {params : Arguments} {body : Expr} {scope : Scope} {lpos : Pos} {ps : List Str} {m : Nat} (TB : TabB X.base X.mg c P) (hcode : X.env.code = .ref c)
    (hm : (P, X.env.qual ++ "<lambda>") ∈ T) (hu : ∀ p ∈ T, p.1 = P → p.2 = X.env.qual ++ "<lambda>") (hfree : X.Ok → ∀ y ∈ scope.names, y.2 = .free → ∃ c, X.env.cells.lookup y.1 = some c) (hdef : defaultsOf params X.env = ([], []))
    (hbind : ∀ (q : Str) (cl : List (Str × Addr)) (pm cv ctv : Value) (us : List Value), us.length = m → bindArgs (PySem.W.kla_fn "<lambda>" q params body scope cl pm cv ctv) ⟨us, []⟩ = pure (ps.zip us)) :
    LamMk X T P params body scope lpos ps m [] := by
  intro Zz pins σ H s E Q I hT hz h
  refine PySem.W.kla_eval hdef ?_
  rw [makeFunction_eq]
  simp only [List.zip_nil_right, List.filterMap_nil, List.isEmpty_nil, if_true, pure_bind]
  refine lam_tail (dV := .none) I TB hcode hm hu hT hz (hfree I.ok) fun f c' pm ctv H1 s' I1 tt T1 _ _ hf hfn hfr hco hcz => ?_
  exact h f c' .none pm ctv H1 s' I1 tt T1 hf hfn hfr hco hcz fun H2 s2 un => ⟨[], .nil, fun us0 hl => by rw [List.append_nil]; exact .of_eq (hbind _ _ _ _ _ us0 hl)⟩
theorem lamMk_int {n : Int} {jd : Nat} {dp : Pos} {x : Str} {T : List (Addr × Str)} {c P : Addr} {params : Arguments} {body : Expr} {scope : Scope} {lpos : Pos} (TB : TabB X.base X.mg c P) (hcode : X.env.code = .ref c)
    (hm : (P, X.env.qual ++ "<lambda>") ∈ T) (hu : ∀ p ∈ T, p.1 = P → p.2 = X.env.qual ++ "<lambda>") (hfree : X.Ok → ∀ y ∈ scope.names, y.2 = .free → ∃ c, X.env.cells.lookup y.1 = some c) (hdef : defaultsOf params X.env = ([eval (.Constant (.int n) jd dp) X.env], []))
    (hbind : ∀ (q : Str) (cl : List (Str × Addr)) (pm cv ctv dV : Value), ∃ k : Option (Array Value) → Sem (List (Str × Value)), bindArgs (PySem.W.dla_fn "<lambda>" q params body scope cl dV pm cv ctv) ⟨[], []⟩ = seqItems? dV >>= k ∧ ∀ u, k (some #[u]) = pure [(x, u)]) :
    LamMk X T P params body scope lpos [x] 0 [.int n] := by
  intro Zz pins σ H s E Q I hT hz h
  refine PySem.W.dla_eval hdef (thn ((pe_int (i := n) (j := jd) (pos := dp)).run pins s σ H (fun v H1 => v = .int n ∧ H1 = H) I ⟨rfl, rfl⟩) fun u s1 ⟨v, H1, I1, r1, q1⟩ => ?_)
  obtain ⟨rfl, rfl⟩ := q1
  refine wpAny_newTextTuple ?_
  have out : ∀ f, s1.heap.objs.size ≤ f → f ∉ frs X.stack := fun f hf z => (List.mem_cons.mp (I1.stkSub _ z)).elim (fun e => Nat.lt_irrefl _ (Nat.lt_of_lt_of_le (e ▸ I1.lt) hf)) (I1.nofs hf)
  have hne : s1.heap.objs.size ≠ P := fun z => by
    obtain ⟨_, ps, hP, _⟩ := hT _ hm
    have := I1.hok.fresh (Nat.le_refl s1.heap.objs.size)
    rw [z] at this
    rw [this] at hP
    cases hP
  have I2 := I1.kept (t' := s1.toks) (h' := s1.heap.push { cls := .type "tuple", data := .seq [u].toArray }) fun b o e => Heap.get?_push_of_some _ e
  refine lam_tail (dV := .ref s1.heap.objs.size) I2 TB hcode hm hu hT hz (hfree I.ok) fun f c' pm ctv H2 s' I3 tt T1 kp kn hf hfn hfr hco hcz => ?_
  have hd0 : (s1.heap.push { cls := .type "tuple", data := .seq [u].toArray }).get? s1.heap.objs.size = some { cls := .type "tuple", data := .seq [u].toArray } := Heap.get?_push_size _ rfl
  have hd1 : s'.heap.get? s1.heap.objs.size = some { cls := .type "tuple", data := .seq [u].toArray } := kp _ _ hne hd0
  have hn1 : H2 s1.heap.objs.size = none := kn _ _ (I1.hok.fresh (Nat.le_refl _)) hd0
  refine h f c' (.ref s1.heap.objs.size) pm ctv H2 s' I3 tt T1 hf hfn hfr hco hcz fun H3 s3 un => ⟨[u], .cons r1 .nil, fun us0 hl => ?_⟩
  have e0 : us0 = [] := List.length_eq_zero_iff.mp hl
  subst e0
  obtain ⟨k, k1, k2⟩ := hbind (X.env.qual ++ "<lambda>") (cloFrom X.env.cells scope.names []) pm (.ref c') ctv (.ref s1.heap.objs.size)
  exact .of_defaults rfl (un.keep _ _ hd1 hn1 (out _ (Nat.le_refl _)) (fun z => nomatch (show s1.heap.objs.size ∈ ([] : List Addr) from z))) rfl k1 (k2 u)
/-- parameters, captured names and globals -/
structure LamP (sc : Scope) (ps : List Str) (scope : Scope) : Prop where
  kind : scope.kind = .function
  co : scope.isCoroutine = false
  gen : scope.isGenerator = false
  own : ∀ y ∈ scope.names, y.2 ≠ .cell ∧ (y.2 = .local → y.1 ∈ ps)
  free : ∀ y ∈ scope.names, y.2 = .free → sc.names.lookup y.1 = some .cell ∨ sc.names.lookup y.1 = some .free
  par : ∀ n ∈ ps, scope.names.lookup n = some .local
  nd : ps.Nodup
  no : scope.names.lookup ("" : Str) = none
def lamPB (sc : Scope) (ps : List Str) (scope : Scope) : Bool :=
  decide (scope.kind = .function) && !scope.isCoroutine && !scope.isGenerator && (scope.names.all fun y => !decide (y.2 = .cell) && (!decide (y.2 = .local) || decide (y.1 ∈ ps)) && (!decide (y.2 = .free) || decide (sc.names.lookup y.1 = some .cell) || decide (sc.names.lookup y.1 = some .free)))
   && (ps.all fun n => decide (scope.names.lookup n = some .local)) && decide ps.Nodup && decide (scope.names.lookup ("" : Str) = none)
theorem lamP_by {sc scope : Scope} {ps : List Str} (h : lamPB sc ps scope = true) : LamP sc ps scope := by
  unfold lamPB at h
  simp only [Bool.and_eq_true, Bool.or_eq_true, Bool.not_eq_true', decide_eq_true_eq, decide_eq_false_iff_not, List.all_eq_true] at h
  obtain ⟨⟨⟨⟨⟨⟨h1, h2⟩, h3⟩, h4⟩, h5⟩, h6⟩, h7⟩ := h
  refine ⟨h1, h2, h3, fun y hy => ⟨(h4 y hy).1.1, fun e => ?_⟩, fun y hy e => ?_, h5, h6, h7⟩
  · rcases (h4 y hy).1.2 with z | z
    · exact absurd e z
    · exact z
  · rcases (h4 y hy).2 with (z | z) | z
    · exact absurd e z
    · exact .inl z
    · exact .inr z
theorem LamP.has {ps : List Str} {scope : Scope} (L : LamP X.env.scope ps scope) (ok : X.Ok) : ∀ y ∈ scope.names, y.2 = .free → ∃ c, X.env.cells.lookup y.1 = some c := fun y hy e => by
  rcases L.free y hy e with k | k
  · exact ok.has _ (.inl k)
  · exact ok.has _ (.inr k)
abbrev hideN (ps N : List Str) : List Str := N.map (fun y => if y ∈ ps then ("" : Str) else y)
abbrev lamCxP (X : Cx) (A : Around) (outer : List PySem.Env) (s : Shared) (H : Hp) (E : XK) (scope : Scope) (NN : List Str) (f c' : Addr) : Cx := { lamCx X A outer s H E scope f c' with N := NN }
theorem lam_startP {A : Around} {outer : List PySem.Env} {E : XK} {scope : Scope} {ps NN : List Str} (hNN : NN = hideN ps X.N ++ ps) {us : List Value} {vs : List V} {f c' : Addr} {h₁ : Heap} {tk : Nat} (I : Inv X pins σ H s) (L : LamP X.env.scope ps scope) (e0 : Env0 X.prog X.w X.K X.mg X.base A outer s1 HZ) (hd : A.handled = none)
    (un : Un (frs X.stack) [] H HZ s.heap s1.heap) (hr : Vals vs us) (hl : vs.length = ps.length) (hns : h₁.Ns s1.heap.objs.size fun y => (ps.zip us).reverse.lookup y) (kp : ∀ b o, s1.heap.get? b = some o → h₁.get? b = some o) :
    Inv (lamCxP X A outer s1 HZ E scope NN f c') [] (σ ++ vs.map some) HZ { s1 with heap := h₁, toks := tk } := by
  have hfree := L.has I.ok
  have cm : ∀ {y c}, (cloFrom X.env.cells scope.names []).lookup y = some c → X.env.cells.lookup y = some c := fun {y c} e => by
    rcases cloFrom_mem (PySem.mem_of_lookup e) with hm | ⟨h1, h2⟩
    · cases hm
    · obtain ⟨c1, hc⟩ := hfree _ h1 rfl
      have hc : X.env.cells.lookup y = some c1 := hc
      have e2 : c = c1 := by
        rw [h2, hc] <;> rfl
      rw [e2]
      exact hc
  have look : ∀ {y}, scope.names.lookup y = some .free → ∃ c, (cloFrom X.env.cells scope.names []).lookup y = some c := fun {y} hl => by
    have hy : (y, NameKind.free) ∈ scope.names := PySem.mem_of_lookup hl
    exact mem_lookup (cloFrom_has (cells := X.env.cells) (acc := []) hy)
  have cellK : ∀ {c : Addr} {v : Option Value}, H c = none → s.heap.IsCell c v → h₁.IsCell c v := fun {c v} n ⟨o, ho, hd⟩ => by
    obtain ⟨sl, q⟩ := un.any ho n (by simp)
    exact ⟨_, kp _ _ q, hd⟩
  have noA : ∀ b : Addr, b ∉ (lamCxP X A outer s1 HZ E scope NN f c').ex := fun b z => absurd (show b ∈ ([] : List Addr) from z) (by simp)
  refine ⟨⟨e0.mod, L.kind, rfl, rfl, Nat.le_refl _, fun y z c e1 e2 => I.ok.inj y z c (cm e1) (cm e2), fun y hy => ?_, fun y c z _ => ?_, fun _ => hd, Around.frames_deeper e0.frames, .inr ⟨rfl, rfl⟩, fun b z => absurd z (noA b), e0.bs, e0.bsz, fun b _ _ => noA b,
      fun b z => absurd z (noA b), e0.funs, e0.frf⟩,
    rfl, e0.bare, Un.kept kp, ⟨_, hns, fun i y v e1 e2 e3 => ?_⟩, fun y c e => ?_, e0.hok.fresh (Nat.le_refl _), fun y c e => ?_, fun q hq => absurd (show q ∈ ([] : List (Addr × Obj)) ++ [] from hq) (by simp), e0.hok.kept kp, ?_⟩
  · have hy : scope.names.lookup y = some .cell ∨ scope.names.lookup y = some .free := hy
    rcases hy with hy | hy
    · exact absurd rfl (L.own _ (PySem.mem_of_lookup hy)).1
    · exact look hy
  · have z : false = true := z
    cases z
  · have e3 : Vis scope y := e3
    have e1 : NN[i]? = some y := e1
    rw [hNN] at e1
    by_cases hi : i < X.N.length
    · rw [List.getElem?_append_left (by simpa using hi), List.getElem?_map] at e1
      rw [List.getElem?_append_left (by rw [I.len]; exact hi)] at e2
      cases eN : X.N[i]? with
      | none => rw [eN] at e1; cases e1
      | some y0 =>
        rw [eN] at e1
        have e1 : (if y0 ∈ ps then ("" : Str) else y0) = y := Option.some.inj e1
        by_cases hy0 : y0 ∈ ps
        · rw [if_pos hy0] at e1
          subst e1
          unfold Vis at e3
          rw [L.no] at e3
          rcases e3 with z | z | z <;> cases z
        · rw [if_neg hy0] at e1
          subst e1
          rcases e3 with k | k | k
          · exact absurd ((L.own _ (PySem.mem_of_lookup k)).2 rfl) hy0
          · exact absurd rfl (L.own _ (PySem.mem_of_lookup k)).1
          · obtain ⟨m, hn, hl⟩ := I.loc
            have hvis : Vis X.env.scope y0 := (L.free _ (PySem.mem_of_lookup k) rfl).elim (fun k => .inr (.inl k)) (fun k => .inr (.inr k))
            obtain ⟨w', r, q⟩ := hl i y0 v eN e2 hvis
            obtain ⟨c2, h2⟩ := look k
            refine ⟨w', r, .inr ⟨.inr k, c2, h2, ?_⟩⟩
            have c1 := cm h2
            rcases q with ⟨k', _⟩ | ⟨_, c3, e', z⟩
            · have k' : X.env.scope.names.lookup y0 = some .local := k'
              rcases L.free _ (PySem.mem_of_lookup k) rfl with k2 | k2 <;> rw [show X.env.scope.names.lookup y0 = _ from k2] at k' <;> cases k'
            · rw [c1] at e'
              cases e'
              exact cellK (I.freeC y0 _ c1) z
    · have hlN : (hideN ps X.N).length = X.N.length := by simp
      rw [List.getElem?_append_right (by rw [hlN]; omega), hlN] at e1
      rw [List.getElem?_append_right (by rw [I.len]; omega), I.len, List.getElem?_map] at e2
      cases ev : vs[i - X.N.length]? with
      | none => rw [ev] at e2; cases e2
      | some v0 =>
        rw [ev] at e2
        cases e2
        obtain ⟨u, hu, rv⟩ := hr.get ev
        exact ⟨u, rv, .inl ⟨L.par _ (List.mem_of_getElem? e1), lookup_zip_rev L.nd e1 hu⟩⟩
  · obtain ⟨w', z⟩ := I.cell y c (cm e)
    exact ⟨w', cellK (I.freeC y c (cm e)) z⟩
  · obtain ⟨v, o, ho, hd⟩ := I.cell y c (cm e)
    exact un.free c o ho (I.freeC y c (cm e)) (by simp)
  · show (σ ++ vs.map some).length = NN.length
    rw [hNN]
    simp [I.len, hl]
/-- the context of its body; what it lets out is L2N's -/
abbrev lamNP (X : Cx) (A : Around) (outer : List PySem.Env) (s : Shared) (H : Hp) (E : XK) (scope : Scope) (NN : List Str) (f c' : Addr) : Cx :=
  (lamCxP X A outer s H E scope NN f c').tr [] fun e s' => wpAny (model X.prog X.w) (A.deeper (lamEnv X scope s.heap.objs.size f c')) (leaving (lamEnv X scope s.heap.objs.size f c') e) (fun _ s'' => L2N.CX X.prog X.w outer H s E e s'') (fun e' s'' => L2N.CX X.prog X.w outer H s E e' s'') s'
/-- the function itself is called, by whom it be -/
theorem lam_code {A : Around} {outer : List PySem.Env} {f c' : Addr} {dV pm ctv : Value} {params : Arguments} {body : Expr} {scope : Scope} {ps NN : List Str} {us0 us : List Value} {vs0 vs : List V} {k : Nat} {E : XK} {Q : VK} {tb : TE} (hNN : NN = hideN ps X.N ++ ps)
    (I : Inv X pins σ H s) (L : LamP X.env.scope ps scope) (at1 : s1.heap.get? f = some (PySem.W.dla_obj "<lambda>" (X.env.qual ++ "<lambda>") params body scope (cloFrom X.env.cells scope.names []) dV pm c' ctv))
    (e0 : Env0 X.prog X.w X.K X.mg X.base A outer s1 HZ) (un : Un (frs X.stack) [] H HZ s.heap s1.heap) (hc : HZ c' = some (CodeO c' (X.env.qual ++ "<lambda>"))) (hr : Room (k + 1) A)
    (hb : BindsTo s1 (PySem.W.dla_fn "<lambda>" (X.env.qual ++ "<lambda>") params body scope (cloFrom X.env.cells scope.names []) dV pm (.ref c') ctv) ⟨us0, []⟩ (ps.zip (us0 ++ us)))
    (r0 : Vals vs0 us0) (r : Vals vs us) (hl : vs0.length + vs.length = ps.length)
    (hbody : Room k (A.deeper (lamEnv X scope s1.heap.objs.size f c')) → PE (lamNP X A outer s1 HZ E scope NN f c') body tb) (ht : tb (σ ++ (vs0 ++ vs).map some) HZ Q) :
    codeAny (model X.prog X.w) A (.call (.ref f) ⟨us0, []⟩) (CR (L2N.CX X.prog X.w) outer X.prog X.w HZ s1 Q E) s1 := by
  obtain ⟨⟨oc, ovs, t, hoc, hdc, hvc⟩, _, _⟩ := e0.hok c' _ hc
  refine PySem.W.kla_callFunE hr.depth at1 rfl L.co L.gen rfl ⟨c', oc, ovs, t, rfl, hoc, hdc, hvc⟩ ?_
  have lim : s1.heap.NoLimit := e0.mod.nolimit.keeps fun b o e => (e0.bs b o e).1
  refine hb _ _ _ _ (wpAny_newFunctionEnv (fun y hy => (L.own y hy).1) (fun y hy => L.par _ (List.of_mem_zip hy).1) (fun h₁ hns hsb => ⟨lim.fresh _ hsb, ?_⟩) L.kind)
  show codeAny _ _ (.expr body (lamEnv X scope s1.heap.objs.size f c')) _ _
  have kp : ∀ b o, s1.heap.get? b = some o → h₁.get? b = some o := fun b o e => hsb.extBut b o (Nat.ne_of_lt (Heap.lt_size e)) (Heap.get?_push_of_some _ e)
  have rr : Vals (vs0 ++ vs) (us0 ++ us) := by
    clear hb hns hl ht
    induction r0 with
    | nil => exact r
    | cons a b ih => exact .cons a ih
  have J := lam_startP (E := E) (f := f) (c' := c') (h₁ := h₁) (tk := s1.toks + (ps.zip (us0 ++ us)).length) hNN I L e0 hr.hd un rr (by rw [List.length_append]; exact hl) hns kp
  have J2 := J.toTry (fun e s' => wpAny (model X.prog X.w) (A.deeper (lamEnv X scope s1.heap.objs.size f c')) (leaving (lamEnv X scope s1.heap.objs.size f c') e) (fun _ s'' => L2N.CX X.prog X.w outer HZ s1 E e s'') (fun e' s'' => L2N.CX X.prog X.w outer HZ s1 E e' s'') s')
  refine PySem.W.kla_codeExpr (wpAny_mono ((hbody (hr.deeper _)).run [] _ _ HZ Q J2 ht) (fun v s' hq => ?_) fun e s' hq => hq)
  obtain ⟨w', H', J', rv, q⟩ := hq
  exact ⟨w', H', J'.os, J'.bare, J'.base, J'.hok, rv, q⟩
end
end M
namespace M
open PySem PySem.Spec L2 L2H LamX PyProof.Rows
section
variable {X : Cx} {pins : List (Addr × Obj)} {σ : L2.St} {H : Hp} {s : Shared}
/-- a() : what the def got is called without arguments -/
theorem pe_actP {CXg : CXT} {Eg : XK} {Ng : List Str} {qg : Str} {sg : Scope} {g f c' : Addr} {cdg dV pm ctv : Value} {params : Arguments} {body : Expr} {scope : Scope} {ps NN : List Str} {vs : List V} {k i : Nat} {a : Str} {pn : List (Addr × Obj)} {xe : Value → Shared → Prop} {W : WX} {E : XK} {tb : TE} {p1 p2 : Pos}
    (hNN : NN = hideN ps X.N ++ ps) (I : Inv X pins σ H s) (L : LamP X.env.scope ps scope) (hf : s.heap.get? f = some (PySem.W.dla_obj "<lambda>" (X.env.qual ++ "<lambda>") params body scope (cloFrom X.env.cells scope.names []) dV pm c' ctv)) (hfn : H f = none) (hfr : f ∉ frs X.stack)
    (hbind : ∀ (H2 : Hp) (s2 : Shared), Un (frs X.stack) [] H H2 s.heap s2.heap → ∃ us : List Value, Vals vs us ∧ ∀ us0 : List Value, us0.length = 0 → BindsTo s2 (PySem.W.dla_fn "<lambda>" (X.env.qual ++ "<lambda>") params body scope (cloFrom X.env.cells scope.names []) dV pm (.ref c') ctv) ⟨us0, []⟩ (ps.zip (us0 ++ us)))
    (hl : vs.length = ps.length) (tk : L2N.Takes ((cxOf CXg X.prog X.w X.K X.mg X.base Ng qg sg g cdg X.A X.stack s H Eg).tr pn xe) W) (hW : ∀ (cls : Value) (d : Option Addr) (σ' : L2.St) (H' : Hp), σ'.length = Ng.length → E cls d H' → W cls d σ' H') (hr : Room (k + 1) (X.A.deeper (envOfC qg sg s.heap.objs.size g cdg)))
    (hbody : ∀ (A : Around) (outer : List PySem.Env) (s : Shared) (H : Hp), Room k (A.deeper (lamEnv X scope s.heap.objs.size f c')) → PE (lamNP X A outer s H E scope NN f c') body tb)
    (hN : Ng[i]? = some a) (hv : Vis sg a) (hd : (a == ("__debug__" : Str)) = false := by decide) (hcd : (a == ("__classdict__" : Str)) = false := by decide) :
    PE ((cxOf CXg X.prog X.w X.K X.mg X.base Ng qg sg g cdg X.A X.stack s H Eg).tr pn xe) (.Call (.Name a p1) [] [] p2)
      (fun σZ HZ Q => σZ[i]? = some (some (.ref f)) ∧ HZ c' = some (CodeO c' (X.env.qual ++ "<lambda>")) ∧ tb (σ ++ vs.map some) HZ Q) := by
  refine ⟨fun pinsZ sZ σZ HZ Q IZ h => ?_⟩
  obtain ⟨hs, hc, ht⟩ := h
  refine wpAny_Call_Name_kw (thn ((pe_var (pos := p1) (i := i) hN hv hd hcd).run pinsZ sZ σZ HZ (fun v H1 => v = .ref f ∧ H1 = HZ) IZ ⟨.ref f, hs, rfl, rfl⟩) fun u s1 ⟨v, H1, I1, r1, q1⟩ => ?_)
  obtain ⟨ev, eH⟩ := q1
  subst ev
  rw [eH] at I1
  obtain rfl : u = Value.ref f := r1
  have un : Un (frs X.stack) [] H HZ s.heap s1.heap := I1.base
  have at1 : s1.heap.get? f = some (PySem.W.dla_obj "<lambda>" (X.env.qual ++ "<lambda>") params body scope (cloFrom X.env.cells scope.names []) dV pm c' ctv) := un.keep f _ hf hfn hfr (fun z => nomatch (show f ∈ ([] : List Addr) from z))
  refine PySem.W.callWith_F0 ⟨_, _, _, _, at1⟩ ?_
  obtain ⟨us, ru, hb⟩ := hbind HZ s1 un
  have rc : codeAny (model X.prog X.w) (X.A.deeper (envOfC qg sg s.heap.objs.size g cdg)) (.call (.ref f) ⟨[], []⟩) (CR (L2N.CX X.prog X.w) (envOfC qg sg s.heap.objs.size g cdg :: X.stack) X.prog X.w HZ s1 Q E) s1 :=
    lam_code (us0 := []) (us := us) (vs0 := []) (vs := vs) hNN I L at1 I1.env0 un hc hr (hb [] rfl) .nil ru (by simpa using hl) (hbody _ _ s1 HZ) ht
  have hx : Passes (L2N.CX X.prog X.w) ((cxOf CXg X.prog X.w X.K X.mg X.base Ng qg sg g cdg X.A X.stack s H Eg).tr pn xe) E := fun _ σ _ _ e s' I c => tk e s' (L2N.XE.of_call I (fun cls d H' h => hW cls d σ H' I.len h) c)
  refine wpAny_call (codeAny_mono rc fun r s' hq => ?_)
  cases r with
  | error e => exact hx pinsZ σZ HZ s1 e s' I1 hq
  | ok fl =>
    cases fl with
    | ret u => exact I1.after hq
    | next => exact False.elim hq
    | brk => exact False.elim hq
    | cont => exact False.elim hq
end
theorem pe_callHE {X : Cx} {p : Addr × Obj} {k : Nat} {f : Addr} {fd : FuncData} {ps : List Str} {sp : (Addr × Obj) → Sp} {x : Str} {q pos : Pos} {e : Expr} {es : List Expr} {t : TA} (F : FnHE X.prog X.w X.K X.mg X.base (L2N.CX X.prog X.w) k f fd ps sp) (hr : RoomH k X.A) (hot : Hot1 X.A p) (hp : p ∈ X.pn) (hm : X.mg x = some (.ref f)) (hk : PySem.W.keepIn X.K (.ref f) = true) (hb : Binds X.K fd ps [])
    (ha : PA X (e :: es) t) (hg : Gl X x) (hdb : (x == ("__debug__" : Str)) = false) (he : starEach (e :: es) X.env = (false, eval e X.env) :: starEach es X.env := by rfl) (hpl : (backTo pos (starEach es X.env)).any (·.1) = false := by rfl) :
    PE X (.Call (.Name x q) (e :: es) [] pos) (fun σ H Q => t σ H fun vs H1 => sp p vs H1 Q fun _ _ _ => False) := by
  refine ⟨fun pins s σ H Q I h => ?_⟩
  refine wpAny_Call_Name_kw (ld_glob I hg hm ?_ hdb)
  refine PySem.W.callWith_K (h₀ := X.base) I.ok.mod.kin hk (thn (ha.run pos pins s σ H _ I h) fun us s1 ⟨vs, H1, I1, r, q⟩ => ⟨I1.kIn, ?_⟩) he hpl
  have hl : us.length = ps.length := by rw [← r.length]; exact F.len _ _ _ _ _ q
  have b := hb s1 us I1.kIn (by rw [List.append_nil]; exact hl)
  rw [List.append_nil] at b
  have P1 := I1.pin p (List.mem_append_left _ hp)
  have hpin : PinOk X.stack H1 s1 p := ⟨P1.1, P1.2.1, fun hm => (List.mem_cons.mp (I1.stkSub p.1 hm)).elim P1.2.2.1 P1.2.2.2.1, P1.2.2.2.2⟩
  refine wpAny_call (codeAny_mono (F.run X.A X.stack s1 H1 ⟨us, []⟩ us vs Q (fun _ _ _ => False) p hr hot hpin I1.env0 b r q) fun r s' hq => ?_)
  cases r with
  | error e =>
    obtain ⟨_, _, _, _, _, _, _, _, _, _, _, _, z⟩ := (show L2N.CX X.prog X.w X.stack H1 s1 (fun _ _ _ => False) e s' from hq)
    exact z.elim
  | ok fl =>
    cases fl with
    | ret u => exact I1.after hq
    | next => exact False.elim hq
    | brk => exact False.elim hq
    | cont => exact False.elim hq
/-- x(lambda: ..), x: try: return (w, call()) / except C as e: return ref(e) -/
def plainE (ρ : Env) : Env := ρ.map fun s => match s with | some (.p d) => some (.p d) | _ => none
@[simp] def eTold (w : Str) (sub : Str → Option Bool) (ref : FD) (ds : List D) (fe : Den) : Den := fun ρ st => match fe (plainE ρ ++ ds.map fun d => some (.p d)) [] with
  | .ok d [] => .ok (.tup [.str w, d]) st
  | .exc c fs [] => (match sub c with
    | some true => (match ref [.x c fs] [] with | .ok d [] => .ok d st | _ => .stuck)
    | _ => .stuck)
  | _ => .stuck
theorem plainE_ok {G : Wd} {Z : Zone} {H : Hp} {L : List Addr} {st : Sto} {ρ : Env} {σ : L2.St} (E : EnvOk G (Zof Z L st) H L ρ σ) : EnvOk G (Zof (Zof Z L st) [] []) H [] (plainE ρ) σ := by
  refine ⟨by unfold plainE; rw [List.length_map]; exact E.1, fun i s e => ?_⟩
  unfold plainE at e
  rw [List.getElem?_map] at e
  cases er : ρ[i]? with
  | none => rw [er] at e; cases e
  | some o =>
    rw [er] at e
    cases o with
    | none => cases e
    | some u =>
      cases u with
      | p d =>
        cases e
        obtain ⟨v, ev, r⟩ := E.2 i _ er
        cases r with
        | p r => exact ⟨v, ev, .p (r.zone fun a z => zof_nil.mp z)⟩
      | r n => cases e
      | x c fs => cases e
abbrev toldS (w a ce ee rf : Str) (j kt : Nat) (q1 q2 q3 p1 p2 p4 p5 p6 p7 p8 p9 p10 : Pos) : Stmt :=
  .Try [.Return (some (.Tuple [.Constant (.str w) j q1, .Call (.Name a p1) [] [] p2] kt q2)) q3] [.ExceptHandler (some (.Name ce p4)) (some ee) [.Return (some (.Call (.Name rf p5) [.Name ee p6] [] p7)) p8] p9] [] [] p10
theorem envOk_app {G : Wd} {Z : Zone} {H : Hp} {L : List Addr} {ρ : Env} {σ : L2.St} {ds : List D} {vs : List V} (E : EnvOk G Z H L ρ σ) (r : Reps G Z H ds vs) : EnvOk G Z H L (ρ ++ ds.map fun d => some (.p d)) (σ ++ vs.map some) := by
  have hl := r.length
  refine ⟨by simp [E.1, hl], fun i s e => ?_⟩
  by_cases hi : i < ρ.length
  · rw [List.getElem?_append_left hi] at e
    rw [List.getElem?_append_left (by rw [← E.1]; exact hi)]
    exact E.2 i s e
  · rw [List.getElem?_append_right (by omega), List.getElem?_map] at e
    rw [List.getElem?_append_right (by rw [← E.1]; omega), List.getElem?_map, ← E.1]
    cases ed : ds[i - ρ.length]? with
    | none => rw [ed] at e; cases e
    | some d =>
      rw [ed] at e
      cases e
      obtain ⟨v, ev, rv⟩ := r.get ed
      exact ⟨v, by rw [ev]; rfl, .p rv⟩
section
variable {G : Wd} {W : WX} {X : Cx}
theorem me_told {x a w ce ee rf : Str} {j kt : Nat} {q1 q2 q3 p1 p2 p4 p5 p6 p7 p8 p9 p10 : Pos} {g P CE fr : Addr} {k : Nat} {pg : Arguments} {sg : Scope} {kV doc pm cdv ct oc dV : Value} {an od : Option Addr} {osl : Array (Option Value)} {fdr : FuncData} {psr : List Str}
    {params : Arguments} {body : Expr} {scope : Scope} {lps NN : List Str} {lvs : List V} {ds : List D} {fe : Den} {refd : FD} {sub : Str → Option Bool} {p lpos pos : Pos} (hm : X.mg x = some (.ref g)) (hk : PySem.W.keepIn X.K (.ref g) = true)
    (lk : X.K.lookup g = some ⟨oc, od, .func (PySem.W.fnOf x x pg [toldS w a ce ee rf j kt q1 q2 q3 p1 p2 p4 p5 p6 p7 p8 p9 p10] sg dV kV doc pm an cdv ct), osl⟩) (hcg : PySem.W.codeIn X.K cdv x = true)
    (hb : L2.Binds X.K (PySem.W.fnOf x x pg [toldS w a ce ee rf j kt q1 q2 q3 p1 p2 p4 p5 p6 p7 p8 p9 p10] sg dV kV doc pm an cdv ct) [a] []) (Sg : FnScope [a, ee] [a] sg) (hva : Vis sg a) (hee : sg.names.lookup ee = some .local)
    (hce : sg.names.lookup ce = some .globalImplicit) (hrf : sg.names.lookup rf = some .globalImplicit) (hmc : X.mg ce = some (.ref CE)) (hmr : X.mg rf = some (.ref fr)) (hkr : PySem.W.keepIn X.K (.ref fr) = true) (hbr : L2.Binds X.K fdr psr [])
    (F : FnHE X.prog X.w X.K X.mg X.base (L2N.CX X.prog X.w) k fr fdr psr (spMX G refd)) (hs : ∀ c C b, G.cls c = some C → sub c = some b → PySem.W.exmOne X.K (.ref C) (.ref CE) = some b)
    (hmk : LamMk X G.T P params body scope lpos lps 0 lvs) (hll : lvs.length = lps.length) (hds : ∀ (Z : Zone) (H : Hp), Reps G Z H ds lvs) (hmT : (P, X.env.qual ++ "<lambda>") ∈ G.T) (hr : Room (k + 3) X.A) (hNN : NN = hideN lps X.N ++ lps) (Ls : LamP X.env.scope lps scope)
    (hbody : ∀ (A : Around) (outer : List PySem.Env) (s : Shared) (H : Hp) (E : XK) (f c' : Addr), Room k (A.deeper (lamEnv X scope s.heap.objs.size f c')) → L2N.Takes (lamNP X A outer s H E scope NN f c') (WD E) → ME G (WD E) (lamNP X A outer s H E scope NN f c') body fe)
    (hg : Gl X x := by rfl) (hdb : (x == ("__debug__" : Str)) = false := by decide) (hd : (a == ("__debug__" : Str)) = false := by decide) (hcd : (a == ("__classdict__" : Str)) = false := by decide)
    (hde : (ee == ("__debug__" : Str)) = false := by decide) (hce2 : (ee == ("__classdict__" : Str)) = false := by decide) (hdc : (ce == ("__debug__" : Str)) = false := by decide) (hdr : (rf == ("__debug__" : Str)) = false := by decide) :
    ME G W X (.Call (.Name x p) [.Lambda params body scope lpos] [] pos) (eTold w sub refd ds fe) := by
  refine ⟨fun pins s σ H Q I q => ?_⟩
  obtain ⟨Z, ρ, st, L, S, q⟩ := q
  obtain ⟨hPz, ps, hP, _⟩ := S.ok.tb _ hmT
  refine wpAny_Call_Name_kw (ld_glob I hg hm ?_ hdb)
  refine PySem.W.callWith_K (h₀ := X.base) I.ok.mod.kin hk ?_ (by rfl) (by rfl)
  show wpAny _ _ (spliced ((false, eval (.Lambda params body scope lpos) X.env) :: backTo pos (starEach [] X.env))) _ _ s
  refine Calls.spliced_cons (hmk _ _ _ _ _ _ _ I S.ok.tb S.ok.inn fun f c' dV' pm' ctv H1 s' I1 tt T1 hf hfn hfr hco hcz hbd => ?_)
  refine Calls.spliced_nil ⟨I1.kIn, ?_⟩
  have f1 : Fw Z L st H L st H1 := Fw.tab hPz hP tt
  have o1 : StOk G Z L st H1 := S.ok.tab hPz hP tt T1
  have S1 : Stt G Z ρ st L σ H1 := S.to f1 o1
  have zz : ∀ a, Zof (Zof Z L st) [] [] a → Zof Z L st a := fun a z => zof_nil.mp z
  have SE : Stt G (Zof Z L st) (plainE ρ ++ ds.map fun d => some (.p d)) [] [] (σ ++ lvs.map some) H1 := ⟨o1.empty, envOk_app (plainE_ok S1.env) (hds _ _)⟩
  have rc : codeAny (model X.prog X.w) X.A (.call (.ref g) ⟨[.ref f], []⟩) (CR C8.CX0 X.stack X.prog X.w H1 s' Q C8.E0) s' := by
    refine run_ofS (k := k + 2) (N := [a, ee]) (ps := [a]) (us := [.ref f]) (vs := [.ref f]) lk hcg Sg (hr.mono (by omega)) I1.env0 (hb s' [.ref f] I1.kIn rfl) (.cons rfl .nil) rfl fun hr' => ?_
    refine ⟨_, (pss_one (L2N.ps_try_as (X := (cxOf C8.CX0 X.prog X.w X.K X.mg X.base [a, ee] x sg g cdv X.A X.stack s' H1 C8.E0).nox) (i := 1) (c := .ref CE) (Wout := fun _ _ _ _ => False)
      (tb := fun W En σ' H' => ∃ Ech : XK, (∀ (cls : Value) (d : Option Addr) (σ2 : L2.St) (H2 : Hp), σ2.length = ([a, ee] : List Str).length → Ech cls d H2 → W cls d σ2 H2) ∧ σ'[0]? = some (some (.ref f)) ∧ H' c' = some (CodeO c' (X.env.qual ++ "<lambda>")) ∧ tM G (WD Ech) fe (σ ++ lvs.map some) H' fun v H2 => ([V.str w, v] : List V).length ≤ sizeLine ∧ ∀ q, H2 q = none → En.rt (.ref q) (upd H2 q (.tup [.str w, v])))
      (ts := fun a' cls d En σ' H' => σ'[1]? = some (some (.ref a')) ∧ ∃ (C : Addr) (c0 : Str) (fs : List (Str × M.D)) (vfs : List (Str × V)), cls = .ref C ∧ G.cls c0 = some C ∧ (∀ b, Zof Z L st b → H' b ≠ none) ∧ TabZ G.T (Zof Z L st) H' ∧
        XdAt (Zof Z L st) H' d vfs ∧ RepF G (Zof Z L st) H' fs vfs ∧ match refd [.x c0 fs] [] with
          | .ok dd [] => ∀ v H2, Fw (Zof Z L st) [] [] H' [] [] H2 → TabZ G.T (Zof Z L st) H2 → Rep G (Zof Z L st) H2 dd v → En.rt v H2
          | _ => False)
      rfl rfl Sg.nd rfl hee ⟨hce, hdc, .inl hmc⟩ takes0N (fun W pn xe tk _ => ?_) (fun a' oe cls d pn hz hfd => ?_))).nox, ?_⟩
    · refine ⟨fun pins s2 σ2 H2 En I2 h => ?_⟩
      obtain ⟨Ech, hW, h1, h2, h3⟩ := h
      have act := pe_actP (CXg := C8.CX0) (Eg := C8.E0) (i := 0) (E := Ech) (tb := tM G (WD Ech) fe) (k := k + 1) (p1 := p1) (p2 := p2) hNN I1 Ls hf hfn hfr hbd hll tk hW hr' (fun A outer s H hr2 => hbody A outer s H Ech f c' (hr2.mono (by omega)) (L2N.takes_of rfl rfl rfl rfl)) rfl hva hd hcd
      have hq := pss_one (ps_ret (pos := q3) (pe_tup (x1 := kt) (pos := q2) (pa_cons (pe_str (x := w) (j := j) (pos := q1)) (pa_cons act pa_nil rfl) rfl)))
      exact hq.run pins s2 σ2 H2 En I2 ⟨h1, h2, h3⟩
    · refine pss_one (PS.imp (ps_ret (pe_callHE (p := (a', oe)) F (by exact ⟨(hr'.mono (Nat.le_add_right k 2)).dp, (hr'.mono (Nat.le_add_right k 2)).un⟩) ⟨rfl, ?_⟩ List.mem_cons_self hmr hkr hbr (pa_cons (pe_var (i := 1) rfl (.inl hee) hde hce2) pa_nil rfl) hrf hdr rfl rfl)) fun En σ' H' h => ?_)
      · obtain ⟨vs, hv⟩ := hfd
        exact ⟨vs, hv, hz.2.2 vs hv⟩
      · obtain ⟨h1, C, c0, fs, vfs, e1, e2, e3, e4, e5, e6, e7⟩ := h
        obtain ⟨vs, hv⟩ := hfd
        refine ⟨_, h1, C, c0, fs, vfs, Zof Z L st, vs, rfl, hz.1.trans e1, hv, e2, e3, e4, ?_, e6, e7⟩
        show XdAt (Zof Z L st) H' oe.dict vfs
        rw [hz.2.1]
        exact e5
    · refine ⟨fun cls d H2 => ∃ (C : Addr) (c0 : Str) (fs : List (Str × M.D)) (vfs : List (Str × V)), cls = .ref C ∧ G.cls c0 = some C ∧ Fw (Zof Z L st) [] [] H1 [] [] H2 ∧ StOk G (Zof Z L st) [] [] H2 ∧ XdAt (Zof Z L st) H2 d vfs ∧ RepF G (Zof Z L st) H2 fs vfs ∧ fe (plainE ρ ++ ds.map fun d => some (.p d)) [] = .exc c0 fs [], ?_, rfl, hco, ?_⟩
      · rintro cls d σ2 H2 hlen ⟨C, c0, fs, vfs, rfl, e2, e3, e4, e5, e6, e7⟩
        simp only [eTold, e7] at q
        cases hsub : sub c0 with
        | none => rw [hsub] at q; exact q.elim
        | some b =>
          cases b with
          | false => rw [hsub] at q; exact q.elim
          | true =>
            rw [hsub] at q
            refine ⟨true, hs _ _ _ e2 hsub, fun _ a' ha' => ⟨?_, C, c0, fs, vfs, rfl, e2, e4.z0, e4.tb.zone fun a z => zof_nil.mpr z, e5, e6, ?_⟩, fun h => by cases h⟩
            · exact List.getElem?_set_self (by rw [hlen]; show 1 < 2; omega)
            · revert q
              dsimp only
              cases refd [.x c0 fs] [] with
              | stuck => exact fun q => q.elim
              | exc _ _ _ => exact fun q => q.elim
              | ok dd st2 =>
                cases st2 with
                | cons _ _ => exact fun q => q.elim
                | nil =>
                  intro q v H3 f3 t3 r3
                  have f13 := e3.trans f3
                  exact q v H3 L (f1.trans (Fw.fromEmpty o1 f13)) (o1.fromEmpty f13 (t3.zone zz)) r3
      · refine ⟨Zof Z L st, plainE ρ ++ ds.map (fun d => some (.p d)), [], [], SE, ?_⟩
        cases hfe : fe (plainE ρ ++ ds.map fun d => some (.p d)) [] with
        | stuck => simp only [eTold, hfe] at q; exact q
        | ok d st2 =>
          simp only [eTold, hfe] at q
          cases st2 with
          | cons _ _ => exact q.elim
          | nil =>
            intro v H2 L2 f2 o2 r2
            have := nil_of_len o2
            subst this
            refine ⟨by show 2 ≤ sizeLine; rw [sizeLine_eq]; omega, fun q0 hq0 => ?_⟩
            have g1 := f1.trans (Fw.fromEmpty o1 f2)
            have o3 := o1.fromEmpty f2 o2.tb
            have sm := same_new (o := .tup [.str w, v]) hq0
            have g2 : Fw Z L st H2 L st (upd H2 q0 (.tup [.str w, v])) := Fw.same sm
            exact q (.ref q0) _ L (g1.trans g2) (o3.same sm) (.tup (.inl upd_same) (o3.fresh_out hq0) (.cons (.str w) (.cons ((r2.zone fun a z => zof_nil.mpr z).mono g2.keeps) .nil)))
        | exc c0 fs st2 =>
          simp only [eTold, hfe] at q
          cases st2 with
          | cons _ _ => exact q.elim
          | nil =>
            intro H2 L2 C dd vfs f2 o2 hC hx hr
            have := nil_of_len o2
            subst this
            exact ⟨C, c0, fs, vfs, rfl, hC, f2, o2, hx.zone fun a z => zof_nil.mpr z, hr.mono fun a o e z => ⟨.of e, fun q => z (zof_nil.mpr q)⟩, rfl⟩
  refine wpAny_call (codeAny_mono rc fun r s2 hq => ?_)
  cases r with
  | error e => exact (show False from hq).elim
  | ok fl =>
    cases fl with
    | ret u => exact I1.after hq
    | next => exact False.elim hq
    | brk => exact False.elim hq
    | cont => exact False.elim hq
end
end M
namespace M
open PySem PySem.Spec L2 LamX PyProof.Rows
/-! ### defs that ask for repr: nothing is under way around them -/
structure FnG (P : Program) (w : World) (K : PySem.W.Frag) (mg : Str → Option Value) (base : Heap) (k : Nat) (f : Addr) (fd : FuncData) (ps : List Str) (sp : Sp) : Prop where
  len : ∀ vs H Q E, sp vs H Q E → vs.length = ps.length
  run : ∀ (A : Around) (outer : List PySem.Env) (s : Shared) (H : Hp) (args : Args) (us : List Value) (vs : List V) (Q : VK) (E : XK), Room k A → A.guards = some [] → Env0 P w K mg base A outer s H → BindsTo s fd args (ps.zip us) → Vals vs us → sp vs H Q E →
    codeAny (model P w) A (.call (.ref f) args) (CR (L2N.CX P w) outer P w H s Q E) s
structure MCalG (P : Program) (w : World) (K : PySem.W.Frag) (mg : Str → Option Value) (base : Heap) (G : Wd) (k : Nat) (x : Str) (n : Nat) (dn : FD) : Prop where
  ex : ∃ (f : Addr) (fd : FuncData) (ps : List Str), FnG P w K mg base k f fd ps (spM G n dn) ∧ mg x = some (.ref f) ∧ PySem.W.keepIn K (.ref f) = true ∧ Binds K fd ps []
section
variable {P : Program} {w : World} {K : PySem.W.Frag} {mg : Str → Option Value} {base : Heap} {G : Wd}
theorem FnG.mono {j k : Nat} {f : Addr} {fd : FuncData} {ps : List Str} {sp : Sp} (F : FnG P w K mg base j f fd ps sp) (h : j ≤ k) : FnG P w K mg base k f fd ps sp :=
  ⟨F.len, fun A outer s H args us vs Q E hr => F.run A outer s H args us vs Q E (hr.mono h)⟩
theorem fn_MG {x qual : Str} {s : Stmt} {f : Addr} {fd : FuncData} {N ps : List Str} {k n : Nat} {fb : SDen} (F : Fun K x qual s f fd) (S : FnScope N ps (defScope s)) (hn : ps.length = n) (hN : n ≤ N.length)
    (hbody : ∀ (cdv : Value) (A : Around) (outer : List PySem.Env) (sh : Shared) (H : Hp) (E : XK), Room k (A.deeper (PyProof.Rows.envOfC qual (defScope s) sh.heap.objs.size f cdv)) → (A.deeper (PyProof.Rows.envOfC qual (defScope s) sh.heap.objs.size f cdv)).guards = some [] →
      L2N.Takes (cxOf (L2N.CX P w) P w K mg base N qual (defScope s) f cdv A outer sh H E) (WD E) → PassesOwn (model P w) (A.deeper (PyProof.Rows.envOfC qual (defScope s) sh.heap.objs.size f cdv)) (PyProof.Rows.envOfC qual (defScope s) sh.heap.objs.size f cdv) (cxOf (L2N.CX P w) P w K mg base N qual (defScope s) f cdv A outer sh H E).xe →
      MSs G (WD E) (cxOf (L2N.CX P w) P w K mg base N qual (defScope s) f cdv A outer sh H E) (defBody s) fb) : FnG P w K mg base (k + 1) f fd ps (spM G n (dFn n N.length fb)) := by
  obtain ⟨oc, od, kV, doc, pm, an, cdv, ct, osl, rfl, lk, hcd⟩ := F.ex
  refine ⟨fun vs H Q E h => by rw [hn]; exact h.1, fun A outer sh H args us vs Q E hr hg e0 hb r hsp => ?_⟩
  exact run_ofS lk hcd S hr e0 hb r (by rw [hn]; exact hsp.1) fun hr' => ⟨_, hbody cdv A outer sh H E hr' hg (L2N.takes_of rfl rfl rfl rfl) (passes_of rfl), spM_body hN hsp⟩
theorem cal_MG {x : Str} {s : Stmt} {f : Addr} {fd : FuncData} {ps : List Str} {k n : Nat} {dn : FD} (F : Fun K x x s f fd) (h : FnG P w K mg base k f fd ps (spM G n dn)) (hm : mg x = some (.ref f)) (b : Binds K fd ps []) : MCalG P w K mg base G k x n dn := ⟨f, fd, ps, h, hm, F.kp, b⟩
end
section
variable {G : Wd} {W : WX} {X : Cx}
theorem pe_callG {k : Nat} {f : Addr} {fd : FuncData} {ps : List Str} {sp : Sp} {x : Str} {p pos : Pos} {e : Expr} {es : List Expr} {t : TA} {E : L2.St → XK} (F : FnG X.prog X.w X.K X.mg X.base k f fd ps sp) (hr : Room k X.A) (hgd : X.A.guards = some []) (hg : Gl X x) (hm : X.mg x = some (.ref f))
    (hk : PySem.W.keepIn X.K (.ref f) = true) (hb : Binds X.K fd ps []) (hx : ∀ σ, PassesAt (L2N.CX X.prog X.w) X σ (E σ)) (ha : PA X (e :: es) t) (hdb : (x == ("__debug__" : Str)) = false)
    (he : starEach (e :: es) X.env = (false, eval e X.env) :: starEach es X.env) (hpl : (backTo pos (starEach es X.env)).any (·.1) = false) : PE X (.Call (.Name x p) (e :: es) [] pos) (tCallS sp E t) := by
  refine ⟨fun pins s σ H Q I h => wpAny_Call_Name_kw (ld_glob I hg hm ?_ hdb)⟩
  refine PySem.W.callWith_K (h₀ := X.base) I.ok.mod.kin hk (thn (ha.run pos pins s σ H _ I h) fun us s1 hh => ?_) he hpl
  obtain ⟨vs, H1, I1, r, q⟩ := hh
  have b := hb s1 us I1.kIn (by rw [List.append_nil, ← r.length]; exact F.len _ _ _ _ q)
  rw [List.append_nil] at b
  refine ⟨I1.kIn, wpAny_call (codeAny_mono (F.run X.A X.stack s1 H1 ⟨us, []⟩ us vs Q (E σ) hr hgd I1.env0 b r q) fun r s' hq => ?_)⟩
  match r, hq with
  | .error e, hq => exact hx σ pins H1 s1 e s' I1 hq
  | .ok (.ret u), hq => exact I1.after hq
  | .ok .next, hq => exact False.elim hq
  | .ok .brk, hq => exact False.elim hq
  | .ok .cont, hq => exact False.elim hq
theorem me_callG {k : Nat} {x : Str} {n : Nat} {dn : FD} {p pos : Pos} {e : Expr} {es : List Expr} {f : DenL} (c : MCalG X.prog X.w X.K X.mg X.base G k x n dn) (hr : Room k X.A) (hgd : X.A.guards = some []) (tk : L2N.Takes X W) (ha : MA G W X (e :: es) f) (hg : Gl X x := by rfl)
    (hdb : (x == ("__debug__" : Str)) = false := by decide) (he : starEach (e :: es) X.env = (false, eval e X.env) :: starEach es X.env := by rfl) (hpl : (backTo pos (starEach es X.env)).any (·.1) = false := by rfl) :
    ME G W X (.Call (.Name x p) (e :: es) [] pos) (eCall n dn f) := by
  obtain ⟨fa, fd, ps, F, hm, kp, b⟩ := c.ex
  refine PE.imp (pe_callG (E := WE W) F hr hgd hg hm kp b (fun σ => L2N.passAt tk σ) ha hdb he hpl) fun σ H Q q => ?_
  obtain ⟨Z, ρ, st, L, S, q⟩ := q
  refine ⟨Z, ρ, st, L, S, PostR.bind q fun ds st1 vs H1 L1 ed f1 o1 r1 q1 => ?_⟩
  by_cases hn : ds.length = n
  · rw [if_pos hn] at q1
    exact me_call1 o1 r1 hn q1
  · rw [if_neg hn] at q1
    exact q1.elim
end
/-! ### repr of data -/
noncomputable def dRepr (d : D) : Option D := if (D.flat 60 d && d.py.showable) = true ∧ d.py.shown.length ≤ sizeLine then some (.str d.py.shown) else none
def dEqS : D → D → Option D
  | .str x, .str y => some (.bl (decide (x = y))) | _, _ => none
section
variable {G : Wd} {X : Cx}
def rReprD (K : PySem.W.Frag) : List V → Hp → VK → Prop := fun xs H Q => ∃ x d, xs = [x] ∧ Dp K H x d ∧ SeqAt.shaped d = true ∧ d.showable = true ∧ d.shown.length ≤ sizeLine ∧ Q (.str d.shown) H
theorem call_reprD (hgd : X.A.guards = some []) (hu : X.A.units + 65 < cLine) : CallR X (.builtin "repr") (rReprD X.K) := by
  intro pins s σ H xs us Q I r h
  obtain ⟨x, d, rfl, hx, hs, hw, hz, q⟩ := h
  obtain ⟨u, rfl, rx⟩ := vals1 r
  obtain ⟨as, rd⟩ := Dp.reads I d x u hx rx
  have hl : PyData.canLay0 d = true := SeqAt.canLay_of_shaped hs
  have hd : d.depth ≤ 64 := by
    unfold SeqAt.shaped at hs
    simp only [Bool.and_eq_true, decide_eq_true_eq] at hs
    exact hs.2
  cases rd with
  | none => exact PySem.P.repr_of_none ⟨.str _, H, I.tok _, ⟨_, rfl⟩, by simpa only [PyData.shown] using q⟩
  | bool b => exact PySem.P.repr_of_bool ⟨.str _, H, I.tok _, ⟨_, rfl⟩, by simpa only [PyData.shown] using q⟩
  | int i t => exact PySem.P.repr_of_int (by simpa [PyData.showable] using hw) ⟨.str _, H, I.tok _, ⟨_, rfl⟩, by simpa only [PyData.shown] using q⟩
  | str y t => exact PySem.P.repr_of_str ⟨.str _, H, I.tok _, ⟨_, rfl⟩, by simpa only [PyData.shown] using q⟩ (by simpa only [PyData.shown] using hz)
  | list e1 e2 e3 e4 =>
    exact repr_of_reads' (.list e1 e2 e3 e4) hw (PyData.noDict_hsm (PyData.hasDict_of_canLay _ hl)) hgd (by omega) (fun _ _ e => e) (fun h' u tk k => ⟨.str _, H, I.kept (t' := tk) k, ⟨_, rfl⟩, q⟩) hz
  | tuple e1 e2 e3 e4 =>
    exact repr_of_reads' (.tuple e1 e2 e3 e4) hw (PyData.noDict_hsm (PyData.hasDict_of_canLay _ hl)) hgd (by omega) (fun _ _ e => e) (fun h' u tk k => ⟨.str _, H, I.kept (t' := tk) k, ⟨_, rfl⟩, q⟩) hz
  | dict e1 e2 e3 e4 e5 => simp [PyData.canLay0] at hl
theorem sim_repr (hK : G.K = X.K) : SimC G dRepr (rReprD X.K) := fun Z H d x z Q i rx h q => by
  unfold dRepr at h
  split at h
  · rename_i hh
    obtain ⟨h1, h2⟩ := hh
    rw [Bool.and_eq_true] at h1
    cases h
    exact ⟨x, d.py, rfl, hK ▸ rx.dp h1.1, py_shaped h1.1, h1.2, h2, q _ H (Same.refl H) (.str _)⟩
  · cases h
theorem sim_eqS : Sim2 G dEqS rEq := fun Z H d e x y z Q i rx ry h q => by
  unfold dEqS at h
  split at h
  · cases h
    obtain rfl := rx.str'
    obtain rfl := ry.str'
    refine ⟨rfl, ?_⟩
    have := q (.bl _) H (Same.refl H) (.bl _)
    simpa using this
  · cases h
end
end M
namespace M
open PySem PySem.Spec L2 LamX PyProof.Rows
/-! ### the end of a law whose def asks for repr and makes lambdas -/
abbrev tab0 : Obj := { cls := .none, data := .fields #[] }
abbrev lst0 (vs : List Value) : Obj := { cls := .type "list", data := .seq vs.toArray }
/-- the heap at the law's call: the tables, and the script where it is no constant -/
noncomputable def hp0 (T : List Addr) (a : Addr) (own : Bool) (vs : List Value) (ns : List Int) : Hp := fun b =>
  if b ∈ T then some (.tbl #[]) else if b = a ∧ own = true then some (.frz (lst0 vs) (.lst (ns.map V.int))) else none
section
variable {P : Program} {w : World} {K : PySem.W.Frag} {mg mb : Str → Option Value} {k : Nat} {fa a : Addr} {cs : List (Addr × Addr)} {fd : FuncData} {x : Str} {sp : Sp} {s₁ : Shared} {vs : List Value} {ns : List Int} {T : List Addr} {own : Bool}
theorem hp0_T {b : Addr} (h : b ∈ T) : hp0 T a own vs ns b = some (.tbl #[]) := if_pos h
theorem hp0_cases (b : Addr) : (b ∈ T ∧ hp0 T a own vs ns b = some (.tbl #[])) ∨ (b ∉ T ∧ b = a ∧ own = true ∧ hp0 T a own vs ns b = some (.frz (lst0 vs) (.lst (ns.map V.int)))) ∨ (b ∉ T ∧ hp0 T a own vs ns b = none) := by
  by_cases h1 : b ∈ T
  · exact .inl ⟨h1, if_pos h1⟩
  · by_cases h2 : b = a ∧ own = true
    · exact .inr (.inl ⟨h1, h2.1, h2.2, (if_neg h1).trans (if_pos h2)⟩)
    · exact .inr (.inr ⟨h1, (if_neg h1).trans (if_neg h2)⟩)
/-- the promise of the law's def, at one heap -/
structure AtCall (P : Program) (w : World) (K : PySem.W.Frag) (mg : Str → Option Value) (k n : Nat) (x : Str) (fa : Addr) (h : Heap) : Prop where
  ex : ∃ (fd : FuncData) (cs : List (Addr × Addr)) (sp : Sp), (∀ p ∈ cs, h.get? p.2 = some tab0) ∧ (∀ p ∈ cs, K.lookup p.2 = none) ∧ (∀ p ∈ cs, PySem.W.CodeHd h p.1 p.2) ∧ (∀ (s : Shared) (u : Value), BindsTo s fd ⟨[u], []⟩ [(x, u)]) ∧
    (∀ (H : Hp) (a : Addr) (ns : List Int), ns.length ≤ n → (∀ z ∈ ns, Builtin.Int.intBits z ≤ 1048576) → (∀ p ∈ cs, H p.2 = some (.tbl #[])) → SqL K H a (ns.map V.int) → sp [.ref a] H (fun v _ => v = .bl true) fun _ _ _ => False) ∧
    ∀ base : Heap, K.In base → base.Ns mainGlobals mg → (∀ p ∈ cs, TabB base mg p.1 p.2) → FnG P w K mg base k fa fd [x] sp
theorem fin_key {H H' : Hp} {s' : Shared} (hT : ∀ b ∈ T, s₁.heap.get? b = some tab0) (hcT : ∀ b ∈ T, ∃ c, PySem.W.CodeHd s₁.heap c b) (ha : s₁.heap.get? a = some (lst0 vs)) (eH : H = hp0 T a own vs ns) (hok : HOk P w H s₁.heap) (un : Un (frs []) [] H H' s₁.heap s'.heap) (hok' : HOk P w H' s'.heap) : OldK s₁.heap s'.heap := by
  subst eH
  have far : ∀ b o, b ∉ T → s₁.heap.get? b = some o → s'.heap.get? b = some o := fun b o nb e => by
    rcases hp0_cases (T := T) (a := a) (own := own) (vs := vs) (ns := ns) b with ⟨h, _⟩ | ⟨_, _, _, z⟩ | ⟨_, z⟩
    · exact absurd h nb
    · have g1 : s₁.heap.get? b = some (lst0 vs) := (hok b _ z).1
      have g2 : s'.heap.get? b = some (lst0 vs) := (hok' b _ (un.frzs b _ _ z)).1
      rw [g1] at e
      cases e
      exact g2
    · exact un.keep b o e z (fun h => by cases h) (fun h => by cases h)
  have near : ∀ b ∈ T, ∃ more : Array Value, s'.heap.get? b = some { cls := .none, data := .fields more } := fun b hb => by
    obtain ⟨more, z⟩ := un.tbls b #[] (hp0_T hb)
    exact ⟨_, hok' b _ z⟩
  constructor
  · intro b o e
    by_cases hb : b ∈ T
    · obtain ⟨more, hm⟩ := near b hb
      obtain ⟨c, hc⟩ := hcT b hb
      rw [hT b hb] at e
      cases e
      exact .inr (.inl ⟨(hc.tab (hT b hb)).isCodeTable, rfl, #[], more, rfl, by rw [Array.empty_append]; exact hm⟩)
    · exact .inl (far b o hb e)
  · intro b o e
    by_cases hb : b ∈ T
    · obtain ⟨more, hm⟩ := near b hb
      exact ⟨_, hm⟩
    · exact ⟨o, far b o hb e⟩
theorem env_key (KX : K.In s₁.heap) (hns : s₁.heap.Ns mainGlobals mg) (hb : s₁.heap.Ns builtinsNs mb) (hbb : ∀ x : Str, x ≠ "__name__" → mb x = bootBuiltins x) (hlim : s₁.heap.NoLimit) (hg : s₁.gens = #[]) (hT : ∀ b ∈ T, s₁.heap.get? b = some tab0) (nT : ∀ b ∈ T, K.lookup b = none)
    (ha : s₁.heap.get? a = some (lst0 vs)) (ho : own = true → K.lookup a = none) (hok : HOk P w (hp0 T a own vs ns) s₁.heap) : Env0 P w K mg (hidT s₁.heap (hp0 T a own vs ns)) callerA [] s₁ (hp0 T a own vs ns) := by
  have away : ∀ {b : Addr} {o : Obj} {es : Array DictEntry} {ep : Nat}, s₁.heap.get? b = some o → o.data = .dict es ep → hp0 T a own vs ns b = none := fun {b o es ep} e d => by
    rcases hp0_cases (T := T) (a := a) (own := own) (vs := vs) (ns := ns) b with ⟨h, _⟩ | ⟨_, rfl, _, _⟩ | ⟨_, z⟩
    · rw [hT b h] at e
      cases e
      cases d
    · rw [ha] at e
      cases e
      cases d
    · exact z
  have ns2 : ∀ {b : Addr} {m : Str → Option Value}, s₁.heap.Ns b m → (hidT s₁.heap (hp0 T a own vs ns)).Ns b m := fun {b m} ⟨o, es, ep, e, d, r⟩ => ⟨o, es, ep, hidT_get e (away e d), d, r⟩
  have kin : K.In (hidT s₁.heap (hp0 T a own vs ns)) := fun b o e => hidT_get (KX b o e) (by
    rcases hp0_cases (T := T) (a := a) (own := own) (vs := vs) (ns := ns) b with ⟨h, _⟩ | ⟨_, rfl, h, _⟩ | ⟨_, z⟩
    · rw [nT b h] at e
      cases e
    · rw [ho h] at e
      cases e
    · exact z)
  have lm := hlim
  obtain ⟨mc, l1, l2⟩ := lm
  exact ⟨rfl, ⟨kin, ns2 hns, ⟨mb, ns2 hb, hbb⟩, ⟨mc, ns2 l1, l2⟩⟩, fun b o e => of_hidT e, Nat.le_of_eq (hidT_size _ _), trivial, fun b h => absurd (show b ∈ ([] : List Addr) from h) (by simp), hok, .of_eq hg⟩
theorem tab_key {p : Addr × Addr} (hns : s₁.heap.Ns mainGlobals mg) (hT : ∀ b ∈ T, s₁.heap.get? b = some tab0) (hp : p.2 ∈ T) (C : PySem.W.CodeHd s₁.heap p.1 p.2) (ha : s₁.heap.get? a = some (lst0 vs))
    (hbm : ∃ (bm : Addr) (ob : Obj), mg "__builtins__" = some (.ref bm) ∧ bm ≠ builtinsNs ∧ s₁.heap.get? bm = some ob ∧ ob.cls = .type "module" ∧ ob.dict = some builtinsNs ∧ ob.data = .plain) : TabB (hidT s₁.heap (hp0 T a own vs ns)) mg p.1 p.2 := by
  have away : ∀ {b : Addr} {o : Obj}, s₁.heap.get? b = some o → (∀ us n, o.data ≠ .seq us n) → o.data ≠ .fields #[] → hp0 T a own vs ns b = none := fun {b o} e d1 d2 => by
    rcases hp0_cases (T := T) (a := a) (own := own) (vs := vs) (ns := ns) b with ⟨h, _⟩ | ⟨_, rfl, _, _⟩ | ⟨_, z⟩
    · rw [hT b h] at e
      cases e
      exact absurd rfl d2
    · rw [ha] at e
      cases e
      exact absurd rfl (d1 _ _)
    · exact z
  obtain ⟨og, es, ep, eg, dg, _⟩ := hns
  have gP : mainGlobals ≠ p.2 := fun z => by
    rw [z, hT _ hp] at eg
    cases eg
    cases dg
  refine ⟨?_, ?_, gP⟩
  · obtain ⟨o, us, file, tf, flags, tg, inF, text, tt, e1, r1, r2, r3, more⟩ := C
    refine ⟨o, us, file, tf, flags, tg, inF, text, tt, hidT_get e1 (away e1 (fun us n z => ?_) fun z => ?_), r1, r2, r3, more⟩ <;> rw [r2] at z <;> cases z
    simp at r3
  · obtain ⟨bm, ob, b1, b2, b3, b4, b5, b6⟩ := hbm
    refine ⟨bm, ob, b1, b2, fun z => ?_, fun z => ?_, hidT_get b3 (away b3 (fun us n z => ?_) fun z => ?_), b4, b5, b6⟩
    · rw [z, eg] at b3
      cases b3
      rw [dg] at b6
      cases b6
    · rw [z, hT _ hp] at b3
      cases b3
      cases b6
    · rw [b6] at z
      cases z
    · rw [b6] at z
      cases z
theorem at_call {n : Nat} (KX : K.In s₁.heap) (hns : s₁.heap.Ns mainGlobals mg) (hb : s₁.heap.Ns builtinsNs mb) (hbb : ∀ x : Str, x ≠ "__name__" → mb x = bootBuiltins x) (hlim : s₁.heap.NoLimit) (hg : s₁.gens = #[])
    (hbm : ∃ (bm : Addr) (ob : Obj), mg "__builtins__" = some (.ref bm) ∧ bm ≠ builtinsNs ∧ s₁.heap.get? bm = some ob ∧ ob.cls = .type "module" ∧ ob.dict = some builtinsNs ∧ ob.data = .plain)
    (ha : s₁.heap.get? a = some (lst0 vs)) (hi : IntsAre vs ns) (hl : ns.length ≤ n) (hn : n ≤ sizeLine) (hbits : ∀ z ∈ ns, Builtin.Int.intBits z ≤ 1048576) (hr : Room k callerA) (F : AtCall P w K mg k n x fa s₁.heap) :
    codeAny (model P w) callerA (.call (.ref fa) ⟨[.ref a], []⟩) (fun r s' => r = .ok (.ret (.bool true)) ∧ OldK s₁.heap s'.heap ∧ s'.os = s₁.os ∧ AllBare s'.gens) s₁ := by
  obtain ⟨fd, cs, sp, f1, f2, f3, f4, f5, f6⟩ := F.ex
  have rv := vals_ints hi
  have lz : vs.length ≤ sizeLine := by rw [hi.length]; omega
  generalize hTT : cs.map (·.2) = TT
  have g1 : ∀ b ∈ TT, s₁.heap.get? b = some tab0 := fun b hb => by
    rw [← hTT] at hb
    obtain ⟨p, hp, rfl⟩ := List.mem_map.mp hb
    exact f1 p hp
  have g2 : ∀ b ∈ TT, K.lookup b = none := fun b hb => by
    rw [← hTT] at hb
    obtain ⟨p, hp, rfl⟩ := List.mem_map.mp hb
    exact f2 p hp
  have g3 : ∀ b ∈ TT, ∃ c, PySem.W.CodeHd s₁.heap c b := fun b hb => by
    rw [← hTT] at hb
    obtain ⟨p, hp, rfl⟩ := List.mem_map.mp hb
    exact ⟨_, f3 p hp⟩
  have g4 : ∀ p ∈ cs, p.2 ∈ TT := fun p hp => by rw [← hTT]; exact List.mem_map.mpr ⟨p, hp, rfl⟩
  have aT : a ∉ TT := fun z => by
    have e := g1 a z
    rw [ha] at e
    cases e
  obtain ⟨own, ho1, ho2⟩ : ∃ own : Bool, (own = true → K.lookup a = none) ∧ (own = false → ∃ o, K.lookup a = some o) := by
    cases h : K.lookup a with
    | none => exact ⟨true, fun _ => rfl, fun z => by cases z⟩
    | some o => exact ⟨false, fun z => by (cases z), fun _ => ⟨o, rfl⟩⟩
  have hok : HOk P w (hp0 TT a own vs ns) s₁.heap := fun b u z => by
    rcases hp0_cases (T := TT) (a := a) (own := own) (vs := vs) (ns := ns) b with ⟨h, z2⟩ | ⟨_, rfl, _, z2⟩ | ⟨_, z2⟩
    · rw [z2] at z
      cases z
      exact g1 b h
    · rw [z2] at z
      cases z
      exact ⟨ha, by rw [List.length_map, ← hi.length]; exact lz, vs, _, rv, ha⟩
    · rw [z2] at z
      cases z
  have hS : SqL K (hp0 TT a own vs ns) a (ns.map V.int) := by
    cases own with
    | true =>
      rcases hp0_cases (T := TT) (a := a) (own := true) (vs := vs) (ns := ns) a with ⟨h, _⟩ | ⟨_, _, _, z2⟩ | ⟨_, z2⟩
      · exact absurd h aT
      · exact .inl (.inr ⟨_, z2⟩)
      · exfalso
        unfold hp0 at z2
        rw [if_neg aT, if_pos ⟨rfl, rfl⟩] at z2
        cases z2
    | false =>
      obtain ⟨o, e⟩ := ho2 rfl
      have e2 := KX a o e
      rw [ha] at e2
      cases e2
      exact .inr ⟨_, vs.toArray, _, e, rfl, rfl, rfl, by rw [List.size_toArray]; exact lz, by simpa using rv⟩
  have e0 := env_key (mb := mb) KX hns hb hbb hlim hg g1 g2 ha ho1 hok
  refine codeAny_mono ((f6 _ e0.mod.kin e0.mod.glob fun p hp => tab_key hns g1 (g4 p hp) (f3 p hp) ha hbm).run callerA [] s₁ _ ⟨[.ref a], []⟩ [.ref a] [.ref a] _ _ hr rfl e0 (f4 s₁ (.ref a)) (.cons rfl .nil) (f5 _ a ns hl hbits (fun p hp => hp0_T (g4 p hp)) hS)) fun r s' h => ?_
  match r, h with
  | .error e, h =>
    obtain ⟨_, _, _, _, _, _, _, _, _, _, _, _, z⟩ := h
    exact z.elim
  | .ok .next, h => exact False.elim h
  | .ok .brk, h => exact False.elim h
  | .ok .cont, h => exact False.elim h
  | .ok (.ret u), h =>
    obtain ⟨v, H', os, bare, un, hok', ru, q⟩ := h
    have q : v = .bl true := q
    subst q
    obtain rfl : u = Value.bool true := ru
    exact ⟨rfl, fin_key g1 g3 ha rfl hok un hok', os, bare⟩
theorem walk_at {l : PySem.W.OpenLaw} {n k : Nat} {q : Program} {loose : List Str} {XP : (Str → Option Value) → Heap → Prop} {YP : World → Heap → Prop} {d : DefRec} {K : Params → PySem.W.Frag} {x : Str}
    (hn : l.most = some n) (hn2 : n ≤ sizeLine) (hdf : d.params.defaults = []) (hr : Room k callerA) (hY : ∀ (w : World) (h : Heap), YP w h → (K w.params).In h)
    (F : ∀ (w : World) (mg mb : Str → Option Value) (mean : ExcName → Option Value) (fa : Addr) (h : Heap), PyProof.Rows.Top q (PySem.W.looseW q loose) mean mg mb h → (K w.params).In h → mg d.name = some (.ref fa) → AtCall l.prog w (K w.params) mg k n x fa h) :
    PySem.W.WalkO q loose XP YP l.row.toRowW d [] (fun f vs => PySem.call f vs) :=
  Att.attach_callB hn hdf fun w s₀ s₁ mg mb fa o pm cd doc a vs ns G Y ho hd hcd hmg hobj hints hlen hbits hg =>
    at_call (hY w _ Y) G.T.g G.T.b G.T.builtins G.T.nolimit hg G.T.bmain hobj hints hlen hn2 hbits hr (F w mg mb _ fa _ G.T (hY w _ Y) hmg)
/-- a def's code object and its table -/
theorem tab_at {K : PySem.W.Frag} {q : Program} {loose : List Str} {mean : ExcName → Option Value} {mg mb : Str → Option Value} {h : Heap} {x : Str} {c P : Addr} (T : PyProof.Rows.Top q loose mean mg mb h) (X : K.In h) (hr : ((PyProof.Rows.recsOf q).find? (fun e => e.name == x)).isSome = true) (ht : PySem.W.tabIn K x = some (c, P)) :
    PySem.W.CodeHd h c P ∧ h.get? P = some tab0 := by
  obtain ⟨d, hd⟩ := Option.isSome_iff_exists.mp hr
  exact PySem.W.tab_of T X hd ht
theorem tab_out {K : PySem.W.Frag} {h : Heap} {P : Addr} (X : K.In h) (hT : h.get? P = some tab0) (nt : PySem.W.noTabs K = true) : K.lookup P = none := by
  cases e : K.lookup P with
  | none => rfl
  | some o =>
    have e2 := X _ _ e
    rw [hT] at e2
    cases e2
    have h2 := List.all_eq_true.mp nt (P, tab0) (PySem.W.mem_of_lookupK e)
    exact absurd (show false = true from h2) Bool.false_ne_true
end
end M
namespace M
open PySem PySem.Spec PyProof.Rows L2
/-! ### dicts written as displays, lists made by list(..) -/
section
variable {G : Wd} {W : WX} {X : Cx} {pos : Pos}
theorem me_dic0 : ME G W X (.Dict [] [] pos) (eC (.dic [])) := PE.imp pe_dnewK fun σ H Q q => by
  obtain ⟨Z, ρ, st, L, S, q⟩ := q
  intro p hp
  have sm := same_new (o := .dK []) hp
  exact q (.ref p) _ L (Fw.same sm) (S.ok.same sm) (.dK (.inl upd_same) (S.ok.fresh_out hp) .nil)
/-- {"x": i} -/
theorem me_dic1 {x : Str} {i : Int} {j1 j2 : Nat} {p1 p2 : Pos} : ME G W X (.Dict [some (.Constant (.str x) j1 p1)] [.Constant (.int i) j2 p2] pos) (eC (.dic [(.str x, .int i)])) :=
  PE.imp (pe_disp (pps_cons pe_str pe_int pps_nil) rfl rfl (by simp) (by simp)) fun σ H Q q => by
    obtain ⟨Z, ρ, st, L, S, q⟩ := q
    intro p hp
    have sm := same_new (o := .dK [(.inr x, .int i)]) hp
    have eu : upd (upd H p (.dK [])) p (.dK (mergeK [] [(.inr x, V.int i)])) = upd H p (.dK [(.inr x, .int i)]) := by
      funext b
      by_cases hb : b = p
      · rw [hb, upd_same, upd_same]
        rfl
      · rw [upd_ne hb, upd_ne hb, upd_ne hb]
    refine ⟨upd_same, [(.inr x, .int i)], rfl, by simp, ?_⟩
    rw [eu]
    exact q (.ref p) _ L (Fw.same sm) (S.ok.same sm) (.dK (.inl upd_same) (S.ok.fresh_out hp) (.str (.int i) .nil))
end
end M
namespace M
open PySem PySem.Spec PyProof.Rows L2
/-! ### a list of one's own made by list(..), by sorted(..) -/
def lstO : D → Option (List D)
  | .lst ds => some ds | .tup ds => some ds | _ => none
def srtO : D → Option (List D)
  | .lst ds => (dInts ds).map fun ns => (sortI ns).map .int | _ => none
@[simp] def nOf (g : D → Option (List D)) (f : Den) : M.Env → Sto → Res O := fun ρ st => (f ρ st).bind fun d st => match g d with | some ds => .ok (.lst ds) st | none => .stuck
section
variable {G : Wd} {W : WX} {X : Cx} {e : Expr} {p pos : Pos} {f : Den}
def SimO (G : Wd) (g : D → Option (List D)) (r : List V → Hp → VK → Prop) : Prop := ∀ Z H d x ds Q, In Z H → View G Z H d x → g d = some ds →
  (∀ q vs, H q = none → Reps G Z H ds vs → Q (.ref q) (upd H q (.lst vs))) → r [x] H Q
theorem mn_of {g : D → Option (List D)} {r : List V → Hp → VK → Prop} {e0 : Expr} (hc : ∀ {ta : TA}, PA X [e] ta → PE X e0 (tCB r ta)) (s : SimO G g r) (ha : MV G W X e f) (hs : starEach [e] X.env = (false, eval e X.env) :: starEach [] X.env := by rfl) :
    MN G W X e0 (nOf g f) := by
  refine PE.imp (hc (pa_cons ha pa_nil hs)) fun σ H Q q => ?_
  obtain ⟨Z, ρ, st, L, S, q⟩ := q
  refine ⟨Z, ρ, st, L, S, ?_⟩
  unfold nOf at q
  revert q
  cases f ρ st with
  | stuck => exact fun q => q
  | exc c fs s => exact fun q => q
  | ok d st1 =>
    intro q x H1 L1 f1 o1 r1
    have q : match (match g d with | some ds => .ok (.lst ds) st1 | none => .stuck : Res O) with
      | .ok o st' => ∀ p H' L', FwN G Z L st H L' st' H' p → OOk G (Zof (fun a => Z a ∨ a = p) L' st') H' L' p o → Q (.ref p) H'
      | .exc c fs st' => ExP G Z L st H c fs st' fun cv dd H' => W cv dd σ H'
      | .stuck => False := q
    cases eg : g d with
    | none => rw [eg] at q; exact q.elim
    | some ds =>
      rw [eg] at q
      exact s _ _ _ _ ds _ o1.inn r1 eg fun p vs hp rv => q p _ L1 (FwN.mk_new f1 o1 hp) ⟨vs, upd_same, rv.mono (keeps_new hp)⟩
theorem simo_list (hK : G.K = X.K) : SimO G lstO (fun xs H Q => ∃ p ys, xs = [.ref p] ∧ (SqL X.K H p ys ∨ SqT X.K H p ys) ∧ ∀ l, H l = none → Q (.ref l) (upd H l (.lst ys))) := fun Z H d x ds Q i rx h q => by
  unfold lstO at h
  split at h
  · cases h
    obtain ⟨a, vs, rfl, ha, ra⟩ := rx.list
    exact ⟨a, vs, rfl, .inl (.inl ha), fun l hl => q l vs hl ra⟩
  · cases h
    obtain ⟨a, vs, rfl, ha, ra⟩ := rx.tup
    exact ⟨a, vs, rfl, .inr (hK ▸ ha), fun l hl => q l vs hl ra⟩
  · cases h
theorem mn_list (hK : G.K = X.K) (hm : X.mg "list" = none) (ha : MV G W X e f) (hg : Gl X "list" := by rfl) (hs : starEach [e] X.env = (false, eval e X.env) :: starEach [] X.env := by rfl) (hpl : (backTo pos (starEach [] X.env)).any (·.1) = false := by rfl) : MN G W X (.Call (.Name "list" p) [e] [] pos) (nOf lstO f) :=
  mn_of (fun h => pe_callTy call_list_of hg hm (by decide +kernel) h (by decide) (by decide) hs hpl) (simo_list hK) ha hs
theorem simo_sorted : SimO G srtO (rSortedI X.K) := fun Z H d x ds Q i rx h q => by
  unfold srtO at h
  split at h
  · obtain ⟨ns, h1, rfl⟩ := Option.map_eq_some_iff.mp h
    obtain ⟨a, vs, rfl, ha, ra⟩ := rx.list
    have e := ra.ofInts h1
    subst e
    refine ⟨a, ns, rfl, .inl ha, fun ns' p hp hs hn => ?_⟩
    rw [sorted_uniq (hp.trans (sortI_perm ns).symm) hs (sortI_sorted ns)]
    exact q p _ hn (reps_ints _)
  · cases h
theorem mn_sorted (hm : X.mg "sorted" = none) (ha : MV G W X e f) (hg : Gl X "sorted" := by rfl) (hs : starEach [e] X.env = (false, eval e X.env) :: starEach [] X.env := by rfl) (hpl : (backTo pos (starEach [] X.env)).any (·.1) = false := by rfl) : MN G W X (.Call (.Name "sorted" p) [e] [] pos) (nOf srtO f) :=
  mn_of (fun h => pe_callB cr_sortedI hg hm (by decide +kernel) h (by decide) (by decide) hs hpl) simo_sorted ha hs
end
end M
namespace M
open PySem PySem.Spec L2 LamX PyProof.Rows
/-! ### a def whose code object is known by its address -/
structure FunC (K : PySem.W.Frag) (x qual : Str) (st : Stmt) (f : Addr) (fd : FuncData) (c : Addr) : Prop where
  ex : ∃ (oc : Value) (od : Option Addr) (kV doc pm : Value) (an : Option Addr) (ct : Value) (osl : Array (Option Value)),
    fd = PySem.W.fnOf x qual (defArgs st) (defBody st) (defScope st) .none kV doc pm an (.ref c) ct ∧ K.lookup f = some ⟨oc, od, .func fd, osl⟩ ∧ PySem.W.codeIn K (.ref c) qual = true
  kp : PySem.W.keepIn K (.ref f) = true
section
variable {P : Program} {w : World} {K : PySem.W.Frag} {mg : Str → Option Value} {base : Heap} {G : Wd} {x qual : Str} {s : Stmt} {f : Addr} {fd : FuncData} {c : Addr} {N ps : List Str} {k n : Nat} {fb : SDen}
theorem FunC.fn (F : FunC K x qual s f fd c) : Fun K x qual s f fd := by
  obtain ⟨oc, od, kV, doc, pm, an, ct, osl, e, lk, hcd⟩ := F.ex
  exact ⟨⟨oc, od, kV, doc, pm, an, .ref c, ct, osl, e, lk, hcd⟩, F.kp⟩
theorem funC_mk {oc : Value} {od an : Option Addr} {osl : Array (Option Value)} {kV doc pm ct : Value} (l : K.lookup f = some ⟨oc, od, .func (PySem.W.fnOf x qual (defArgs s) (defBody s) (defScope s) .none kV doc pm an (.ref c) ct), osl⟩)
    (hc : PySem.W.codeIn K (.ref c) qual = true) (k : PySem.W.keepIn K (.ref f) = true) : FunC K x qual s f (PySem.W.fnOf x qual (defArgs s) (defBody s) (defScope s) .none kV doc pm an (.ref c) ct) c := ⟨⟨oc, od, kV, doc, pm, an, ct, osl, rfl, l, hc⟩, k⟩
theorem fn_MGc (F : FunC K x qual s f fd c) (S : FnScope N ps (defScope s)) (hn : ps.length = n) (hN : n ≤ N.length)
    (hbody : ∀ (A : Around) (outer : List PySem.Env) (sh : Shared) (H : Hp) (E : XK), Room k (A.deeper (PyProof.Rows.envOfC qual (defScope s) sh.heap.objs.size f (.ref c))) → (A.deeper (PyProof.Rows.envOfC qual (defScope s) sh.heap.objs.size f (.ref c))).guards = some [] →
      L2N.Takes (cxOf (L2N.CX P w) P w K mg base N qual (defScope s) f (.ref c) A outer sh H E) (WD E) → PassesOwn (model P w) (A.deeper (PyProof.Rows.envOfC qual (defScope s) sh.heap.objs.size f (.ref c))) (PyProof.Rows.envOfC qual (defScope s) sh.heap.objs.size f (.ref c)) (cxOf (L2N.CX P w) P w K mg base N qual (defScope s) f (.ref c) A outer sh H E).xe →
      MSs G (WD E) (cxOf (L2N.CX P w) P w K mg base N qual (defScope s) f (.ref c) A outer sh H E) (defBody s) fb) : FnG P w K mg base (k + 1) f fd ps (spM G n (dFn n N.length fb)) := by
  obtain ⟨oc, od, kV, doc, pm, an, ct, osl, rfl, lk, hcd⟩ := F.ex
  refine ⟨fun vs H Q E h => by rw [hn]; exact h.1, fun A outer sh H args us vs Q E hr hg e0 hb r hsp => ?_⟩
  exact run_ofS lk hcd S hr e0 hb r (by rw [hn]; exact hsp.1) fun hr' => ⟨_, hbody A outer sh H E hr' hg (L2N.takes_of rfl rfl rfl rfl) (passes_of rfl), spM_body hN hsp⟩
end
/-! ### told(lambda: ..), by name -/
structure MTold (P : Program) (w : World) (K : PySem.W.Frag) (mg : Str → Option Value) (base : Heap) (G : Wd) (k : Nat) (x : Str) (w0 : Str) (sub : Str → Option Bool) (refd : FD) : Prop where
  ex : ∃ (a ce ee rf : Str) (j kt : Nat) (q1 q2 q3 p1 p2 p4 p5 p6 p7 p8 p9 p10 : Pos) (g CE fr : Addr) (pg : Arguments) (sg : Scope) (kV doc pm cdv ct oc dV : Value) (an od : Option Addr) (osl : Array (Option Value)) (fdr : FuncData) (psr : List Str),
    (mg x = some (.ref g) ∧ PySem.W.keepIn K (.ref g) = true ∧ K.lookup g = some ⟨oc, od, .func (PySem.W.fnOf x x pg [toldS w0 a ce ee rf j kt q1 q2 q3 p1 p2 p4 p5 p6 p7 p8 p9 p10] sg dV kV doc pm an cdv ct), osl⟩ ∧ PySem.W.codeIn K cdv x = true ∧
      L2.Binds K (PySem.W.fnOf x x pg [toldS w0 a ce ee rf j kt q1 q2 q3 p1 p2 p4 p5 p6 p7 p8 p9 p10] sg dV kV doc pm an cdv ct) [a] [] ∧ FnScope [a, ee] [a] sg) ∧
    (Vis sg a ∧ sg.names.lookup ee = some .local ∧ sg.names.lookup ce = some .globalImplicit ∧ sg.names.lookup rf = some .globalImplicit ∧ mg ce = some (.ref CE) ∧ mg rf = some (.ref fr) ∧ PySem.W.keepIn K (.ref fr) = true ∧ L2.Binds K fdr psr []) ∧
    (FnHE P w K mg base (L2N.CX P w) k fr fdr psr (spMX G refd) ∧ (∀ c C b, G.cls c = some C → sub c = some b → PySem.W.exmOne K (.ref C) (.ref CE) = some b)) ∧
    (a == ("__debug__" : Str)) = false ∧ (a == ("__classdict__" : Str)) = false ∧ (ee == ("__debug__" : Str)) = false ∧ (ee == ("__classdict__" : Str)) = false ∧ (ce == ("__debug__" : Str)) = false ∧ (rf == ("__debug__" : Str)) = false
section
variable {P : Program} {w : World} {K : PySem.W.Frag} {mg : Str → Option Value} {base : Heap} {G : Wd} {k : Nat}
theorem told_mk {x w0 a ce ee rf : Str} {j kt : Nat} {q1 q2 q3 p1 p2 p4 p5 p6 p7 p8 p9 p10 : Pos} {s : Stmt} {g CE fr : Addr} {fd fdr : FuncData} {psr : List Str} {sub : Str → Option Bool} {refd : FD} (F : Fun K x x s g fd) (hm : mg x = some (.ref g))
    (hs : defBody s = [toldS w0 a ce ee rf j kt q1 q2 q3 p1 p2 p4 p5 p6 p7 p8 p9 p10]) (b : L2.Binds K fd [a] []) (Sg : FnScope [a, ee] [a] (defScope s)) (hva : Vis (defScope s) a) (hee : (defScope s).names.lookup ee = some .local)
    (hce : (defScope s).names.lookup ce = some .globalImplicit) (hrf : (defScope s).names.lookup rf = some .globalImplicit) (hmc : mg ce = some (.ref CE)) (hmr : mg rf = some (.ref fr)) (hkr : PySem.W.keepIn K (.ref fr) = true) (hbr : L2.Binds K fdr psr [])
    (R : FnHE P w K mg base (L2N.CX P w) k fr fdr psr (spMX G refd)) (he : ∀ c C b, G.cls c = some C → sub c = some b → PySem.W.exmOne K (.ref C) (.ref CE) = some b)
    (h1 : (a == ("__debug__" : Str)) = false := by decide) (h2 : (a == ("__classdict__" : Str)) = false := by decide) (h3 : (ee == ("__debug__" : Str)) = false := by decide) (h4 : (ee == ("__classdict__" : Str)) = false := by decide) (h5 : (ce == ("__debug__" : Str)) = false := by decide) (h6 : (rf == ("__debug__" : Str)) = false := by decide) :
    MTold P w K mg base G k x w0 sub refd := by
  obtain ⟨oc, od, kV, doc, pm, an, cdv, ct, osl, rfl, lk, hcd⟩ := F.ex
  rw [hs] at lk b
  exact ⟨a, ce, ee, rf, j, kt, q1, q2, q3, p1, p2, p4, p5, p6, p7, p8, p9, p10, g, CE, fr, _, _, kV, doc, pm, cdv, ct, oc, .none, an, od, osl, fdr, psr, ⟨hm, F.kp, lk, hcd, b, Sg⟩, ⟨hva, hee, hce, hrf, hmc, hmr, hkr, hbr⟩, ⟨R, he⟩, h1, h2, h3, h4, h5, h6⟩
end
section
variable {G : Wd} {W : WX} {X : Cx}
theorem me_toldM {x w0 : Str} {k : Nat} {P : Addr} {params : Arguments} {body : Expr} {scope : Scope} {lps NN : List Str} {lvs : List V} {ds : List D} {fe : Den} {refd : FD} {sub : Str → Option Bool} {p lpos pos : Pos} (m : MTold X.prog X.w X.K X.mg X.base G k x w0 sub refd)
    (hmk : LamMk X G.T P params body scope lpos lps 0 lvs) (hll : lvs.length = lps.length) (hds : ∀ (Z : Zone) (H : Hp), Reps G Z H ds lvs) (hmT : (P, X.env.qual ++ "<lambda>") ∈ G.T) (hr : Room (k + 3) X.A) (hNN : NN = hideN lps X.N ++ lps) (Ls : LamP X.env.scope lps scope)
    (hbody : ∀ (A : Around) (outer : List PySem.Env) (s : Shared) (H : Hp) (E : XK) (f c' : Addr), Room k (A.deeper (lamEnv X scope s.heap.objs.size f c')) → L2N.Takes (lamNP X A outer s H E scope NN f c') (WD E) → ME G (WD E) (lamNP X A outer s H E scope NN f c') body fe)
    (hg : Gl X x := by rfl) (hdb : (x == ("__debug__" : Str)) = false := by decide) : ME G W X (.Call (.Name x p) [.Lambda params body scope lpos] [] pos) (eTold w0 sub refd ds fe) := by
  obtain ⟨a, ce, ee, rf, j, kt, q1, q2, q3, p1, p2, p4, p5, p6, p7, p8, p9, p10, g, CE, fr, pg, sg, kV, doc, pm, cdv, ct, oc, dV, an, od, osl, fdr, psr, ⟨g1, g2, g3, g4, g5, g6⟩, ⟨k1, k2, k3, k4, k5, k6, k7, k8⟩, ⟨l1, l2⟩, h1, h2, h3, h4, h5, h6⟩ := m.ex
  exact me_told g1 g2 g3 g4 g5 g6 k1 k2 k3 k4 k5 k6 k7 k8 l1 l2 hmk hll hds hmT hr hNN Ls hbody hg hdb h1 h2 h3 h4 h5 h6
end
/-! ### classes -/
/-- the row of a table that tells whether a class is below another one -/
def subT (l : List (Str × Bool)) (c : Str) : Option Bool := l.lookup c
/-- the same of the classes' addresses: bs, one answer a class -/
def kitAll (K : PySem.W.Frag) (D : Value) : List (Str × Addr) → List (Str × Bool) → Bool
  | [], [] => true
  | (c, C) :: r, (c', b) :: r' => decide (c = c') && decide (PySem.W.kitOne K (.ref C) D = some b) && kitAll K D r r'
  | _, _ => false
theorem kitAll_ok {K : PySem.W.Frag} {D : Value} : ∀ {cl : List (Str × Addr)} {l : List (Str × Bool)}, kitAll K D cl l = true → ∀ c C b, cl.lookup c = some C → subT l c = some b → PySem.W.kitOne K (.ref C) D = some b
  | [], _, _, c, C, b, h, _ => by cases h
  | (c0, C0) :: r, [], h, _, _, _, _, _ => by cases h
  | (c0, C0) :: r, (c1, b1) :: r', h, c, C, b, h1, h2 => by
    unfold kitAll at h
    rw [Bool.and_eq_true, Bool.and_eq_true] at h
    obtain ⟨⟨e1, e2⟩, e3⟩ := h
    have e1 := of_decide_eq_true e1
    subst e1
    unfold subT at h2
    rw [List.lookup_cons] at h1 h2
    cases hb : c == c0 with
    | true =>
      rw [hb] at h1 h2
      cases h1
      cases h2
      exact of_decide_eq_true e2
    | false =>
      rw [hb] at h1 h2
      exact kitAll_ok e3 c C b h1 h2
def exmAll (K : PySem.W.Frag) (D : Value) : List (Str × Addr) → Bool
  | [] => true
  | (_, C) :: r => decide (PySem.W.exmOne K (.ref C) D = some true) && exmAll K D r
theorem exmAll_ok {K : PySem.W.Frag} {D : Value} : ∀ {cl : List (Str × Addr)}, exmAll K D cl = true → ∀ c C b, cl.lookup c = some C → (fun _ => some true : Str → Option Bool) c = some b → PySem.W.exmOne K (.ref C) D = some b
  | [], _, c, C, b, h, _ => by cases h
  | (c0, C0) :: r, h, c, C, b, h1, h2 => by
    unfold exmAll at h
    rw [Bool.and_eq_true] at h
    rw [List.lookup_cons] at h1
    cases hb : c == c0 with
    | true =>
      rw [hb] at h1
      cases h1
      cases h2
      exact of_decide_eq_true h.1
    | false =>
      rw [hb] at h1
      exact exmAll_ok h.2 c C b h1 h2
def excB (K : PySem.W.Frag) (D : Addr) : Bool := decide (PySem.W.findIn K (.ref D) "__getattribute__" = some (some (.builtin "BaseException.__getattribute__"))) && decide (PySem.W.findIn K (.ref D) "__getattr__" = some none) &&
  decide (PySem.W.subIn K (.ref D) (.type "BaseException") = some true) && PySem.W.hasDictIn K D && decide (PySem.W.findIn K (.ref D) "__class__" = some (some (.builtin "object.__class__"))) &&
  decide (PySem.W.specialIn K (.builtin "object.__class__") "__get__" = some (some (.builtin "getset_descriptor.__get__"))) && decide (PySem.W.takesIn K (.builtin "object.__class__") = some true) && decide (PySem.W.mroIn K D (.type "object") = some true)
theorem excB_ok {K : PySem.W.Frag} {D : Addr} (h : excB K D = true) : ExcC K D ∧ XfC K D := by
  unfold excB at h
  simp only [Bool.and_eq_true, decide_eq_true_eq] at h
  obtain ⟨⟨⟨⟨⟨⟨⟨h1, h2⟩, h3⟩, h4⟩, h5⟩, h6⟩, h7⟩, h8⟩ := h
  exact ⟨⟨h1, h2, h3, h4, h5, h6, h7, h8⟩, ⟨h1, h2, h3, h4⟩⟩
def excAll (K : PySem.W.Frag) : List (Str × Addr) → Bool
  | [] => true
  | (_, C) :: r => excB K C && excAll K r
theorem excAll_ok {K : PySem.W.Frag} : ∀ {cl : List (Str × Addr)}, excAll K cl = true → ∀ c C, cl.lookup c = some C → ExcC K C ∧ XfC K C
  | [], _, c, C, h => by cases h
  | (c0, C0) :: r, h, c, C, h1 => by
    unfold excAll at h
    rw [Bool.and_eq_true] at h
    rw [List.lookup_cons] at h1
    cases hb : c == c0 with
    | true =>
      rw [hb] at h1
      cases h1
      exact excB_ok h.1
    | false =>
      rw [hb] at h1
      exact excAll_ok h.2 c C h1
def noAll (K : PySem.W.Frag) (f : Str) : List (Str × Addr) → Bool
  | [] => true
  | (_, C) :: r => decide (PySem.W.findIn K (.ref C) f = some none) && noAll K f r
theorem noAll_ok {K : PySem.W.Frag} {f : Str} : ∀ {cl : List (Str × Addr)}, noAll K f cl = true → ∀ c C, cl.lookup c = some C → PySem.W.findIn K (.ref C) f = some none
  | [], _, c, C, h => by cases h
  | (c0, C0) :: r, h, c, C, h1 => by
    unfold noAll at h
    rw [Bool.and_eq_true] at h
    rw [List.lookup_cons] at h1
    cases hb : c == c0 with
    | true =>
      rw [hb] at h1
      cases h1
      exact of_decide_eq_true h.1
    | false =>
      rw [hb] at h1
      exact noAll_ok h.2 c C h1
end M
namespace M
open PySem PySem.Spec L2 NdefX PyProof.Rows
/-! ### own exception classes of the text, from what is read off the frame -/
def supB (K : PySem.W.Frag) (C fI cda : Addr) (qual : Str) (fs : List Str) : Bool :=
  decide (PySem.W.findIn K (.ref C) "__setattr__" = some (some (.builtin "object.__setattr__"))) && decide (PySem.W.subIn K (.ref C) (.type "BaseException") = some true) && decide (PySem.W.typeIn K (.ref C) = some (.type "type")) && PySem.W.keepIn K (.ref C) &&
  decide (PySem.W.findIn K (.ref C) "__init__" = some (some (.ref fI))) && decide (PySem.W.typeIn K (.ref fI) = some (.type "function")) && PySem.W.codeIn K (.ref cda) qual &&
  decide (PySem.W.ks_superIn K C C "__init__" = some (some (.builtin "ValueError.__init__"))) && decide (PySem.W.mroIn K C (.ref C) = some true) && decide (PySem.W.subIn K (.ref C) (.type "ValueError") = some true) && decide (PySem.W.nsIn K PySem.cStatics "thirdparty.any" = some none) &&
  fs.all fun f => decide (PySem.W.findIn K (.ref C) f = some none)
section
variable {P : Program} {w : World} {K : PySem.W.Frag} {mg : Str → Option Value} {base : Heap} {G : Wd} {k : Nat} {c : Str} {C fI cc cda NC : Addr} {qual nm q : Str} {s : Stmt} {bs bm sub : List Value} {sn : List Str} {ab : Bool} {col : Option Bool} {dd : Option Addr} {k0 k1 k2 k3 k5 : Option Value}
  {oc kV doc pm ct ccl cl : Value} {od an cdd cld : Option Addr} {osl ccs csl : Array (Option Value)} {fvs : Array Value} {file : Str} {tf : Tok} {fs : List Str}
structure SupK (P : Program) (K : PySem.W.Frag) (mg : Str → Option Value) (C fI cc cda : Addr) (qual : Str) (s : Stmt) (fs : List Str) : Prop where
  sup : SupC P K mg C fI cc cda "__init__" qual (defArgs s) (defBody s) (defScope s)
  no : ∀ f ∈ fs, PySem.W.findIn K (.ref C) f = some none
theorem supK_mk (o : K.lookup C = some (excClassObj nm q C NC bs bm true sn sub ab col dd k0 k1 k2 k3 k5 "ValueError.__new__")) (v : PySem.HandSPX.refsVE bm = true)
    (l : K.lookup fI = some ⟨oc, od, .func (PySem.W.ksFn "__init__" qual (defArgs s) (defBody s) (defScope s) .none kV doc pm an (.ref cda) ct cc), osl⟩)
    (lc : K.lookup cda = some ⟨ccl, cdd, .fields fvs, ccs⟩) (fi : fvs[2]? = some (.str file tf)) (fe : ((P.main.file : Str) == file) = true) (ce : K.lookup cc = some ⟨cl, cld, .cell (some (.ref C)), csl⟩) (b : supB K C fI cda qual fs = true)
    (hsup : mg "super" = none) (htop : (P.main.scope.names.lookup ("super" : Str)).isSome = false) : SupK P K mg C fI cc cda qual s fs := by
  unfold supB at b
  simp only [Bool.and_eq_true, decide_eq_true_eq, List.all_eq_true] at b
  obtain ⟨⟨⟨⟨⟨⟨⟨⟨⟨⟨⟨b1, b2⟩, b3⟩, b4⟩, b5⟩, b6⟩, b7⟩, b8⟩, b9⟩, b10⟩, b11⟩, b12⟩ := b
  exact ⟨⟨⟨⟨nm, q, NC, bs, bm, sn, sub, ab, col, dd, k0, k1, k2, k3, k5, o, v⟩, b1, b2, b3, b4⟩, b5, b6, ⟨oc, kV, doc, pm, ct, an, od, osl, l⟩, b7, ⟨ccl, cdd, fvs, ccs, file, tf, lc, fi, fe⟩, ⟨cl, cld, csl, ce⟩, b8, b11, b9, b10, hsup, htop⟩, b12⟩
section
variable {p0 p1 p2 p3 p4 p5 q1 q2 q3 q4 r1 r2 r3 r4 : Pos} {msg f1 f2 x1 x2 : Str} {j : Nat} {ar : Arg} {pl : PySem.Env → Sem Bool}
theorem mexc1 (F : SupK P K mg C fI cc cda qual s [f1]) (hm : mg c = some (.ref C)) (hG : G.cls c = some C) (hs : defBody s = [supS p0 p1 p2 p3 p4 p5 msg j, fldS f1 x1 q1 q2 q3 q4]) (S : NScope ["self", x1, "__class__"] ["self", x1] ["__class__"] (defScope s))
    (hp : ((defArgs s).posonlyargs ++ (defArgs s).args).head? = some ar) (har : ar.arg = "self") (hks : (defScope s).names.lookup ("super" : Str) = some .globalImplicit)
    (hb : ∀ (kV doc pm ctv : Value) (an : Option Addr) (us : List Value), us.length = (["self", x1] : List Str).length → bindArgs (PySem.W.ksFn "__init__" qual (defArgs s) (defBody s) (defScope s) .none kV doc pm an (.ref cda) ctv cc) ⟨us, []⟩ = pure ((["self", x1] : List Str).zip us))
    (he : SupEv p0 p1 p2 p3 p4 msg j pl) (hi : ∀ env : PySem.Env, env.scope = defScope s → interactive env = false) (hs1 : FldSw (defScope s) f1 x1 q1 q2 q3 q4) (hd1 : (x1 == ("__debug__" : Str)) = false) (hc1 : (x1 == ("__classdict__" : Str)) = false) :
    MExc P w K mg base G (k + 1) c 1 [(f1, 0)] := by
  obtain ⟨F, no⟩ := F
  have iC := F.iC
  have tI := F.tI
  have T := F.T
  rw [hs] at F hb
  exact ⟨⟨C, fI, T, iC, tI, ini1 F S hp har hks hb he hi hs1 (no f1 (by simp)) hd1 hc1, hm, hG⟩, by omega⟩
theorem mexc2 (F : SupK P K mg C fI cc cda qual s [f1, f2]) (hm : mg c = some (.ref C)) (hG : G.cls c = some C) (hs : defBody s = [supS p0 p1 p2 p3 p4 p5 msg j, fldS f1 x1 q1 q2 q3 q4, fldS f2 x2 r1 r2 r3 r4]) (S : NScope ["self", x1, x2, "__class__"] ["self", x1, x2] ["__class__"] (defScope s))
    (hp : ((defArgs s).posonlyargs ++ (defArgs s).args).head? = some ar) (har : ar.arg = "self") (hks : (defScope s).names.lookup ("super" : Str) = some .globalImplicit)
    (hb : ∀ (kV doc pm ctv : Value) (an : Option Addr) (us : List Value), us.length = (["self", x1, x2] : List Str).length → bindArgs (PySem.W.ksFn "__init__" qual (defArgs s) (defBody s) (defScope s) .none kV doc pm an (.ref cda) ctv cc) ⟨us, []⟩ = pure ((["self", x1, x2] : List Str).zip us))
    (he : SupEv p0 p1 p2 p3 p4 msg j pl) (hi : ∀ env : PySem.Env, env.scope = defScope s → interactive env = false) (hs1 : FldSw (defScope s) f1 x1 q1 q2 q3 q4) (hs2 : FldSw (defScope s) f2 x2 r1 r2 r3 r4) (hd1 : (x1 == ("__debug__" : Str)) = false) (hc1 : (x1 == ("__classdict__" : Str)) = false)
    (hd2 : (x2 == ("__debug__" : Str)) = false) (hc2 : (x2 == ("__classdict__" : Str)) = false) : MExc P w K mg base G (k + 1) c 2 [(f2, 1), (f1, 0)] := by
  obtain ⟨F, no⟩ := F
  have iC := F.iC
  have tI := F.tI
  have T := F.T
  rw [hs] at F hb
  exact ⟨⟨C, fI, T, iC, tI, ini2 F S hp har hks hb he hi hs1 hs2 (no f1 (by simp)) (no f2 (by simp)) hd1 hc1 hd2 hc2, hm, hG⟩, by omega⟩
end
end
end M
namespace M
open PySem PySem.Spec L2 L2H LamX PyProof.Rows
theorem hu65H {k : Nat} {A : Around} (r : RoomH k A) : A.units + 65 < cLine := by have := r.un; omega
theorem hu64H {k : Nat} {A : Around} (r : RoomH k A) : A.units + 64 < cLine := by have := r.un; omega
theorem FnHE.mono {P : Program} {w : World} {K : PySem.W.Frag} {mg : Str → Option Value} {base : Heap} {CX : CXT} {j k : Nat} {f : Addr} {fd : FuncData} {ps : List Str} {sp : (Addr × Obj) → Sp} (F : FnHE P w K mg base CX j f fd ps sp) (h : j ≤ k) : FnHE P w K mg base CX k f fd ps sp :=
  ⟨F.len, fun A outer s H args us vs Q E p hr => F.run A outer s H args us vs Q E p (hr.mono h)⟩
section
variable {G : Wd} {W : WX} {X : Cx}
theorem me_told0 {x w0 : Str} {k : Nat} {c P : Addr} {params : Arguments} {body : Expr} {scope : Scope} {NN : List Str} {fe : Den} {refd : FD} {sub : Str → Option Bool} {p lpos pos : Pos} (m : MTold X.prog X.w X.K X.mg X.base G k x w0 sub refd)
    (TB : TabB X.base X.mg c P) (hcode : X.env.code = .ref c) (hmT : (P, X.env.qual ++ "<lambda>") ∈ G.T) (hu : ∀ p ∈ G.T, p.1 = P → p.2 = X.env.qual ++ "<lambda>") (hr : Room (k + 3) X.A) (Ls : LamP X.env.scope [] scope) (hdef : defaultsOf params X.env = ([], []))
    (hbind : ∀ (q : Str) (cl : List (Str × Addr)) (pm cv ctv : Value) (us : List Value), us.length = 0 → bindArgs (PySem.W.kla_fn "<lambda>" q params body scope cl pm cv ctv) ⟨us, []⟩ = pure (([] : List Str).zip us)) (hNN : NN = hideN [] X.N ++ [])
    (hbody : ∀ (A : Around) (outer : List PySem.Env) (s : Shared) (H : Hp) (E : XK) (f c' : Addr), Room k (A.deeper (lamEnv X scope s.heap.objs.size f c')) → L2N.Takes (lamNP X A outer s H E scope NN f c') (WD E) → ME G (WD E) (lamNP X A outer s H E scope NN f c') body fe)
    (hg : Gl X x := by rfl) (hdb : (x == ("__debug__" : Str)) = false := by decide) : ME G W X (.Call (.Name x p) [.Lambda params body scope lpos] [] pos) (eTold w0 sub refd [] fe) :=
  me_toldM m (lamMk_plain TB hcode hmT hu (fun ok => Ls.has ok) hdef hbind) rfl (fun _ _ => .nil) hmT hr hNN Ls hbody hg hdb
theorem me_toldI {x w0 x0 : Str} {k : Nat} {n : Int} {jd : Nat} {dp : Pos} {c P : Addr} {params : Arguments} {body : Expr} {scope : Scope} {NN : List Str} {fe : Den} {refd : FD} {sub : Str → Option Bool} {p lpos pos : Pos} (m : MTold X.prog X.w X.K X.mg X.base G k x w0 sub refd)
    (TB : TabB X.base X.mg c P) (hcode : X.env.code = .ref c) (hmT : (P, X.env.qual ++ "<lambda>") ∈ G.T) (hu : ∀ p ∈ G.T, p.1 = P → p.2 = X.env.qual ++ "<lambda>") (hr : Room (k + 3) X.A) (Ls : LamP X.env.scope [x0] scope) (hdef : defaultsOf params X.env = ([eval (.Constant (.int n) jd dp) X.env], []))
    (hbind : ∀ (q : Str) (cl : List (Str × Addr)) (pm cv ctv dV : Value), ∃ k : Option (Array Value) → Sem (List (Str × Value)), bindArgs (PySem.W.dla_fn "<lambda>" q params body scope cl dV pm cv ctv) ⟨[], []⟩ = seqItems? dV >>= k ∧ ∀ u, k (some #[u]) = pure [(x0, u)]) (hNN : NN = hideN [x0] X.N ++ [x0])
    (hbody : ∀ (A : Around) (outer : List PySem.Env) (s : Shared) (H : Hp) (E : XK) (f c' : Addr), Room k (A.deeper (lamEnv X scope s.heap.objs.size f c')) → L2N.Takes (lamNP X A outer s H E scope NN f c') (WD E) → ME G (WD E) (lamNP X A outer s H E scope NN f c') body fe)
    (hg : Gl X x := by rfl) (hdb : (x == ("__debug__" : Str)) = false := by decide) : ME G W X (.Call (.Name x p) [.Lambda params body scope lpos] [] pos) (eTold w0 sub refd [.int n] fe) :=
  me_toldM m (lamMk_int TB hcode hmT hu (fun ok => Ls.has ok) hdef hbind) rfl (fun _ _ => .cons (.int n) .nil) hmT hr hNN Ls hbody hg hdb
end
end M
namespace Law
open PySem PySem.Spec L2 M
def topS (i : Nat) : Stmt := PySem.Challenge.pw_craterounds_k20_schedules_judged.main.body.getD i (.Pass ⟨0, 0, 0, 0⟩)
def inS (i j : Nat) : Stmt := (C8.clsBody (topS i)).getD j (.Pass ⟨0, 0, 0, 0⟩)
def t_NothingDone : List (Str × Bool) := [("BadNumber", false)]
def t_BadClaim : List (Str × Bool) := [("BadNumber", false)]
def t_NotAgreed : List (Str × Bool) := [("BadNumber", false)]
def t_NotPossible : List (Str × Bool) := [("BadNumber", false)]
def t_BadLine : List (Str × Bool) := [("BadNumber", false)]
def t_BadText : List (Str × Bool) := [("BadNumber", false)]
def t_BadSigns : List (Str × Bool) := [("BadNumber", false)]
def t_BadSuspects : List (Str × Bool) := [("BadNumber", false)]
def t_BadMoves : List (Str × Bool) := [("BadNumber", false)]
def t_BadCounts : List (Str × Bool) := [("BadNumber", false)]
def t_BadRows : List (Str × Bool) := [("BadNumber", false)]
def t_BadNeeds : List (Str × Bool) := [("BadNumber", false)]
def t_BadTimes : List (Str × Bool) := [("BadNumber", false)]
def t_BadCourse : List (Str × Bool) := [("BadNumber", false)]
def t_TooMany : List (Str × Bool) := [("BadNumber", false)]
def t_UnknownHouse : List (Str × Bool) := [("BadNumber", false)]
def t_UnknownKind : List (Str × Bool) := [("BadNumber", false)]
def t_BadOrder : List (Str × Bool) := [("BadNumber", false)]
def t_BadNumber : List (Str × Bool) := [("BadNumber", true)]
def t_BadPlan : List (Str × Bool) := [("BadNumber", false)]
def t_ValueError : List (Str × Bool) := [("BadNumber", true)]
noncomputable def dn_is_whole : FD := dFn 1 1 (sRet (eAndV (eOp1 (dIsi "int") (eVar 0)) (eNotV (eOp1 (dIsi "bool") (eVar 0)))))
noncomputable def dn_is_within : FD := dFn 3 3 (sRet (eAndV (eCall 1 dn_is_whole (eCons (eVar 0) eNil)) (eChain dLe dLe (eVar 1) (eVar 0) (eVar 2))))
noncomputable def dn_require_wear : FD := dFn 3 3 (sSeq (sIf (eNot (eB (eCall 3 dn_is_within (eCons (eVar 0) (eCons (eC (.int 0)) (eCons (eC (.int 30)) eNil)))))) (sRaise "BadNumber" 1 [("value", 0)] (eCons (eVar 0) eNil)) sNil)
  (sSeq (sIf (eNot (eB (eCall 3 dn_is_within (eCons (eVar 1) (eCons (eC (.int 0)) (eCons (eC (.int 9)) eNil)))))) (sRaise "BadNumber" 1 [("value", 0)] (eCons (eVar 1) eNil)) sNil)
  (sIf (eNot (eB (eCall 3 dn_is_within (eCons (eVar 2) (eCons (eC (.int 1)) (eCons (eC (.int 30)) eNil)))))) (sRaise "BadNumber" 1 [("value", 0)] (eCons (eVar 2) eNil)) sNil)))
noncomputable def dn_fewest : FD := dFn 3 3 (sSeq (sExpr (eCall 3 dn_require_wear (eCons (eVar 0) (eCons (eVar 1) (eCons (eVar 2) eNil)))))
  (sSeq (sIf (eB (eOp2 dEq (eVar 0) (eC (.int 0)))) (sRet (eC (.int 0))) sNil)
  (sRet (eOpN dMax2 (eCons (eVar 1) (eCons (eOp2 dFdiv (eOp2 dSub (eOp2 dAdd (eOp2 dMul (eVar 0) (eVar 1)) (eVar 2)) (eC (.int 1))) (eVar 2)) eNil))))))
noncomputable def dn_schedule : FD := dFn 3 7 (sSeq (sSet 3 (eCall 3 dn_fewest (eCons (eVar 0) (eCons (eVar 1) (eCons (eVar 2) eNil)))))
  (sSeq (sNew 4 (nLst eNil))
  (sSeq (sFor (iRange1 (eVar 0)) (gN 5) (sMut1 kApp 4 (eOp1 dTuple (eOp1 dSorted (ePure (eComp (iRange1 (eVar 1)) (gN 6) eYes (eOp2 dMod (eOp2 dAdd (eOp2 dMul (eVar 5) (eVar 1)) (eVar 6)) (eVar 3)) [6]))))))
  (sRet (eOp1 dTuple (eVarB 4))))))
noncomputable def dn__law_taken : FD := dFn 2 4 (sSeq (sIf (eB (eOp2 dGt (eOp2P dIx 0 (eC (.int 3))) (eC (.int 0)))) (sSeq (sSet 3 (eOp2 dMod (eOp1 dInt (eOp2P dIx 0 (eC (.int 3)))) (eVar 1)))
  (sSeq (sSetIx 0 (eC (.int 3)) (eOp2 dFdiv (eOp2P dIx 0 (eC (.int 3))) (eVar 1)))
  (sRet (eVar 3)))) sNil)
  (sSeq (sSetIx 0 (eC (.int 1)) (eOp2 dAdd (eOp2P dIx 0 (eC (.int 1))) (eC (.int 1))))
  (sSeq (sIf (eB (eOp2 dGt (eOp2P dIx 0 (eC (.int 1))) (eOp1 dLen (eOp2P dIx 0 (eC (.int 0)))))) (sSeq (sSetIx 0 (eC (.int 2)) (eOp2 dMod (eOp1 dInt (eOp2 dAdd (eOp2 dMul (eOp2P dIx 0 (eC (.int 2))) (eC (.int 48271))) (eC (.int 11)))) (eC (.int 2147483647))))
  (sRet (eOp2 dMod (eOp1 dInt (eOp2 dFdiv (eOp2P dIx 0 (eC (.int 2))) (eC (.int 7)))) (eVar 1)))) sNil)
  (sSeq (sSet 2 (eOp2 dIx (eOp2P dIx 0 (eC (.int 0))) (eOp2 dSub (eOp2P dIx 0 (eC (.int 1))) (eC (.int 1)))))
  (sSeq (sSetIx 0 (eC (.int 2)) (eOp2 dMod (eOp1 dInt (eOp2 dAdd (eOp2 dAdd (eOp2 dMul (eOp2P dIx 0 (eC (.int 2))) (eC (.int 48271))) (eVar 2)) (eC (.int 11)))) (eC (.int 2147483647))))
  (sSeq (sIf (eB (eOp2 dGe (eVar 2) (eOp2 dPow (eC (.int 10)) (eC (.int 18))))) (sSeq (sSetIx 0 (eC (.int 3)) (eOp2 dFdiv (eVar 2) (eVar 1)))
  (sRet (eOp2 dMod (eOp1 dInt (eVar 2)) (eVar 1)))) sNil)
  (sRet (eOp2 dMod (eOp1 dInt (eOp2 dAdd (eOp2 dMul (eOp2 dMod (eOp1 dInt (eVar 2)) (eC (.int 1000003))) (eC (.int 31))) (eOp2 dFdiv (eOp2P dIx 0 (eC (.int 2))) (eC (.int 11))))) (eVar 1)))))))))
noncomputable def dn__law_pick : FD := dFn 2 2 (sRet (eOp2 dIx (eVar 1) (eCallS 2 dn__law_taken (aRef 0 (aVal (eOp1 dLen (eVar 1)) aNil)))))
noncomputable def dn__law_odd : FD := dFn 1 2 (sSeq (sSet 1 (eLst (eCons (eC .non) (eCons (eC (.bl true)) (eCons (eC (.bl false)) (eCons (eOp1 dNeg (eC (.int 1))) (eCons (eOp2 dPow (eC (.int 10)) (eC (.int 30))) (eCons (eC (.str "")) (eCons (eC (.str "A")) (eCons (eC (.str "a1")) (eCons (eC (.str "abcdefghi")) (eCons (eLst eNil) (eCons (eLst (eCons (eC (.int 1)) eNil)) (eCons (eC (.dic [])) (eCons (eC (.dic [(.str "a", .int 1)])) (eCons (eC (.str "a b")) (eCons (eC (.int 61)) (eCons (eC (.str "-")) eNil))))))))))))))))))
  (sRet (eCallS 2 dn__law_pick (aRef 0 (aVal (eVar 1) aNil)))))
noncomputable def dn__law_refusal : FD := dFn 1 4 (sSeq (sSet 1 (eLst (eCons (eC (.str "BadPlan")) (eCons (eC (.str "BadNumber")) (eCons (eC (.str "BadOrder")) (eCons (eC (.str "UnknownKind")) (eCons (eC (.str "UnknownHouse")) (eCons (eC (.str "TooMany")) (eCons (eC (.str "BadCourse")) (eCons (eC (.str "BadTimes")) (eCons (eC (.str "BadNeeds")) (eCons (eC (.str "BadRows")) (eCons (eC (.str "BadCounts")) (eCons (eC (.str "BadMoves")) (eCons (eC (.str "BadSuspects")) (eCons (eC (.str "BadSigns")) (eCons (eC (.str "BadText")) (eCons (eC (.str "BadLine")) (eCons (eC (.str "NotPossible")) (eCons (eC (.str "NotAgreed")) (eCons (eC (.str "BadClaim")) (eCons (eC (.str "NothingDone")) eNil))))))))))))))))))))))
  (sSeq (sSet 2 (eLst (eCons (eIsX 0 (subT t_BadPlan)) (eCons (eIsX 0 (subT t_BadNumber)) (eCons (eIsX 0 (subT t_BadOrder)) (eCons (eIsX 0 (subT t_UnknownKind)) (eCons (eIsX 0 (subT t_UnknownHouse)) (eCons (eIsX 0 (subT t_TooMany)) (eCons (eIsX 0 (subT t_BadCourse)) (eCons (eIsX 0 (subT t_BadTimes)) (eCons (eIsX 0 (subT t_BadNeeds)) (eCons (eIsX 0 (subT t_BadRows)) (eCons (eIsX 0 (subT t_BadCounts)) (eCons (eIsX 0 (subT t_BadMoves)) (eCons (eIsX 0 (subT t_BadSuspects)) (eCons (eIsX 0 (subT t_BadSigns)) (eCons (eIsX 0 (subT t_BadText)) (eCons (eIsX 0 (subT t_BadLine)) (eCons (eIsX 0 (subT t_NotPossible)) (eCons (eIsX 0 (subT t_NotAgreed)) (eCons (eIsX 0 (subT t_BadClaim)) (eCons (eIsX 0 (subT t_NothingDone)) eNil))))))))))))))))))))))
  (sSeq (sIf (eOr (eB (eOp2 dNe (eLm dCount (eVar 2) (eC (.bl true))) (eC (.int 1)))) (eNot (eB (eIsX 0 (subT t_ValueError))))) (sRet (eTup (eCons (eC (.str "other")) eNil))) sNil)
  (sSeq (sSet 3 (eOp2 dIx (eVar 1) (eLm dIndex (eVar 2) (eC (.bl true)))))
  (sSeq (sIf (eB (eOp2 dEq (eVar 3) (eC (.str "BadPlan")))) (sRet (eTup (eCons (eVar 3) (eCons (eXf 0 "part") (eCons (eXf 0 "place") eNil))))) sNil)
  (sSeq (sIf (eB (eOp2 dIn (eVar 3) (eTup (eCons (eC (.str "BadNumber")) (eCons (eC (.str "BadOrder")) eNil))))) (sRet (eTup (eCons (eVar 3) (eCons (eXf 0 "value") eNil)))) sNil)
  (sSeq (sIf (eB (eOp2 dIn (eVar 3) (eTup (eCons (eC (.str "UnknownKind")) (eCons (eC (.str "UnknownHouse")) eNil))))) (sRet (eTup (eCons (eVar 3) (eCons (eXf 0 "name") eNil)))) sNil)
  (sSeq (sIf (eB (eOp2 dEq (eVar 3) (eC (.str "TooMany")))) (sRet (eTup (eCons (eVar 3) (eCons (eXf 0 "limit") eNil)))) sNil)
  (sSeq (sIf (eB (eOp2 dIn (eVar 3) (eTup (eCons (eC (.str "BadText")) (eCons (eC (.str "BadLine")) eNil))))) (sRet (eTup (eCons (eVar 3) (eCons (eXf 0 "line") eNil)))) sNil)
  (sSeq (sIf (eB (eOp2 dIn (eVar 3) (eTup (eCons (eC (.str "NotPossible")) (eCons (eC (.str "NotAgreed")) (eCons (eC (.str "BadClaim")) (eCons (eC (.str "NothingDone")) eNil))))))) (sRet (eTup (eCons (eVar 3) eNil))) sNil)
  (sRet (eTup (eCons (eVar 3) (eCons (eXf 0 "place") eNil))))))))))))))
noncomputable def dn__law_same : FD := dFn 2 2 (sRet (eOp2 dEqS (eOp1 dRepr (eVar 0)) (eOp1 dRepr (eVar 1))))
noncomputable def dn__law_alike : Nat → FD
  | 0 => fun _ _ => .stuck
  | n + 1 => dFn 2 3 (sSeq (sIf (eB (eOp1 (dIsi2 "tuple" "list") (eVar 1))) (sSeq (sIf (eOr (eNot (eB (eOp1 (dIsi2 "tuple" "list") (eVar 0)))) (eB (eOp2 dNe (eOp1 (dIsi "list") (eVar 0)) (eOp1 (dIsi "list") (eVar 1))))) (sRet (eC (.bl false))) sNil)
  (sSeq (sIf (eB (eOp2 dNe (eOp1 dLen (eVar 0)) (eOp1 dLen (eVar 1)))) (sRet (eC (.bl false))) sNil)
  (sRet (eOp2 dEq (ePure (eComp (iRange1 (eOp1 dLen (eVar 1))) (gN 2) (eNot (eB (eCall 2 (dn__law_alike n) (eCons (eOp2 dIx (eVar 0) (eVar 2)) (eCons (eOp2 dIx (eVar 1) (eVar 2)) eNil))))) (eVar 2) [2])) (eLst eNil))))) sNil)
  (sSeq (sIf (eOr (eB (eOp2 dIs (eVar 1) (eC .non))) (eB (eOp1 (dIsi "str") (eVar 1)))) (sRet (eAndV (eOp2 dEq (eVar 0) (eVar 1)) (eOp2 dEq (eOp1 (dIsi "str") (eVar 0)) (eOp1 (dIsi "str") (eVar 1))))) sNil)
  (sRet (eAndV (eOp1 (dIsi "int") (eVar 0)) (eAndV (eOp2 dEq (eOp1 (dIsi "bool") (eVar 0)) (eOp1 (dIsi "bool") (eVar 1))) (eOp2 dEq (eVar 0) (eVar 1)))))))
noncomputable def dn_is_row : FD := dFn 2 2 (sRet (eAndV (eOp1 (dIsi "tuple") (eVar 0)) (eOp2 dEq (eOp1 dLen (eVar 0)) (eVar 1))))
noncomputable def dn_used : FD := dFn 2 3 (sRet (eOp1 dLen (ePure (eComp (iSeq (eVar 0)) (gN 2) (eB (eOp2 dIn (eVar 1) (eVar 2))) (eVar 2) [2]))))
noncomputable def dn_is_schedule_s1 : SDen := (sExpr (eCall 3 dn_require_wear (eCons (eVar 0) (eCons (eVar 1) (eCons (eVar 2) eNil)))))
noncomputable def dn_is_schedule_s2 : SDen := (sRaise "BadNumber" 1 [("value", 0)] (eCons (eVar 3) eNil))
noncomputable def dn_is_schedule_s3 : SDen := (sIf (eNot (eB (eCall 3 dn_is_within (eCons (eVar 3) (eCons (eC (.int 0)) (eCons (eOp2 dMul (eC (.int 30)) (eC (.int 9))) eNil)))))) dn_is_schedule_s2 sNil)
noncomputable def dn_is_schedule_e1 : Den := (eCall 2 dn_is_row (eCons (eVar 5) (eCons (eVar 1) eNil)))
noncomputable def dn_is_schedule_s4 : SDen := (sIf (eOr (eNot (eB (eCall 2 dn_is_row (eCons (eVar 4) (eCons (eVar 0) eNil))))) (eNot (eB (eOp1 dAll (ePure (eComp (iSeq (eVar 4)) (gN 5) eYes dn_is_schedule_e1 [5])))))) (sRet (eC (.bl false))) sNil)
noncomputable def dn_is_schedule_e2 : Den := (eAndV (eCall 1 dn_is_whole (eCons (eVar 6) eNil)) (eChain dLe dLt (eC (.int 0)) (eVar 6) (eVar 3)))
noncomputable def dn_is_schedule_s5 : SDen := (sIf (eNot (eB (eOp1 dAll (ePure (eComp (iSeq (eVar 5)) (gN 6) eYes dn_is_schedule_e2 [6]))))) (sRet (eC (.bl false))) sNil)
noncomputable def dn_is_schedule_s6 : SDen := (sIf (eNot (eB (eOp1 dAll (ePure (eComp (iZip (eVar 5) (eCut (eVar 5) (eSo (eC (.int 1))) eNo)) (gT (gsCons (gN 6) (gsCons (gN 7) gsNil)) 2) eYes (eOp2 dLt (eVar 6) (eVar 7)) [6, 7]))))) (sRet (eC (.bl false))) sNil)
noncomputable def dn_is_schedule_b1 : SDen := (sSeq dn_is_schedule_s5
  dn_is_schedule_s6)
noncomputable def dn_is_schedule_s7 : SDen := (sFor (iSeq (eVar 4)) (gN 5) dn_is_schedule_b1)
noncomputable def dn_is_schedule_e3 : Den := (eOp2 dLe (eCall 2 dn_used (eCons (eVar 4) (eCons (eVar 6) eNil))) (eVar 2))
noncomputable def dn_is_schedule_s8 : SDen := (sRet (eOp1 dAll (ePure (eComp (iRange1 (eVar 3)) (gN 6) eYes dn_is_schedule_e3 [6]))))
noncomputable def dn_is_schedule : FD := dFn 5 8 (sSeq dn_is_schedule_s1
  (sSeq dn_is_schedule_s3
  (sSeq dn_is_schedule_s4
  (sSeq dn_is_schedule_s7
  dn_is_schedule_s8))))
noncomputable def dn_most_rounds : FD := dFn 3 4 (sSeq (sIf (eNot (eB (eCall 3 dn_is_within (eCons (eVar 0) (eCons (eC (.int 0)) (eCons (eOp2 dMul (eC (.int 30)) (eC (.int 9))) eNil)))))) (sRaise "BadNumber" 1 [("value", 0)] (eCons (eVar 0) eNil)) sNil)
  (sSeq (sExpr (eCall 3 dn_require_wear (eCons (eC (.int 0)) (eCons (eVar 1) (eCons (eVar 2) eNil)))))
  (sRet (eOp1 dMax (ePure (eComp (iRange1 (eOp2 dAdd (eC (.int 30)) (eC (.int 1)))) (gN 3) (eB (eOp2 dLe (eCall 3 dn_fewest (eCons (eVar 3) (eCons (eVar 1) (eCons (eVar 2) eNil)))) (eVar 0))) (eVar 3) [3]))))))
noncomputable def dn_needed_uses : FD := dFn 3 4 (sSeq (sExpr (eCall 3 dn_require_wear (eCons (eVar 0) (eCons (eVar 1) (eCons (eC (.int 1)) eNil)))))
  (sSeq (sIf (eNot (eB (eCall 3 dn_is_within (eCons (eVar 2) (eCons (eC (.int 0)) (eCons (eOp2 dMul (eC (.int 30)) (eC (.int 9))) eNil)))))) (sRaise "BadNumber" 1 [("value", 0)] (eCons (eVar 2) eNil)) sNil)
  (sSeq (sFor (iRange2 (eC (.int 1)) (eOp2 dAdd (eC (.int 30)) (eC (.int 1)))) (gN 3) (sIf (eB (eOp2 dLe (eCall 3 dn_fewest (eCons (eVar 0) (eCons (eVar 1) (eCons (eVar 3) eNil)))) (eVar 2))) (sRet (eVar 3)) sNil))
  (sRet (eC .non)))))
noncomputable def dn_uses_left : FD := dFn 3 5 (sSeq (sSet 3 (eCall 3 dn_schedule (eCons (eVar 0) (eCons (eVar 1) (eCons (eVar 2) eNil)))))
  (sRet (eOp1 dTuple (ePure (eComp (iRange1 (eCall 3 dn_fewest (eCons (eVar 0) (eCons (eVar 1) (eCons (eVar 2) eNil))))) (gN 4) eYes (eOp2 dSub (eVar 2) (eCall 2 dn_used (eCons (eVar 3) (eCons (eVar 4) eNil)))) [4])))))
noncomputable def dn_law_s1 : SDen := (sNew 1 (nLst (eCons (eVar 0) (eCons (eC (.int 0)) (eCons (eC (.int 5201)) (eCons (eC (.int 0)) eNil))))))
noncomputable def dn_law_s2 : SDen := (sPar [10, 11, 12] (aVal (eCallS 2 dn__law_taken (aRef 1 (aVal (eC (.int 9)) aNil))) (aVal (eCallS 2 dn__law_taken (aRef 1 (aVal (eC (.int 5)) aNil))) (aVal (eOp2 dAdd (eC (.int 1)) (eCallS 2 dn__law_taken (aRef 1 (aVal (eC (.int 5)) aNil)))) aNil))))
noncomputable def dn_law_s3 : SDen := (sSet 3 (eCall 3 dn_schedule (eCons (eVar 10) (eCons (eVar 11) (eCons (eVar 12) eNil)))))
noncomputable def dn_law_s4 : SDen := (sSet 4 (eCall 3 dn_fewest (eCons (eVar 10) (eCons (eVar 11) (eCons (eVar 12) eNil)))))
noncomputable def dn_law_s5 : SDen := (sSet 13 (eOpN dMax2 (eCons (eC (.int 0)) (eCons (eOp2 dAdd (eVar 4) (eCallS 2 dn__law_pick (aRef 1 (aVal (eLst (eCons (eC (.int 0)) (eCons (eC (.int 0)) (eCons (eC (.int 1)) (eCons (eC (.int 5)) (eCons (eOp1 dNeg (eC (.int 1))) eNil)))))) aNil)))) eNil))))
noncomputable def dn_law_e1 : Den := (eCallS 2 dn__law_taken (aRef 1 (aVal (eOpN dMax2 (eCons (eC (.int 1)) (eCons (eOp2 dAdd (eVar 13) (eOp1 dInt (eOp2 dEq (eVar 5) (eC (.int 4))))) eNil))) aNil)))
noncomputable def dn_law_s6 : SDen := (sSet 19 (ePure (eComp (iRange1 (eVar 11)) (gN 22) eYes dn_law_e1 [22])))
noncomputable def dn_law_s7 : SDen := (sSetIx 14 (eCallS 2 dn__law_taken (aRef 1 (aVal (eVar 10) aNil))) (eIf (eB (eOp2 dLt (eVar 5) (eC (.int 4)))) (eOp1 dTuple (eOp1 dSorted (eVar 19))) (eOp1 dTuple (eVar 19))))
noncomputable def dn_law_s8 : SDen := (sIf (eAnd (eB (eOp2 dGt (eVar 10) (eC (.int 0)))) (eB (eOp2 dGt (eVar 5) (eC (.int 1))))) (sSeq dn_law_s6
  dn_law_s7) sNil)
noncomputable def dn_law_s9 : SDen := (sPar [20, 9] (aNew (nRep (eLst (eCons (eC (.int 0)) eNil)) (eOp2 dAdd (eVar 13) (eC (.int 1)))) (aVal (eC (.bl true)) aNil)))
noncomputable def dn_law_t1 : DenB := (eB (eOp2 dGe (eOp2 dIx (eVar 15) (eVar 22)) (eOp2 dIx (eVar 15) (eOp2 dAdd (eVar 22) (eC (.int 1))))))
noncomputable def dn_law_s10 : SDen := (sSet 9 (eAndV (eVar 9) (eAndV (eOp2 dEq (ePure (eComp (iRange1 (eOp2 dSub (eVar 11) (eC (.int 1)))) (gN 22) dn_law_t1 (eVar 22) [22])) (eLst eNil)) (eOp2 dEq (ePure (eComp (iSeq (eVar 15)) (gN 21) (eB (eOp2 dGe (eVar 21) (eVar 13))) (eVar 21) [21])) (eLst eNil)))))
noncomputable def dn_law_s11 : SDen := (sSetIx 20 (eOpN dMin2 (eCons (eVar 13) (eCons (eVar 21) eNil))) (eOp2 dAdd (eOp2P dIx 20 (eOpN dMin2 (eCons (eVar 13) (eCons (eVar 21) eNil)))) (eC (.int 1))))
noncomputable def dn_law_s12 : SDen := (sFor (iSeq (eVar 15)) (gN 21) dn_law_s11)
noncomputable def dn_law_s13 : SDen := (sFor (iSeq (eVar 14)) (gN 15) (sSeq dn_law_s10
  dn_law_s12))
noncomputable def dn_law_s14 : SDen := (sSet 9 (eAndV (eVar 9) (eOp2 dEq (ePure (eComp (iSeq (eCut (eVar 20) eNo (eSo (eVar 13)))) (gN 15) (eB (eOp2 dGt (eVar 15) (eVar 12))) (eVar 15) [15])) (eLst eNil))))
noncomputable def dn_law_s15 : SDen := (sIf (eNot (eB (eCall 2 (dn__law_alike 10) (eCons (eCall 5 dn_is_schedule (eCons (eVar 10) (eCons (eVar 11) (eCons (eVar 12) (eCons (eVar 13) (eCons (eOp1 dTuple (eVarB 14)) eNil)))))) (eCons (eVar 9) eNil))))) (sRet (eC (.bl false))) sNil)
noncomputable def dn_law_b1 : SDen := (sSeq dn_law_s5
  (sSeq (sNew 14 (nOf lstO (eVar 3)))
  (sSeq dn_law_s8
  (sSeq dn_law_s9
  (sSeq dn_law_s13
  (sSeq dn_law_s14
  dn_law_s15))))))
noncomputable def dn_law_s16 : SDen := (sFor (iRange1 (eC (.int 5))) (gN 5) dn_law_b1)
noncomputable def dn_law_s17 : SDen := (sSet 6 (eLst (eCons (eOp1 dList (eVar 3)) (eCons (eOp2 dAdd (eVar 3) (eTup (eCons (eTup eNil) eNil))) (eCons (eC .non) (eCons (eCallS 1 dn__law_odd (aRef 1 aNil)) eNil))))))
noncomputable def dn_law_s18 : SDen := (sSet 6 (eOp2 dAdd (eVar 6) (eLst (eCons (eIf (eB (eOp2 dGt (eOp2 dMul (eVar 11) (eVar 10)) (eC (.int 0)))) (eOp2 dMul (eTup (eCons (eOp2 dMul (eTup (eCons (eC .non) eNil)) (eVar 11)) eNil)) (eVar 10)) (eC (.int 1))) (eCons (eIf (eB (eOp2 dGt (eVar 10) (eC (.int 0)))) (eOp1 dTuple (ePure (eComp (iSeq (eVar 3)) (gN 15) eYes (eOp1 dList (eVar 15)) [15]))) (eC (.int 1))) eNil)))))
noncomputable def dn_law_s19 : SDen := (sSet 6 (eOp2 dAdd (eVar 6) (eLst (eCons (eIf (eB (eOp2 dGt (eOp2 dMul (eVar 11) (eVar 10)) (eC (.int 0)))) (eOp2 dAdd (eTup (eCons (eOp2 dAdd (eTup (eCons (eOp1 dNeg (eC (.int 1))) eNil)) (eCut (eOp2 dIx (eVar 3) (eC (.int 0))) (eSo (eC (.int 1))) eNo)) eNil)) (eCut (eVar 3) (eSo (eC (.int 1))) eNo)) (eC (.int 1))) eNil))))
noncomputable def dn_law_t2 : DenB := (eB (eCall 5 dn_is_schedule (eCons (eVar 10) (eCons (eVar 11) (eCons (eVar 12) (eCons (eVar 4) (eCons (eVar 15) eNil)))))))
noncomputable def dn_law_s20 : SDen := (sIf (eB (eOp2 dNe (ePure (eComp (iSeq (eVar 6)) (gN 15) dn_law_t2 (eVar 15) [15])) (eLst eNil))) (sRet (eC (.bl false))) sNil)
noncomputable def dn_law_s21 : SDen := (sPar [16, 17, 18] (aVal (eCallS 2 dn__law_pick (aRef 1 (aVal (eLst (eCons (eOp1 dNeg (eC (.int 1))) (eCons (eC (.int 31)) (eCons (eC .non) (eCons (eC (.bl true)) eNil))))) aNil))) (aVal (eCallS 2 dn__law_pick (aRef 1 (aVal (eLst (eCons (eOp1 dNeg (eC (.int 1))) (eCons (eC (.int 10)) (eCons (eC .non) (eCons (eC (.str "1")) eNil))))) aNil))) (aVal (eCallS 2 dn__law_pick (aRef 1 (aVal (eLst (eCons (eC (.int 0)) (eCons (eC (.int 31)) (eCons (eC .non) (eCons (eC (.bl true)) eNil))))) aNil))) aNil))))
noncomputable def dn_law_s22 : SDen := (sSet 7 (eCallS 2 dn__law_pick (aRef 1 (aVal (eLst (eCons (eOp1 dNeg (eC (.int 1))) (eCons (eC (.int 271)) (eCons (eC .non) (eCons (eC (.bl true)) eNil))))) aNil))))
noncomputable def dn_law_s23 : SDen := (sSet 8 (eLst (eCons (eTold "told" (fun _ => some true) dn__law_refusal [] (eCall 3 dn_fewest (eCons (eVar 16) (eCons (eOp1 dNeg (eC (.int 1))) (eCons (eC (.int 0)) eNil))))) (eCons (eTold "told" (fun _ => some true) dn__law_refusal [.int 0] (eCall 3 dn_schedule (eCons (eC (.int 1)) (eCons (eVar 17) (eCons (eC (.int 0)) eNil))))) (eCons (eTold "told" (fun _ => some true) dn__law_refusal [.int 0] (eCall 5 dn_is_schedule (eCons (eC (.int 1)) (eCons (eC (.int 1)) (eCons (eVar 18) (eCons (eOp1 dNeg (eC (.int 1))) (eCons (eC (.int 1)) eNil))))))) (eCons (eTold "told" (fun _ => some true) dn__law_refusal [.int 0] (eCall 5 dn_is_schedule (eCons (eC (.int 1)) (eCons (eC (.int 1)) (eCons (eC (.int 1)) (eCons (eVar 7) (eCons (eC (.int 1)) eNil))))))) eNil))))))
noncomputable def dn_law_s24 : SDen := (sSet 8 (eOp2 dAdd (eVar 8) (eLst (eCons (eTold "told" (fun _ => some true) dn__law_refusal [] (eCall 3 dn_most_rounds (eCons (eVar 7) (eCons (eOp1 dNeg (eC (.int 1))) (eCons (eC (.int 0)) eNil))))) (eCons (eTold "told" (fun _ => some true) dn__law_refusal [.int 0] (eCall 3 dn_most_rounds (eCons (eC (.int 1)) (eCons (eVar 17) (eCons (eC (.int 0)) eNil))))) eNil)))))
noncomputable def dn_law_s25 : SDen := (sSet 8 (eOp2 dAdd (eVar 8) (eLst (eCons (eTold "told" (fun _ => some true) dn__law_refusal [.int 0] (eCall 3 dn_needed_uses (eCons (eVar 16) (eCons (eOp1 dNeg (eC (.int 1))) (eCons (eOp1 dNeg (eC (.int 1))) eNil))))) (eCons (eTold "told" (fun _ => some true) dn__law_refusal [.int 0] (eCall 3 dn_needed_uses (eCons (eC (.int 1)) (eCons (eC (.int 1)) (eCons (eVar 7) eNil))))) eNil)))))
noncomputable def dn_law_s26 : SDen := (sSet 9 (eLst (eCons (eTup (eCons (eC (.str "BadNumber")) (eCons (eVar 16) eNil))) (eCons (eTup (eCons (eC (.str "BadNumber")) (eCons (eVar 17) eNil))) (eCons (eTup (eCons (eC (.str "BadNumber")) (eCons (eVar 18) eNil))) (eCons (eTup (eCons (eC (.str "BadNumber")) (eCons (eVar 7) eNil))) (eCons (eTup (eCons (eC (.str "BadNumber")) (eCons (eVar 7) eNil))) (eCons (eTup (eCons (eC (.str "BadNumber")) (eCons (eVar 17) eNil))) (eCons (eTup (eCons (eC (.str "BadNumber")) (eCons (eVar 16) eNil))) (eCons (eTup (eCons (eC (.str "BadNumber")) (eCons (eVar 7) eNil))) eNil))))))))))
noncomputable def dn_law_s27 : SDen := (sIf (eNot (eB (eCall 2 dn__law_same (eCons (eOp2 dAdd (eVar 8) (eLst (eCons (eTold "told" (fun _ => some true) dn__law_refusal [] (eCall 3 dn_uses_left (eCons (eC (.int 1)) (eCons (eC (.int 1)) (eCons (eVar 18) eNil))))) eNil))) (eCons (eOp2 dAdd (eVar 9) (eLst (eCons (eTup (eCons (eC (.str "BadNumber")) (eCons (eVar 18) eNil))) eNil))) eNil))))) (sRet (eC (.bl false))) sNil)
noncomputable def dn_law_b2 : SDen := (sSeq dn_law_s2
  (sSeq dn_law_s3
  (sSeq dn_law_s4
  (sSeq dn_law_s16
  (sSeq dn_law_s17
  (sSeq dn_law_s18
  (sSeq dn_law_s19
  (sSeq dn_law_s20
  (sSeq dn_law_s21
  (sSeq dn_law_s22
  (sSeq dn_law_s23
  (sSeq dn_law_s24
  (sSeq dn_law_s25
  (sSeq dn_law_s26
  dn_law_s27))))))))))))))
noncomputable def dn_law_s28 : SDen := (sFor (iRange1 (eC (.int 5))) (gN 2) dn_law_b2)
noncomputable def dn_law : FD := dFn 1 23 (sSeq dn_law_s1
  (sSeq dn_law_s28
  (sRet (eC (.bl true)))))
structure Facts (K : PySem.W.Frag) (mg : Str → Option Value) : Prop where
  n_ValueError : mg "ValueError" = none
  n_all : mg "all" = none
  n_bool : mg "bool" = none
  n_int : mg "int" = none
  n_isinstance : mg "isinstance" = none
  n_len : mg "len" = none
  n_list : mg "list" = none
  n_max : mg "max" = none
  n_min : mg "min" = none
  n_range : mg "range" = none
  n_repr : mg "repr" = none
  n_sorted : mg "sorted" = none
  n_str : mg "str" = none
  n_tuple : mg "tuple" = none
  n_zip : mg "zip" = none
  g_MOST_ROUNDS : ∃ t, mg "MOST_ROUNDS" = some (.int 30 t)
  g_MOST_USES : ∃ t, mg "MOST_USES" = some (.int 30 t)
  g_MOST_WANTED : ∃ t, mg "MOST_WANTED" = some (.int 9 t)
structure FactsX (P : Program) (w : World) (K : PySem.W.Frag) (mg : Str → Option Value) (base : Heap) (G : Wd) : Prop where
  xc : XCls G K
  i_NothingDone : ∃ C, mg "NothingDone" = some (.ref C) ∧ ∀ c C1 b, G.cls c = some C1 → subT t_NothingDone c = some b → PySem.W.kitOne K (.ref C1) (.ref C) = some b
  i_BadClaim : ∃ C, mg "BadClaim" = some (.ref C) ∧ ∀ c C1 b, G.cls c = some C1 → subT t_BadClaim c = some b → PySem.W.kitOne K (.ref C1) (.ref C) = some b
  i_NotAgreed : ∃ C, mg "NotAgreed" = some (.ref C) ∧ ∀ c C1 b, G.cls c = some C1 → subT t_NotAgreed c = some b → PySem.W.kitOne K (.ref C1) (.ref C) = some b
  i_NotPossible : ∃ C, mg "NotPossible" = some (.ref C) ∧ ∀ c C1 b, G.cls c = some C1 → subT t_NotPossible c = some b → PySem.W.kitOne K (.ref C1) (.ref C) = some b
  i_BadLine : ∃ C, mg "BadLine" = some (.ref C) ∧ ∀ c C1 b, G.cls c = some C1 → subT t_BadLine c = some b → PySem.W.kitOne K (.ref C1) (.ref C) = some b
  i_BadText : ∃ C, mg "BadText" = some (.ref C) ∧ ∀ c C1 b, G.cls c = some C1 → subT t_BadText c = some b → PySem.W.kitOne K (.ref C1) (.ref C) = some b
  i_BadSigns : ∃ C, mg "BadSigns" = some (.ref C) ∧ ∀ c C1 b, G.cls c = some C1 → subT t_BadSigns c = some b → PySem.W.kitOne K (.ref C1) (.ref C) = some b
  i_BadSuspects : ∃ C, mg "BadSuspects" = some (.ref C) ∧ ∀ c C1 b, G.cls c = some C1 → subT t_BadSuspects c = some b → PySem.W.kitOne K (.ref C1) (.ref C) = some b
  i_BadMoves : ∃ C, mg "BadMoves" = some (.ref C) ∧ ∀ c C1 b, G.cls c = some C1 → subT t_BadMoves c = some b → PySem.W.kitOne K (.ref C1) (.ref C) = some b
  i_BadCounts : ∃ C, mg "BadCounts" = some (.ref C) ∧ ∀ c C1 b, G.cls c = some C1 → subT t_BadCounts c = some b → PySem.W.kitOne K (.ref C1) (.ref C) = some b
  i_BadRows : ∃ C, mg "BadRows" = some (.ref C) ∧ ∀ c C1 b, G.cls c = some C1 → subT t_BadRows c = some b → PySem.W.kitOne K (.ref C1) (.ref C) = some b
  i_BadNeeds : ∃ C, mg "BadNeeds" = some (.ref C) ∧ ∀ c C1 b, G.cls c = some C1 → subT t_BadNeeds c = some b → PySem.W.kitOne K (.ref C1) (.ref C) = some b
  i_BadTimes : ∃ C, mg "BadTimes" = some (.ref C) ∧ ∀ c C1 b, G.cls c = some C1 → subT t_BadTimes c = some b → PySem.W.kitOne K (.ref C1) (.ref C) = some b
  i_BadCourse : ∃ C, mg "BadCourse" = some (.ref C) ∧ ∀ c C1 b, G.cls c = some C1 → subT t_BadCourse c = some b → PySem.W.kitOne K (.ref C1) (.ref C) = some b
  i_TooMany : ∃ C, mg "TooMany" = some (.ref C) ∧ ∀ c C1 b, G.cls c = some C1 → subT t_TooMany c = some b → PySem.W.kitOne K (.ref C1) (.ref C) = some b
  i_UnknownHouse : ∃ C, mg "UnknownHouse" = some (.ref C) ∧ ∀ c C1 b, G.cls c = some C1 → subT t_UnknownHouse c = some b → PySem.W.kitOne K (.ref C1) (.ref C) = some b
  i_UnknownKind : ∃ C, mg "UnknownKind" = some (.ref C) ∧ ∀ c C1 b, G.cls c = some C1 → subT t_UnknownKind c = some b → PySem.W.kitOne K (.ref C1) (.ref C) = some b
  i_BadOrder : ∃ C, mg "BadOrder" = some (.ref C) ∧ ∀ c C1 b, G.cls c = some C1 → subT t_BadOrder c = some b → PySem.W.kitOne K (.ref C1) (.ref C) = some b
  i_BadNumber : ∃ C, mg "BadNumber" = some (.ref C) ∧ ∀ c C1 b, G.cls c = some C1 → subT t_BadNumber c = some b → PySem.W.kitOne K (.ref C1) (.ref C) = some b
  i_BadPlan : ∃ C, mg "BadPlan" = some (.ref C) ∧ ∀ c C1 b, G.cls c = some C1 → subT t_BadPlan c = some b → PySem.W.kitOne K (.ref C1) (.ref C) = some b
  i_ValueError : ∀ c C1 b, G.cls c = some C1 → subT t_ValueError c = some b → PySem.W.kitOne K (.ref C1) (.type "ValueError") = some b
  f_limit : ∀ c C, G.cls c = some C → PySem.W.findIn K (.ref C) "limit" = some none
  f_line : ∀ c C, G.cls c = some C → PySem.W.findIn K (.ref C) "line" = some none
  f_name : ∀ c C, G.cls c = some C → PySem.W.findIn K (.ref C) "name" = some none
  f_part : ∀ c C, G.cls c = some C → PySem.W.findIn K (.ref C) "part" = some none
  f_place : ∀ c C, G.cls c = some C → PySem.W.findIn K (.ref C) "place" = some none
  f_value : ∀ c C, G.cls c = some C → PySem.W.findIn K (.ref C) "value" = some none
  r_BadNumber : MExc P w K mg base G 1 "BadNumber" 1 [("value", 0)]
section
variable {P : Program} {w : World} {K : PySem.W.Frag} {mg : Str → Option Value} {base : Heap} {G : Wd}
abbrev s_BadNumber : Stmt := inS 7 0
theorem x_BadNumber {C fI cc cda : Addr} (F : SupK P K mg C fI cc cda "BadNumber.__init__" s_BadNumber ["value"]) (hm : mg "BadNumber" = some (.ref C)) (hG : G.cls "BadNumber" = some C) : MExc P w K mg base G 1 "BadNumber" 1 [("value", 0)] :=
  mexc1 F hm hG rfl (NdefX.nscope_by (by decide +kernel)) rfl rfl rfl (fun _ _ _ _ _ us hl => match us, hl with | [_, _], _ => rfl) (fun env => rfl) (fun env h => by unfold interactive; rw [h]; rfl) (fun env h => by obtain ⟨⟩ := env; cases h; rfl) (by decide) (by decide)
abbrev s_is_whole : Stmt := topS 1
theorem sc_is_whole : FnScope ["value"] ["value"] (defScope s_is_whole) := ⟨rfl, rfl, rfl, by decide +kernel, rfl, by decide +kernel, by decide +kernel⟩
theorem ok_is_whole (T : Facts K mg) (XF : FactsX P w K mg base G) (hK : G.K = K) {fa : Addr} {fd : FuncData} (F : Fun K "is_whole" "is_whole" s_is_whole fa fd) (hm : mg "is_whole" = some (.ref fa)) (b : Binds K fd ["value"] [])  : MCal P w K mg base G 1 "is_whole" 1 dn_is_whole := by
  have sc := sc_is_whole
  exact cal_M F (fn_M (k := 0) F sc rfl (by decide) fun cdv A outer sh H E hr tk hp =>
      (mss_one (ms_ret (me_and (me_isi hK T.n_isinstance (by decide +kernel) T.n_int (mv_of (me_var 0 (pv 0)))) (me_one (me_not (me_isi hK T.n_isinstance (by decide +kernel) T.n_bool (mv_of (me_var 0 (pv 0)))))))))) hm b
abbrev s_is_within : Stmt := topS 2
theorem sc_is_within : FnScope ["value", "least", "most"] ["value", "least", "most"] (defScope s_is_within) := ⟨rfl, rfl, rfl, by decide +kernel, rfl, by decide +kernel, by decide +kernel⟩
theorem ok_is_within (T : Facts K mg) (XF : FactsX P w K mg base G) (hK : G.K = K) {fa : Addr} {fd : FuncData} (F : Fun K "is_within" "is_within" s_is_within fa fd) (hm : mg "is_within" = some (.ref fa)) (b : Binds K fd ["value", "least", "most"] []) (c_is_whole : MCal P w K mg base G 1 "is_whole" 1 dn_is_whole) : MCal P w K mg base G 2 "is_within" 3 dn_is_within := by
  have sc := sc_is_within
  exact cal_M F (fn_M (k := 1) F sc rfl (by decide) fun cdv A outer sh H E hr tk hp =>
      (mss_one (ms_ret (me_and (me_call c_is_whole (hr.mono (by omega)) tk (ma_cons (me_var 0 (pv 0)) ma_nil)) (me_one (me_chain op_le op_le sim_le sim_le (me_var 1 (pv 1)) (me_var 0 (pv 0)) (me_var 2 (pv 2)))))))) hm b
abbrev s_require_wear : Stmt := topS 30
theorem sc_require_wear : FnScope ["rounds", "wanted", "uses"] ["rounds", "wanted", "uses"] (defScope s_require_wear) := ⟨rfl, rfl, rfl, by decide +kernel, rfl, by decide +kernel, by decide +kernel⟩
theorem ok_require_wear (T : Facts K mg) (XF : FactsX P w K mg base G) (hK : G.K = K) {fa : Addr} {fd : FuncData} (F : Fun K "require_wear" "require_wear" s_require_wear fa fd) (hm : mg "require_wear" = some (.ref fa)) (b : Binds K fd ["rounds", "wanted", "uses"] []) (c_is_within : MCal P w K mg base G 2 "is_within" 3 dn_is_within) : MCal P w K mg base G 3 "require_wear" 3 dn_require_wear := by
  obtain ⟨_, g_MOST_ROUNDS⟩ := T.g_MOST_ROUNDS
  obtain ⟨_, g_MOST_USES⟩ := T.g_MOST_USES
  obtain ⟨_, g_MOST_WANTED⟩ := T.g_MOST_WANTED
  have sc := sc_require_wear
  exact cal_M F (fn_M (k := 2) F sc rfl (by decide) fun cdv A outer sh H E hr tk hp =>
      (mss_cons (ms_if (mt_not (mt_val (me_call c_is_within (hr.mono (by omega)) tk (ma_cons (me_var 0 (pv 0)) (ma_cons me_int (ma_cons (me_gint g_MOST_ROUNDS) ma_nil)))))) (mss_one (ms_raise rfl XF.r_BadNumber (hr.mono (by omega)) tk (ma_cons (me_var 0 (pv 0)) ma_nil))) mss_nil)
      (mss_cons (ms_if (mt_not (mt_val (me_call c_is_within (hr.mono (by omega)) tk (ma_cons (me_var 1 (pv 1)) (ma_cons me_int (ma_cons (me_gint g_MOST_WANTED) ma_nil)))))) (mss_one (ms_raise rfl XF.r_BadNumber (hr.mono (by omega)) tk (ma_cons (me_var 1 (pv 1)) ma_nil))) mss_nil)
      (mss_one (ms_if (mt_not (mt_val (me_call c_is_within (hr.mono (by omega)) tk (ma_cons (me_var 2 (pv 2)) (ma_cons me_int (ma_cons (me_gint g_MOST_USES) ma_nil)))))) (mss_one (ms_raise rfl XF.r_BadNumber (hr.mono (by omega)) tk (ma_cons (me_var 2 (pv 2)) ma_nil))) mss_nil))))) hm b
abbrev s_fewest : Stmt := topS 31
theorem sc_fewest : FnScope ["rounds", "wanted", "uses"] ["rounds", "wanted", "uses"] (defScope s_fewest) := ⟨rfl, rfl, rfl, by decide +kernel, rfl, by decide +kernel, by decide +kernel⟩
theorem ok_fewest (T : Facts K mg) (XF : FactsX P w K mg base G) (hK : G.K = K) {fa : Addr} {fd : FuncData} (F : Fun K "fewest" "fewest" s_fewest fa fd) (hm : mg "fewest" = some (.ref fa)) (b : Binds K fd ["rounds", "wanted", "uses"] []) (c_require_wear : MCal P w K mg base G 3 "require_wear" 3 dn_require_wear) : MCal P w K mg base G 4 "fewest" 3 dn_fewest := by
  have sc := sc_fewest
  exact cal_M F (fn_M (k := 3) F sc rfl (by decide) fun cdv A outer sh H E hr tk hp =>
      (mss_cons (ms_expr (me_call c_require_wear (hr.mono (by omega)) tk (ma_cons (me_var 0 (pv 0)) (ma_cons (me_var 1 (pv 1)) (ma_cons (me_var 2 (pv 2)) ma_nil)))))
      (mss_cons (ms_if (mt_cmp (op_eqD (hu64 hr)) (sim_eq hK) (me_var 0 (pv 0)) (mv_of me_int) (nomark _)) (mss_one (ms_ret me_int)) mss_nil)
      (mss_one (ms_ret (me_biN (call_max2 rfl) sim_max2 (by decide +kernel) T.n_max (ma_cons (me_var 1 (pv 1)) (ma_cons (me_bin op_fdiv sim_fdiv (me_bin op_sub sim_sub (me_bin op_addM (sim_add hK) (me_bin op_mulM (sim_mul hK) (me_var 0 (pv 0)) (mv_of (me_var 1 (pv 1)))) (mv_of (me_var 2 (pv 2)))) (mv_of me_int)) (mv_of (me_var 2 (pv 2)))) ma_nil)))))))) hm b
abbrev s_schedule : Stmt := topS 32
theorem sc_schedule : FnScope ["rounds", "wanted", "uses", "many", "found", "turn", "place"] ["rounds", "wanted", "uses"] (defScope s_schedule) := ⟨rfl, rfl, rfl, by decide +kernel, rfl, by decide +kernel, by decide +kernel⟩
theorem ok_schedule (T : Facts K mg) (XF : FactsX P w K mg base G) (hK : G.K = K) {fa : Addr} {fd : FuncData} (F : Fun K "schedule" "schedule" s_schedule fa fd) (hm : mg "schedule" = some (.ref fa)) (b : Binds K fd ["rounds", "wanted", "uses"] []) (c_fewest : MCal P w K mg base G 4 "fewest" 3 dn_fewest) : MCal P w K mg base G 5 "schedule" 3 dn_schedule := by
  have sc := sc_schedule
  exact cal_M F (fn_M (k := 4) F sc rfl (by decide) fun cdv A outer sh H E hr tk hp =>
      (mss_cons (ms_set 3 sc.nd (me_call c_fewest (hr.mono (by omega)) tk (ma_cons (me_var 0 (pv 0)) (ma_cons (me_var 1 (pv 1)) (ma_cons (me_var 2 (pv 2)) ma_nil)))))
      (mss_cons (ms_new 4 sc.nd (mn_lst ma_nil))
      (mss_cons (ms_for (vs := [5]) hp rfl (mi_range1 T.n_range (me_var 0 (pv 0))) (mg_name 5 sc.nd) (mss_one (ms_app (pv 4) (me_ty1 (call_tuple_of) (sim_tuple hK) (by decide +kernel) T.n_tuple (mv_of (me_bi1 (cr_sortedI) sim_sorted (by decide +kernel) T.n_sorted (mv_of (me_own (mn_comp (own := [("place", 6)]) rfl sc.nd (mi_range1 T.n_range (me_var 1 (pv 1))) (blkOk_by (by kernel_rfl)) (gsim_name 6) (fun _ _ _ _ _ => (pg_name (i := 6) sc.nd rfl (by first | exact .inl rfl | exact .inr rfl))) (fun _ _ _ _ _ => mts_nil) (fun _ _ _ _ _ => (me_bin op_mod sim_mod (me_bin op_addM (sim_add hK) (me_bin op_mulM (sim_mul hK) (me_var 5 (pv 5)) (mv_of (me_var 1 (pv 1)))) (mv_of (me_var 6 (pv 6)))) (mv_of (me_var 3 (pv 3))))))))))))))
      (mss_one (ms_ret (me_ty1 (call_tuple_of) (sim_tuple hK) (by decide +kernel) T.n_tuple (mv_var 4 (pv 4))))))))) hm b
abbrev s__law_taken : Stmt := topS 39
theorem sc__law_taken : FnScope ["row", "many", "cell", "found"] ["row", "many"] (defScope s__law_taken) := ⟨rfl, rfl, rfl, by decide +kernel, rfl, by decide +kernel, by decide +kernel⟩
theorem ok__law_taken (T : Facts K mg) (XF : FactsX P w K mg base G) (hK : G.K = K) {fa : Addr} {fd : FuncData} (F : Fun K "_law_taken" "_law_taken" s__law_taken fa fd) (hm : mg "_law_taken" = some (.ref fa)) (b : Binds K fd ["row", "many"] [])  : MCal P w K mg base G 1 "_law_taken" 2 dn__law_taken := by
  have sc := sc__law_taken
  exact cal_M F (fn_M (k := 0) F sc rfl (by decide) fun cdv A outer sh H E hr tk hp =>
      (mss_cons (ms_if (mt_cmp op_gt sim_gt (me_ixP ix_seq (sim_ix hK) (pv 0) (mv_of me_int) (fun _ _ => rfl)) (mv_of me_int) (nomark _)) (mss_cons (ms_set 3 sc.nd (me_bin op_mod sim_mod (me_ty1 (call_int1) sim_int (by decide +kernel) T.n_int (mv_of (me_ixP ix_seq (sim_ix hK) (pv 0) (mv_of me_int) (fun _ _ => rfl)))) (mv_of (me_var 1 (pv 1)))))
      (mss_cons (ms_setix (pv 0) me_int (me_bin op_fdiv sim_fdiv (me_ixP ix_seq (sim_ix hK) (pv 0) (mv_of me_int) (fun _ _ => rfl)) (mv_of (me_var 1 (pv 1)))))
      (mss_one (ms_ret (me_var 3 (pv 3)))))) mss_nil)
      (mss_cons (ms_setix (pv 0) me_int (me_bin op_addM (sim_add hK) (me_ixP ix_seq (sim_ix hK) (pv 0) (mv_of me_int) (fun _ _ => rfl)) (mv_of me_int)))
      (mss_cons (ms_if (mt_cmp op_gt sim_gt (me_ixP ix_seq (sim_ix hK) (pv 0) (mv_of me_int) (fun _ _ => rfl)) (mv_of (me_bi1 (cr_lenM) (sim_len hK) (by decide +kernel) T.n_len (mv_of (me_ixP ix_seq (sim_ix hK) (pv 0) (mv_of me_int) (fun _ _ => rfl))))) (nomark _)) (mss_cons (ms_setix (pv 0) me_int (me_bin op_mod sim_mod (me_ty1 (call_int1) sim_int (by decide +kernel) T.n_int (mv_of (me_bin op_addM (sim_add hK) (me_bin op_mulM (sim_mul hK) (me_ixP ix_seq (sim_ix hK) (pv 0) (mv_of me_int) (fun _ _ => rfl)) (mv_of me_int)) (mv_of me_int)))) (mv_of me_int)))
      (mss_one (ms_ret (me_bin op_mod sim_mod (me_ty1 (call_int1) sim_int (by decide +kernel) T.n_int (mv_of (me_bin op_fdiv sim_fdiv (me_ixP ix_seq (sim_ix hK) (pv 0) (mv_of me_int) (fun _ _ => rfl)) (mv_of me_int)))) (mv_of (me_var 1 (pv 1))))))) mss_nil)
      (mss_cons (ms_set 2 sc.nd (me_ix ix_seq (sim_ix hK) (me_ixP ix_seq (sim_ix hK) (pv 0) (mv_of me_int) (fun _ _ => rfl)) (mv_of (me_bin op_sub sim_sub (me_ixP ix_seq (sim_ix hK) (pv 0) (mv_of me_int) (fun _ _ => rfl)) (mv_of me_int))) (fun _ _ => rfl)))
      (mss_cons (ms_setix (pv 0) me_int (me_bin op_mod sim_mod (me_ty1 (call_int1) sim_int (by decide +kernel) T.n_int (mv_of (me_bin op_addM (sim_add hK) (me_bin op_addM (sim_add hK) (me_bin op_mulM (sim_mul hK) (me_ixP ix_seq (sim_ix hK) (pv 0) (mv_of me_int) (fun _ _ => rfl)) (mv_of me_int)) (mv_of (me_var 2 (pv 2)))) (mv_of me_int)))) (mv_of me_int)))
      (mss_cons (ms_if (mt_cmp op_ge sim_ge (me_var 2 (pv 2)) (mv_of (me_bin op_pow sim_pow me_int (mv_of me_int))) (nomark _)) (mss_cons (ms_setix (pv 0) me_int (me_bin op_fdiv sim_fdiv (me_var 2 (pv 2)) (mv_of (me_var 1 (pv 1)))))
      (mss_one (ms_ret (me_bin op_mod sim_mod (me_ty1 (call_int1) sim_int (by decide +kernel) T.n_int (mv_of (me_var 2 (pv 2)))) (mv_of (me_var 1 (pv 1))))))) mss_nil)
      (mss_one (ms_ret (me_bin op_mod sim_mod (me_ty1 (call_int1) sim_int (by decide +kernel) T.n_int (mv_of (me_bin op_addM (sim_add hK) (me_bin op_mulM (sim_mul hK) (me_bin op_mod sim_mod (me_ty1 (call_int1) sim_int (by decide +kernel) T.n_int (mv_of (me_var 2 (pv 2)))) (mv_of me_int)) (mv_of me_int)) (mv_of (me_bin op_fdiv sim_fdiv (me_ixP ix_seq (sim_ix hK) (pv 0) (mv_of me_int) (fun _ _ => rfl)) (mv_of me_int)))))) (mv_of (me_var 1 (pv 1))))))))))))) hm b
abbrev s__law_pick : Stmt := topS 40
theorem sc__law_pick : FnScope ["row", "things"] ["row", "things"] (defScope s__law_pick) := ⟨rfl, rfl, rfl, by decide +kernel, rfl, by decide +kernel, by decide +kernel⟩
theorem ok__law_pick (T : Facts K mg) (XF : FactsX P w K mg base G) (hK : G.K = K) {fa : Addr} {fd : FuncData} (F : Fun K "_law_pick" "_law_pick" s__law_pick fa fd) (hm : mg "_law_pick" = some (.ref fa)) (b : Binds K fd ["row", "things"] []) (c__law_taken : MCal P w K mg base G 1 "_law_taken" 2 dn__law_taken) : MCal P w K mg base G 2 "_law_pick" 2 dn__law_pick := by
  have sc := sc__law_pick
  exact cal_M F (fn_M (k := 1) F sc rfl (by decide) fun cdv A outer sh H E hr tk hp =>
      (mss_one (ms_ret (me_ix ix_seq (sim_ix hK) (me_var 1 (pv 1)) (mv_of (me_callS c__law_taken (hr.mono (by omega)) tk (mas_ref (pv 0) (mas_val (me_bi1 (cr_lenM) (sim_len hK) (by decide +kernel) T.n_len (mv_of (me_var 1 (pv 1)))) mas_nil)))) (fun _ _ => rfl))))) hm b
abbrev s__law_odd : Stmt := topS 43
theorem sc__law_odd : FnScope ["row", "odd"] ["row"] (defScope s__law_odd) := ⟨rfl, rfl, rfl, by decide +kernel, rfl, by decide +kernel, by decide +kernel⟩
theorem ok__law_odd (T : Facts K mg) (XF : FactsX P w K mg base G) (hK : G.K = K) {fa : Addr} {fd : FuncData} (F : Fun K "_law_odd" "_law_odd" s__law_odd fa fd) (hm : mg "_law_odd" = some (.ref fa)) (b : Binds K fd ["row"] []) (c__law_pick : MCal P w K mg base G 2 "_law_pick" 2 dn__law_pick) : MCal P w K mg base G 3 "_law_odd" 1 dn__law_odd := by
  have sc := sc__law_odd
  exact cal_M F (fn_M (k := 2) F sc rfl (by decide) fun cdv A outer sh H E hr tk hp =>
      (mss_cons (ms_set 1 sc.nd (me_lst (ma_cons me_non (ma_cons me_bl (ma_cons me_bl (ma_cons (me_un un_neg sim_neg (mv_of me_int)) (ma_cons (me_bin op_pow sim_pow me_int (mv_of me_int)) (ma_cons me_str (ma_cons me_str (ma_cons me_str (ma_cons me_str (ma_cons (me_lst ma_nil) (ma_cons (me_lst (ma_cons me_int ma_nil)) (ma_cons me_dic0 (ma_cons me_dic1 (ma_cons me_str (ma_cons me_int (ma_cons me_str ma_nil))))))))))))))))))
      (mss_one (ms_ret (me_callS c__law_pick (hr.mono (by omega)) tk (mas_ref (pv 0) (mas_val (me_var 1 (pv 1)) mas_nil))))))) hm b
abbrev s__law_refusal : Stmt := topS 44
theorem sc__law_refusal : FnScope ["e", "names", "marks", "name"] ["e"] (defScope s__law_refusal) := ⟨rfl, rfl, rfl, by decide +kernel, rfl, by decide +kernel, by decide +kernel⟩
theorem ok__law_refusal (T : Facts K mg) (XF : FactsX P w K mg base G) (hK : G.K = K) {fa : Addr} {fd : FuncData} (F : Fun K "_law_refusal" "_law_refusal" s__law_refusal fa fd) : FnHE P w K mg base (L2N.CX P w) 1 fa fd ["e"] (spMX G dn__law_refusal) := by
  obtain ⟨C_NothingDone, m_NothingDone, k_NothingDone⟩ := XF.i_NothingDone
  obtain ⟨C_BadClaim, m_BadClaim, k_BadClaim⟩ := XF.i_BadClaim
  obtain ⟨C_NotAgreed, m_NotAgreed, k_NotAgreed⟩ := XF.i_NotAgreed
  obtain ⟨C_NotPossible, m_NotPossible, k_NotPossible⟩ := XF.i_NotPossible
  obtain ⟨C_BadLine, m_BadLine, k_BadLine⟩ := XF.i_BadLine
  obtain ⟨C_BadText, m_BadText, k_BadText⟩ := XF.i_BadText
  obtain ⟨C_BadSigns, m_BadSigns, k_BadSigns⟩ := XF.i_BadSigns
  obtain ⟨C_BadSuspects, m_BadSuspects, k_BadSuspects⟩ := XF.i_BadSuspects
  obtain ⟨C_BadMoves, m_BadMoves, k_BadMoves⟩ := XF.i_BadMoves
  obtain ⟨C_BadCounts, m_BadCounts, k_BadCounts⟩ := XF.i_BadCounts
  obtain ⟨C_BadRows, m_BadRows, k_BadRows⟩ := XF.i_BadRows
  obtain ⟨C_BadNeeds, m_BadNeeds, k_BadNeeds⟩ := XF.i_BadNeeds
  obtain ⟨C_BadTimes, m_BadTimes, k_BadTimes⟩ := XF.i_BadTimes
  obtain ⟨C_BadCourse, m_BadCourse, k_BadCourse⟩ := XF.i_BadCourse
  obtain ⟨C_TooMany, m_TooMany, k_TooMany⟩ := XF.i_TooMany
  obtain ⟨C_UnknownHouse, m_UnknownHouse, k_UnknownHouse⟩ := XF.i_UnknownHouse
  obtain ⟨C_UnknownKind, m_UnknownKind, k_UnknownKind⟩ := XF.i_UnknownKind
  obtain ⟨C_BadOrder, m_BadOrder, k_BadOrder⟩ := XF.i_BadOrder
  obtain ⟨C_BadNumber, m_BadNumber, k_BadNumber⟩ := XF.i_BadNumber
  obtain ⟨C_BadPlan, m_BadPlan, k_BadPlan⟩ := XF.i_BadPlan
  have k_ValueError := XF.i_ValueError
  have sc := sc__law_refusal
  exact fn_MH (k := 0) F sc rfl (by decide) fun cdv A outer sh H E p C hr tk hp hx =>
      (mss_cons (ms_set 1 sc.nd (me_lst (ma_cons me_str (ma_cons me_str (ma_cons me_str (ma_cons me_str (ma_cons me_str (ma_cons me_str (ma_cons me_str (ma_cons me_str (ma_cons me_str (ma_cons me_str (ma_cons me_str (ma_cons me_str (ma_cons me_str (ma_cons me_str (ma_cons me_str (ma_cons me_str (ma_cons me_str (ma_cons me_str (ma_cons me_str (ma_cons me_str ma_nil))))))))))))))))))))))
      (mss_cons (ms_set 2 sc.nd (me_lst (ma_cons (me_isx1 (v := V.ref C_BadPlan) 0 hx ⟨XF.xc.exc, XF.xc.fld⟩ k_BadPlan (fun _ r => r) T.n_isinstance (pv 0) (pe_glob (v := V.ref C_BadPlan) rfl m_BadPlan rfl)) (ma_cons (me_isx1 (v := V.ref C_BadNumber) 0 hx ⟨XF.xc.exc, XF.xc.fld⟩ k_BadNumber (fun _ r => r) T.n_isinstance (pv 0) (pe_glob (v := V.ref C_BadNumber) rfl m_BadNumber rfl)) (ma_cons (me_isx1 (v := V.ref C_BadOrder) 0 hx ⟨XF.xc.exc, XF.xc.fld⟩ k_BadOrder (fun _ r => r) T.n_isinstance (pv 0) (pe_glob (v := V.ref C_BadOrder) rfl m_BadOrder rfl)) (ma_cons (me_isx1 (v := V.ref C_UnknownKind) 0 hx ⟨XF.xc.exc, XF.xc.fld⟩ k_UnknownKind (fun _ r => r) T.n_isinstance (pv 0) (pe_glob (v := V.ref C_UnknownKind) rfl m_UnknownKind rfl)) (ma_cons (me_isx1 (v := V.ref C_UnknownHouse) 0 hx ⟨XF.xc.exc, XF.xc.fld⟩ k_UnknownHouse (fun _ r => r) T.n_isinstance (pv 0) (pe_glob (v := V.ref C_UnknownHouse) rfl m_UnknownHouse rfl)) (ma_cons (me_isx1 (v := V.ref C_TooMany) 0 hx ⟨XF.xc.exc, XF.xc.fld⟩ k_TooMany (fun _ r => r) T.n_isinstance (pv 0) (pe_glob (v := V.ref C_TooMany) rfl m_TooMany rfl)) (ma_cons (me_isx1 (v := V.ref C_BadCourse) 0 hx ⟨XF.xc.exc, XF.xc.fld⟩ k_BadCourse (fun _ r => r) T.n_isinstance (pv 0) (pe_glob (v := V.ref C_BadCourse) rfl m_BadCourse rfl)) (ma_cons (me_isx1 (v := V.ref C_BadTimes) 0 hx ⟨XF.xc.exc, XF.xc.fld⟩ k_BadTimes (fun _ r => r) T.n_isinstance (pv 0) (pe_glob (v := V.ref C_BadTimes) rfl m_BadTimes rfl)) (ma_cons (me_isx1 (v := V.ref C_BadNeeds) 0 hx ⟨XF.xc.exc, XF.xc.fld⟩ k_BadNeeds (fun _ r => r) T.n_isinstance (pv 0) (pe_glob (v := V.ref C_BadNeeds) rfl m_BadNeeds rfl)) (ma_cons (me_isx1 (v := V.ref C_BadRows) 0 hx ⟨XF.xc.exc, XF.xc.fld⟩ k_BadRows (fun _ r => r) T.n_isinstance (pv 0) (pe_glob (v := V.ref C_BadRows) rfl m_BadRows rfl)) (ma_cons (me_isx1 (v := V.ref C_BadCounts) 0 hx ⟨XF.xc.exc, XF.xc.fld⟩ k_BadCounts (fun _ r => r) T.n_isinstance (pv 0) (pe_glob (v := V.ref C_BadCounts) rfl m_BadCounts rfl)) (ma_cons (me_isx1 (v := V.ref C_BadMoves) 0 hx ⟨XF.xc.exc, XF.xc.fld⟩ k_BadMoves (fun _ r => r) T.n_isinstance (pv 0) (pe_glob (v := V.ref C_BadMoves) rfl m_BadMoves rfl)) (ma_cons (me_isx1 (v := V.ref C_BadSuspects) 0 hx ⟨XF.xc.exc, XF.xc.fld⟩ k_BadSuspects (fun _ r => r) T.n_isinstance (pv 0) (pe_glob (v := V.ref C_BadSuspects) rfl m_BadSuspects rfl)) (ma_cons (me_isx1 (v := V.ref C_BadSigns) 0 hx ⟨XF.xc.exc, XF.xc.fld⟩ k_BadSigns (fun _ r => r) T.n_isinstance (pv 0) (pe_glob (v := V.ref C_BadSigns) rfl m_BadSigns rfl)) (ma_cons (me_isx1 (v := V.ref C_BadText) 0 hx ⟨XF.xc.exc, XF.xc.fld⟩ k_BadText (fun _ r => r) T.n_isinstance (pv 0) (pe_glob (v := V.ref C_BadText) rfl m_BadText rfl)) (ma_cons (me_isx1 (v := V.ref C_BadLine) 0 hx ⟨XF.xc.exc, XF.xc.fld⟩ k_BadLine (fun _ r => r) T.n_isinstance (pv 0) (pe_glob (v := V.ref C_BadLine) rfl m_BadLine rfl)) (ma_cons (me_isx1 (v := V.ref C_NotPossible) 0 hx ⟨XF.xc.exc, XF.xc.fld⟩ k_NotPossible (fun _ r => r) T.n_isinstance (pv 0) (pe_glob (v := V.ref C_NotPossible) rfl m_NotPossible rfl)) (ma_cons (me_isx1 (v := V.ref C_NotAgreed) 0 hx ⟨XF.xc.exc, XF.xc.fld⟩ k_NotAgreed (fun _ r => r) T.n_isinstance (pv 0) (pe_glob (v := V.ref C_NotAgreed) rfl m_NotAgreed rfl)) (ma_cons (me_isx1 (v := V.ref C_BadClaim) 0 hx ⟨XF.xc.exc, XF.xc.fld⟩ k_BadClaim (fun _ r => r) T.n_isinstance (pv 0) (pe_glob (v := V.ref C_BadClaim) rfl m_BadClaim rfl)) (ma_cons (me_isx1 (v := V.ref C_NothingDone) 0 hx ⟨XF.xc.exc, XF.xc.fld⟩ k_NothingDone (fun _ r => r) T.n_isinstance (pv 0) (pe_glob (v := V.ref C_NothingDone) rfl m_NothingDone rfl)) ma_nil))))))))))))))))))))))
      (mss_cons (ms_if (mt_w (mw_or (mt_cmp (op_neD (hu64H hr)) (sim_ne hK) (me_lm PySem.F.slot_list_count PySem.F.type_list_count (mt_countD (hu65H hr)) (sm_count hK) (me_var 2 (pv 2)) me_bl) (mv_of me_int) (nomark _)) (mw_or1 (mt_not (mt_val (me_isx1 (v := V.ty "ValueError") 0 hx ⟨XF.xc.exc, XF.xc.fld⟩ k_ValueError (fun _ r => r) T.n_isinstance (pv 0) (pe_bltn (v := .ty "ValueError") rfl T.n_ValueError (by decide +kernel) rfl))))))) (mss_one (ms_ret (me_tup (ma_cons me_str ma_nil)))) mss_nil)
      (mss_cons (ms_set 3 sc.nd (me_ix ix_seq (sim_ix hK) (me_var 1 (pv 1)) (mv_of (me_lm PySem.F.slot_list_index PySem.F.type_list_index (mt_indexD (hu65H hr)) (sm_index hK) (me_var 2 (pv 2)) me_bl)) (fun _ _ => rfl)))
      (mss_cons (ms_if (mt_cmp (op_eqD (hu64H hr)) (sim_eq hK) (me_var 3 (pv 3)) (mv_of me_str) (nomark _)) (mss_one (ms_ret (me_tup (ma_cons (me_var 3 (pv 3)) (ma_cons (me_xf 0 hx ⟨XF.xc.exc, XF.xc.fld⟩ XF.f_part (pv 0)) (ma_cons (me_xf 0 hx ⟨XF.xc.exc, XF.xc.fld⟩ XF.f_place (pv 0)) ma_nil)))))) mss_nil)
      (mss_cons (ms_if (mt_cmp (op_inM (hu65H hr)) (sim_in hK) (me_var 3 (pv 3)) (mv_of (me_tup (ma_cons me_str (ma_cons me_str ma_nil)))) (by rfl)) (mss_one (ms_ret (me_tup (ma_cons (me_var 3 (pv 3)) (ma_cons (me_xf 0 hx ⟨XF.xc.exc, XF.xc.fld⟩ XF.f_value (pv 0)) ma_nil))))) mss_nil)
      (mss_cons (ms_if (mt_cmp (op_inM (hu65H hr)) (sim_in hK) (me_var 3 (pv 3)) (mv_of (me_tup (ma_cons me_str (ma_cons me_str ma_nil)))) (by rfl)) (mss_one (ms_ret (me_tup (ma_cons (me_var 3 (pv 3)) (ma_cons (me_xf 0 hx ⟨XF.xc.exc, XF.xc.fld⟩ XF.f_name (pv 0)) ma_nil))))) mss_nil)
      (mss_cons (ms_if (mt_cmp (op_eqD (hu64H hr)) (sim_eq hK) (me_var 3 (pv 3)) (mv_of me_str) (nomark _)) (mss_one (ms_ret (me_tup (ma_cons (me_var 3 (pv 3)) (ma_cons (me_xf 0 hx ⟨XF.xc.exc, XF.xc.fld⟩ XF.f_limit (pv 0)) ma_nil))))) mss_nil)
      (mss_cons (ms_if (mt_cmp (op_inM (hu65H hr)) (sim_in hK) (me_var 3 (pv 3)) (mv_of (me_tup (ma_cons me_str (ma_cons me_str ma_nil)))) (by rfl)) (mss_one (ms_ret (me_tup (ma_cons (me_var 3 (pv 3)) (ma_cons (me_xf 0 hx ⟨XF.xc.exc, XF.xc.fld⟩ XF.f_line (pv 0)) ma_nil))))) mss_nil)
      (mss_cons (ms_if (mt_cmp (op_inM (hu65H hr)) (sim_in hK) (me_var 3 (pv 3)) (mv_of (me_tup (ma_cons me_str (ma_cons me_str (ma_cons me_str (ma_cons me_str ma_nil)))))) (by rfl)) (mss_one (ms_ret (me_tup (ma_cons (me_var 3 (pv 3)) ma_nil)))) mss_nil)
      (mss_one (ms_ret (me_tup (ma_cons (me_var 3 (pv 3)) (ma_cons (me_xf 0 hx ⟨XF.xc.exc, XF.xc.fld⟩ XF.f_place (pv 0)) ma_nil)))))))))))))))
abbrev s__law_told : Stmt := topS 45
theorem sc__law_told : FnScope ["call", "e"] ["call"] (defScope s__law_told) := ⟨rfl, rfl, rfl, by decide +kernel, rfl, by decide +kernel, by decide +kernel⟩
theorem ok__law_told {fa fr CE : Addr} {fd fdr : FuncData} (F : Fun K "_law_told" "_law_told" s__law_told fa fd) (hm : mg "_law_told" = some (.ref fa)) (b : Binds K fd ["call"] []) (Fr : Fun K "_law_refusal" "_law_refusal" s__law_refusal fr fdr) (hmr : mg "_law_refusal" = some (.ref fr)) (br : Binds K fdr ["e"] []) (R : FnHE P w K mg base (L2N.CX P w) 1 fr fdr ["e"] (spMX G dn__law_refusal)) (hmc : mg "CrateError" = some (.ref CE))
    (he : ∀ c C b, G.cls c = some C → (fun _ => some true : Str → Option Bool) c = some b → PySem.W.exmOne K (.ref C) (.ref CE) = some b) : MTold P w K mg base G 6 "_law_told" "told" (fun _ => some true) dn__law_refusal :=
  told_mk F hm rfl b (by exact sc__law_told) (.inl rfl) rfl rfl rfl hmc hmr Fr.kp br (R.mono (by omega)) he
abbrev s__law_same : Stmt := topS 42
theorem sc__law_same : FnScope ["found", "due"] ["found", "due"] (defScope s__law_same) := ⟨rfl, rfl, rfl, by decide +kernel, rfl, by decide +kernel, by decide +kernel⟩
theorem ok__law_same (T : Facts K mg) (XF : FactsX P w K mg base G) (hK : G.K = K) {fa : Addr} {fd : FuncData} (F : Fun K "_law_same" "_law_same" s__law_same fa fd) (hm : mg "_law_same" = some (.ref fa)) (b : Binds K fd ["found", "due"] [])  : MCalG P w K mg base G 1 "_law_same" 2 dn__law_same := by
  have sc := sc__law_same
  exact cal_MG F (fn_MG (k := 0) F sc rfl (by decide) fun cdv A outer sh H E hr hgd tk hp =>
      (mss_one (ms_ret (me_cmp op_eq sim_eqS (me_bi1 ((call_reprD hgd (hu65 hr))) (sim_repr hK) (by decide +kernel) T.n_repr (mv_of (me_var 0 (pv 0)))) (mv_of (me_bi1 ((call_reprD hgd (hu65 hr))) (sim_repr hK) (by decide +kernel) T.n_repr (mv_of (me_var 1 (pv 1))))) (nomark _))))) hm b
abbrev s__law_alike : Stmt := topS 41
theorem sc__law_alike : FnScope ["found", "due", "k"] ["found", "due"] (defScope s__law_alike) := ⟨rfl, rfl, rfl, by decide +kernel, rfl, by decide +kernel, by decide +kernel⟩
theorem ok__law_alike (T : Facts K mg) (XF : FactsX P w K mg base G) (hK : G.K = K) {fa : Addr} {fd : FuncData} (F : Fun K "_law_alike" "_law_alike" s__law_alike fa fd) (hm : mg "_law_alike" = some (.ref fa)) (b : Binds K fd ["found", "due"] [])  : ∀ n : Nat, MCal P w K mg base G (1 + n) "_law_alike" 2 (dn__law_alike n)
  | 0 => cal_M F (FnOk.mono (fn_stuck F sc__law_alike rfl) (by omega)) hm b
  | n + 1 => by
    have c__law_alike := ok__law_alike T XF hK F hm b  n
    have sc := sc__law_alike
    exact cal_M F (FnOk.mono (fn_M (k := 1 + n) F sc rfl (by decide) fun cdv A outer sh H E hr tk hp =>
      (mss_cons (ms_if (mt_val (me_isi2 hK T.n_isinstance (by decide +kernel) (by decide +kernel) T.n_tuple T.n_list (me_var 1 (pv 1)))) (mss_cons (ms_if (mt_w (mw_or (mt_not (mt_val (me_isi2 hK T.n_isinstance (by decide +kernel) (by decide +kernel) T.n_tuple T.n_list (me_var 0 (pv 0))))) (mw_or1 (mt_cmp (op_neD (hu64 hr)) (sim_ne hK) (me_isi hK T.n_isinstance (by decide +kernel) T.n_list (mv_of (me_var 0 (pv 0)))) (mv_of (me_isi hK T.n_isinstance (by decide +kernel) T.n_list (mv_of (me_var 1 (pv 1))))) (nomark _))))) (mss_one (ms_ret me_bl)) mss_nil)
      (mss_cons (ms_if (mt_cmp (op_neD (hu64 hr)) (sim_ne hK) (me_bi1 (cr_lenM) (sim_len hK) (by decide +kernel) T.n_len (mv_of (me_var 0 (pv 0)))) (mv_of (me_bi1 (cr_lenM) (sim_len hK) (by decide +kernel) T.n_len (mv_of (me_var 1 (pv 1))))) (nomark _)) (mss_one (ms_ret me_bl)) mss_nil)
      (mss_one (ms_ret (me_cmp (op_eqD (hu64 hr)) (sim_eq hK) (me_own (mn_comp (own := [("k", 2)]) rfl sc.nd (mi_range1 T.n_range (me_bi1 (cr_lenM) (sim_len hK) (by decide +kernel) T.n_len (mv_of (me_var 1 (pv 1))))) (blkOk_by (by kernel_rfl)) (gsim_name 2) (fun _ _ _ _ _ => (pg_name (i := 2) sc.nd rfl (by first | exact .inl rfl | exact .inr rfl))) (fun _ _ _ _ _ => (mts_one (mt_not (mt_val (me_call c__law_alike (hr.mono (by omega)) takes0N (ma_cons (me_ix ix_seq (sim_ix hK) (me_var 0 (pv 0)) (mv_of (me_var 2 (pv 2))) (fun _ _ => rfl)) (ma_cons (me_ix ix_seq (sim_ix hK) (me_var 1 (pv 1)) (mv_of (me_var 2 (pv 2))) (fun _ _ => rfl)) ma_nil))))))) (fun _ _ _ _ _ => (me_var 2 (pv 2))))) (mv_of (me_lst ma_nil)) (nomark _)))))) mss_nil)
      (mss_cons (ms_if (mt_w (mw_or (mt_cmp op_isM sim_is (me_var 1 (pv 1)) (mv_of me_non) (nomark _)) (mw_or1 (mt_val (me_isi hK T.n_isinstance (by decide +kernel) T.n_str (mv_of (me_var 1 (pv 1)))))))) (mss_one (ms_ret (me_and (me_cmp (op_eqD (hu64 hr)) (sim_eq hK) (me_var 0 (pv 0)) (mv_of (me_var 1 (pv 1))) (nomark _)) (me_one (me_cmp (op_eqD (hu64 hr)) (sim_eq hK) (me_isi hK T.n_isinstance (by decide +kernel) T.n_str (mv_of (me_var 0 (pv 0)))) (mv_of (me_isi hK T.n_isinstance (by decide +kernel) T.n_str (mv_of (me_var 1 (pv 1))))) (nomark _)))))) mss_nil)
      (mss_one (ms_ret (me_and (me_isi hK T.n_isinstance (by decide +kernel) T.n_int (mv_of (me_var 0 (pv 0)))) (me_and (me_cmp (op_eqD (hu64 hr)) (sim_eq hK) (me_isi hK T.n_isinstance (by decide +kernel) T.n_bool (mv_of (me_var 0 (pv 0)))) (mv_of (me_isi hK T.n_isinstance (by decide +kernel) T.n_bool (mv_of (me_var 1 (pv 1))))) (nomark _)) (me_one (me_cmp (op_eqD (hu64 hr)) (sim_eq hK) (me_var 0 (pv 0)) (mv_of (me_var 1 (pv 1))) (nomark _)))))))))) (by omega)) hm b
abbrev s_is_row : Stmt := topS 3
theorem sc_is_row : FnScope ["value", "size"] ["value", "size"] (defScope s_is_row) := ⟨rfl, rfl, rfl, by decide +kernel, rfl, by decide +kernel, by decide +kernel⟩
theorem ok_is_row (T : Facts K mg) (XF : FactsX P w K mg base G) (hK : G.K = K) {fa : Addr} {fd : FuncData} (F : Fun K "is_row" "is_row" s_is_row fa fd) (hm : mg "is_row" = some (.ref fa)) (b : Binds K fd ["value", "size"] [])  : MCal P w K mg base G 1 "is_row" 2 dn_is_row := by
  have sc := sc_is_row
  exact cal_M F (fn_M (k := 0) F sc rfl (by decide) fun cdv A outer sh H E hr tk hp =>
      (mss_one (ms_ret (me_and (me_isi hK T.n_isinstance (by decide +kernel) T.n_tuple (mv_of (me_var 0 (pv 0)))) (me_one (me_cmp (op_eqD (hu64 hr)) (sim_eq hK) (me_bi1 (cr_lenM) (sim_len hK) (by decide +kernel) T.n_len (mv_of (me_var 0 (pv 0)))) (mv_of (me_var 1 (pv 1))) (nomark _))))))) hm b
abbrev s_used : Stmt := topS 34
theorem sc_used : FnScope ["value", "piece", "row"] ["value", "piece"] (defScope s_used) := ⟨rfl, rfl, rfl, by decide +kernel, rfl, by decide +kernel, by decide +kernel⟩
theorem ok_used (T : Facts K mg) (XF : FactsX P w K mg base G) (hK : G.K = K) {fa : Addr} {fd : FuncData} (F : Fun K "used" "used" s_used fa fd) (hm : mg "used" = some (.ref fa)) (b : Binds K fd ["value", "piece"] [])  : MCal P w K mg base G 1 "used" 2 dn_used := by
  have sc := sc_used
  exact cal_M F (fn_M (k := 0) F sc rfl (by decide) fun cdv A outer sh H E hr tk hp =>
      (mss_one (ms_ret (me_bi1 (cr_lenM) (sim_len hK) (by decide +kernel) T.n_len (mv_of (me_own (mn_comp (own := [("row", 2)]) rfl sc.nd (mi_seq hK (me_var 0 (pv 0))) (blkOk_by (by kernel_rfl)) (gsim_name 2) (fun _ _ _ _ _ => (pg_name (i := 2) sc.nd rfl (by first | exact .inl rfl | exact .inr rfl))) (fun _ _ _ _ _ => (mts_one (mt_cmp (op_inM (hu65 hr)) (sim_in hK) (me_var 1 (pv 1)) (mv_of (me_var 2 (pv 2))) (by rfl)))) (fun _ _ _ _ _ => (me_var 2 (pv 2)))))))))) hm b
abbrev s_is_schedule : Stmt := topS 33
theorem sc_is_schedule : FnScope ["rounds", "wanted", "uses", "many", "value", "row", "one", "other"] ["rounds", "wanted", "uses", "many", "value"] (defScope s_is_schedule) := ⟨rfl, rfl, rfl, by decide +kernel, rfl, by decide +kernel, by decide +kernel⟩
theorem ok_is_schedule (T : Facts K mg) (XF : FactsX P w K mg base G) (hK : G.K = K) {fa : Addr} {fd : FuncData} (F : Fun K "is_schedule" "is_schedule" s_is_schedule fa fd) (hm : mg "is_schedule" = some (.ref fa)) (b : Binds K fd ["rounds", "wanted", "uses", "many", "value"] []) (c_is_whole : MCal P w K mg base G 1 "is_whole" 1 dn_is_whole) (c_is_within : MCal P w K mg base G 2 "is_within" 3 dn_is_within) (c_require_wear : MCal P w K mg base G 3 "require_wear" 3 dn_require_wear) (c_is_row : MCal P w K mg base G 1 "is_row" 2 dn_is_row) (c_used : MCal P w K mg base G 1 "used" 2 dn_used) : MCal P w K mg base G 4 "is_schedule" 5 dn_is_schedule := by
  obtain ⟨_, g_MOST_ROUNDS⟩ := T.g_MOST_ROUNDS
  obtain ⟨_, g_MOST_WANTED⟩ := T.g_MOST_WANTED
  have sc := sc_is_schedule
  exact cal_M F (fn_M (k := 3) F sc rfl (by decide) fun cdv A outer sh H E hr tk hp =>
      (mss_cons (ms_expr (me_call c_require_wear (hr.mono (by omega)) tk (ma_cons (me_var 0 (pv 0)) (ma_cons (me_var 1 (pv 1)) (ma_cons (me_var 2 (pv 2)) ma_nil)))))
      (mss_cons (ms_if (mt_not (mt_val (me_call c_is_within (hr.mono (by omega)) tk (ma_cons (me_var 3 (pv 3)) (ma_cons me_int (ma_cons (me_bin op_mulM (sim_mul hK) (me_gint g_MOST_ROUNDS) (mv_of (me_gint g_MOST_WANTED))) ma_nil)))))) (mss_one (ms_raise rfl XF.r_BadNumber (hr.mono (by omega)) tk (ma_cons (me_var 3 (pv 3)) ma_nil))) mss_nil)
      (mss_cons (ms_if (mt_w (mw_or (mt_not (mt_val (me_call c_is_row (hr.mono (by omega)) tk (ma_cons (me_var 4 (pv 4)) (ma_cons (me_var 0 (pv 0)) ma_nil))))) (mw_or1 (mt_not (mt_val (me_bi1 (cr_all rfl) sim_all (by decide +kernel) T.n_all (mv_of (me_own (mn_comp (own := [("row", 5)]) rfl sc.nd (mi_seq hK (me_var 4 (pv 4))) (blkOk_by (by kernel_rfl)) (gsim_name 5) (fun _ _ _ _ _ => (pg_name (i := 5) sc.nd rfl (by first | exact .inl rfl | exact .inr rfl))) (fun _ _ _ _ _ => mts_nil) (fun _ _ _ _ _ => (me_call c_is_row (hr.mono (by omega)) takes0N (ma_cons (me_var 5 (pv 5)) (ma_cons (me_var 1 (pv 1)) ma_nil))))))))))))) (mss_one (ms_ret me_bl)) mss_nil)
      (mss_cons (ms_for (vs := [5]) hp rfl (mi_seq hK (me_var 4 (pv 4))) (mg_name 5 sc.nd) (mss_cons (ms_if (mt_not (mt_val (me_bi1 (cr_all rfl) sim_all (by decide +kernel) T.n_all (mv_of (me_own (mn_comp (own := [("one", 6)]) rfl sc.nd (mi_seq hK (me_var 5 (pv 5))) (blkOk_by (by kernel_rfl)) (gsim_name 6) (fun _ _ _ _ _ => (pg_name (i := 6) sc.nd rfl (by first | exact .inl rfl | exact .inr rfl))) (fun _ _ _ _ _ => mts_nil) (fun _ _ _ _ _ => (me_and (me_call c_is_whole (hr.mono (by omega)) takes0N (ma_cons (me_var 6 (pv 6)) ma_nil)) (me_one (me_chain op_le op_ltM sim_le sim_lt me_int (me_var 6 (pv 6)) (me_var 3 (pv 3)))))))))))) (mss_one (ms_ret me_bl)) mss_nil)
      (mss_one (ms_if (mt_not (mt_val (me_bi1 (cr_all rfl) sim_all (by decide +kernel) T.n_all (mv_of (me_own (mn_comp (own := [("one", 6), ("other", 7)]) rfl sc.nd (mi_zip hK T.n_zip (me_var 5 (pv 5)) (me_cut hK (me_var 5 (pv 5)) (mo_some me_int) mo_none)) (blkOk_by (by kernel_rfl)) (gsim_tup hK (gssim_cons (gsim_name 6) (gssim_cons (gsim_name 7) gssim_nil))) (fun _ _ _ _ _ => (pg_tup rfl (pgs_cons (pg_name (i := 6) sc.nd rfl (by first | exact .inl rfl | exact .inr rfl)) (pgs_cons (pg_name (i := 7) sc.nd rfl (by first | exact .inl rfl | exact .inr rfl)) pgs_nil)))) (fun _ _ _ _ _ => mts_nil) (fun _ _ _ _ _ => (me_cmp op_ltM sim_lt (me_var 6 (pv 6)) (mv_of (me_var 7 (pv 7))) (nomark _))))))))) (mss_one (ms_ret me_bl)) mss_nil))))
      (mss_one (ms_ret (me_bi1 (cr_all rfl) sim_all (by decide +kernel) T.n_all (mv_of (me_own (mn_comp (own := [("one", 6)]) rfl sc.nd (mi_range1 T.n_range (me_var 3 (pv 3))) (blkOk_by (by kernel_rfl)) (gsim_name 6) (fun _ _ _ _ _ => (pg_name (i := 6) sc.nd rfl (by first | exact .inl rfl | exact .inr rfl))) (fun _ _ _ _ _ => mts_nil) (fun _ _ _ _ _ => (me_cmp op_le sim_le (me_call c_used (hr.mono (by omega)) takes0N (ma_cons (me_var 4 (pv 4)) (ma_cons (me_var 6 (pv 6)) ma_nil))) (mv_of (me_var 2 (pv 2))) (nomark _)))))))))))))) hm b
abbrev s_most_rounds : Stmt := topS 35
theorem sc_most_rounds : FnScope ["many", "wanted", "uses", "rounds"] ["many", "wanted", "uses"] (defScope s_most_rounds) := ⟨rfl, rfl, rfl, by decide +kernel, rfl, by decide +kernel, by decide +kernel⟩
theorem ok_most_rounds (T : Facts K mg) (XF : FactsX P w K mg base G) (hK : G.K = K) {fa : Addr} {fd : FuncData} (F : Fun K "most_rounds" "most_rounds" s_most_rounds fa fd) (hm : mg "most_rounds" = some (.ref fa)) (b : Binds K fd ["many", "wanted", "uses"] []) (c_is_within : MCal P w K mg base G 2 "is_within" 3 dn_is_within) (c_require_wear : MCal P w K mg base G 3 "require_wear" 3 dn_require_wear) (c_fewest : MCal P w K mg base G 4 "fewest" 3 dn_fewest) : MCal P w K mg base G 5 "most_rounds" 3 dn_most_rounds := by
  obtain ⟨_, g_MOST_ROUNDS⟩ := T.g_MOST_ROUNDS
  obtain ⟨_, g_MOST_WANTED⟩ := T.g_MOST_WANTED
  have sc := sc_most_rounds
  exact cal_M F (fn_M (k := 4) F sc rfl (by decide) fun cdv A outer sh H E hr tk hp =>
      (mss_cons (ms_if (mt_not (mt_val (me_call c_is_within (hr.mono (by omega)) tk (ma_cons (me_var 0 (pv 0)) (ma_cons me_int (ma_cons (me_bin op_mulM (sim_mul hK) (me_gint g_MOST_ROUNDS) (mv_of (me_gint g_MOST_WANTED))) ma_nil)))))) (mss_one (ms_raise rfl XF.r_BadNumber (hr.mono (by omega)) tk (ma_cons (me_var 0 (pv 0)) ma_nil))) mss_nil)
      (mss_cons (ms_expr (me_call c_require_wear (hr.mono (by omega)) tk (ma_cons me_int (ma_cons (me_var 1 (pv 1)) (ma_cons (me_var 2 (pv 2)) ma_nil)))))
      (mss_one (ms_ret (me_bi1 (cr_max rfl) sim_max (by decide +kernel) T.n_max (mv_of (me_own (mn_comp (own := [("rounds", 3)]) rfl sc.nd (mi_range1 T.n_range (me_bin op_addM (sim_add hK) (me_gint g_MOST_ROUNDS) (mv_of me_int))) (blkOk_by (by kernel_rfl)) (gsim_name 3) (fun _ _ _ _ _ => (pg_name (i := 3) sc.nd rfl (by first | exact .inl rfl | exact .inr rfl))) (fun _ _ _ _ _ => (mts_one (mt_cmp op_le sim_le (me_call c_fewest (hr.mono (by omega)) takes0N (ma_cons (me_var 3 (pv 3)) (ma_cons (me_var 1 (pv 1)) (ma_cons (me_var 2 (pv 2)) ma_nil)))) (mv_of (me_var 0 (pv 0))) (nomark _)))) (fun _ _ _ _ _ => (me_var 3 (pv 3)))))))))))) hm b
abbrev s_needed_uses : Stmt := topS 37
theorem sc_needed_uses : FnScope ["rounds", "wanted", "many", "uses"] ["rounds", "wanted", "many"] (defScope s_needed_uses) := ⟨rfl, rfl, rfl, by decide +kernel, rfl, by decide +kernel, by decide +kernel⟩
theorem ok_needed_uses (T : Facts K mg) (XF : FactsX P w K mg base G) (hK : G.K = K) {fa : Addr} {fd : FuncData} (F : Fun K "needed_uses" "needed_uses" s_needed_uses fa fd) (hm : mg "needed_uses" = some (.ref fa)) (b : Binds K fd ["rounds", "wanted", "many"] []) (c_is_within : MCal P w K mg base G 2 "is_within" 3 dn_is_within) (c_require_wear : MCal P w K mg base G 3 "require_wear" 3 dn_require_wear) (c_fewest : MCal P w K mg base G 4 "fewest" 3 dn_fewest) : MCal P w K mg base G 5 "needed_uses" 3 dn_needed_uses := by
  obtain ⟨_, g_MOST_ROUNDS⟩ := T.g_MOST_ROUNDS
  obtain ⟨_, g_MOST_USES⟩ := T.g_MOST_USES
  obtain ⟨_, g_MOST_WANTED⟩ := T.g_MOST_WANTED
  have sc := sc_needed_uses
  exact cal_M F (fn_M (k := 4) F sc rfl (by decide) fun cdv A outer sh H E hr tk hp =>
      (mss_cons (ms_expr (me_call c_require_wear (hr.mono (by omega)) tk (ma_cons (me_var 0 (pv 0)) (ma_cons (me_var 1 (pv 1)) (ma_cons me_int ma_nil)))))
      (mss_cons (ms_if (mt_not (mt_val (me_call c_is_within (hr.mono (by omega)) tk (ma_cons (me_var 2 (pv 2)) (ma_cons me_int (ma_cons (me_bin op_mulM (sim_mul hK) (me_gint g_MOST_ROUNDS) (mv_of (me_gint g_MOST_WANTED))) ma_nil)))))) (mss_one (ms_raise rfl XF.r_BadNumber (hr.mono (by omega)) tk (ma_cons (me_var 2 (pv 2)) ma_nil))) mss_nil)
      (mss_cons (ms_for (vs := [3]) hp rfl (mi_range2 T.n_range me_int (me_bin op_addM (sim_add hK) (me_gint g_MOST_USES) (mv_of me_int))) (mg_name 3 sc.nd) (mss_one (ms_if (mt_cmp op_le sim_le (me_call c_fewest (hr.mono (by omega)) tk (ma_cons (me_var 0 (pv 0)) (ma_cons (me_var 1 (pv 1)) (ma_cons (me_var 3 (pv 3)) ma_nil)))) (mv_of (me_var 2 (pv 2))) (nomark _)) (mss_one (ms_ret (me_var 3 (pv 3)))) mss_nil)))
      (mss_one (ms_ret me_non)))))) hm b
abbrev s_uses_left : Stmt := topS 36
theorem sc_uses_left : FnScope ["rounds", "wanted", "uses", "rows", "piece"] ["rounds", "wanted", "uses"] (defScope s_uses_left) := ⟨rfl, rfl, rfl, by decide +kernel, rfl, by decide +kernel, by decide +kernel⟩
theorem ok_uses_left (T : Facts K mg) (XF : FactsX P w K mg base G) (hK : G.K = K) {fa : Addr} {fd : FuncData} (F : Fun K "uses_left" "uses_left" s_uses_left fa fd) (hm : mg "uses_left" = some (.ref fa)) (b : Binds K fd ["rounds", "wanted", "uses"] []) (c_fewest : MCal P w K mg base G 4 "fewest" 3 dn_fewest) (c_schedule : MCal P w K mg base G 5 "schedule" 3 dn_schedule) (c_used : MCal P w K mg base G 1 "used" 2 dn_used) : MCal P w K mg base G 6 "uses_left" 3 dn_uses_left := by
  have sc := sc_uses_left
  exact cal_M F (fn_M (k := 5) F sc rfl (by decide) fun cdv A outer sh H E hr tk hp =>
      (mss_cons (ms_set 3 sc.nd (me_call c_schedule (hr.mono (by omega)) tk (ma_cons (me_var 0 (pv 0)) (ma_cons (me_var 1 (pv 1)) (ma_cons (me_var 2 (pv 2)) ma_nil)))))
      (mss_one (ms_ret (me_ty1 (call_tuple_of) (sim_tuple hK) (by decide +kernel) T.n_tuple (mv_of (me_own (mn_comp (own := [("piece", 4)]) rfl sc.nd (mi_range1 T.n_range (me_call c_fewest (hr.mono (by omega)) tk (ma_cons (me_var 0 (pv 0)) (ma_cons (me_var 1 (pv 1)) (ma_cons (me_var 2 (pv 2)) ma_nil))))) (blkOk_by (by kernel_rfl)) (gsim_name 4) (fun _ _ _ _ _ => (pg_name (i := 4) sc.nd rfl (by first | exact .inl rfl | exact .inr rfl))) (fun _ _ _ _ _ => mts_nil) (fun _ _ _ _ _ => (me_bin op_sub sim_sub (me_var 2 (pv 2)) (mv_of (me_call c_used (hr.mono (by omega)) takes0N (ma_cons (me_var 3 (pv 3)) (ma_cons (me_var 4 (pv 4)) ma_nil)))))))))))))) hm b
abbrev s_law : Stmt := topS 46
theorem sc_law : FnScope ["script", "row", "turn", "told", "least", "k", "wrong", "d", "found", "due", "rounds", "wanted", "uses", "many", "value", "one", "a", "b", "c", "names", "spent", "piece", "j"] ["script"] (defScope s_law) := ⟨rfl, rfl, rfl, by decide +kernel, rfl, by decide +kernel, by decide +kernel⟩
theorem ok_law (T : Facts K mg) (XF : FactsX P w K mg base G) (hK : G.K = K) {fa : Addr} {fd : FuncData} {cd P0 : Addr} (TB : LamX.TabB base mg cd P0) (hmT : (P0, (("law" : Str) ++ (".<locals>." : Str) ++ ("<lambda>" : Str))) ∈ G.T) (hu : ∀ p ∈ G.T, p.1 = P0 → p.2 = (("law" : Str) ++ (".<locals>." : Str) ++ ("<lambda>" : Str))) (F : FunC K "law" "law" s_law fa fd cd) (hm : mg "law" = some (.ref fa)) (b : Binds K fd ["script"] []) (c_fewest : MCal P w K mg base G 4 "fewest" 3 dn_fewest) (c_schedule : MCal P w K mg base G 5 "schedule" 3 dn_schedule) (c__law_taken : MCal P w K mg base G 1 "_law_taken" 2 dn__law_taken) (c__law_pick : MCal P w K mg base G 2 "_law_pick" 2 dn__law_pick) (c__law_odd : MCal P w K mg base G 3 "_law_odd" 1 dn__law_odd) (m__law_told : MTold P w K mg base G 6 "_law_told" "told" (fun _ => some true) dn__law_refusal) (c__law_same : MCalG P w K mg base G 1 "_law_same" 2 dn__law_same) (c__law_alike : MCal P w K mg base G 11 "_law_alike" 2 (dn__law_alike 10)) (c_is_schedule : MCal P w K mg base G 4 "is_schedule" 5 dn_is_schedule) (c_most_rounds : MCal P w K mg base G 5 "most_rounds" 3 dn_most_rounds) (c_needed_uses : MCal P w K mg base G 5 "needed_uses" 3 dn_needed_uses) (c_uses_left : MCal P w K mg base G 6 "uses_left" 3 dn_uses_left) : FnG P w K mg base 12 fa fd ["script"] (spM G 1 dn_law) := by
  have sc := sc_law
  exact fn_MGc (k := 11) F sc rfl (by decide) fun A outer sh H E hr hgd tk hp =>
      (mss_cons (ms_new 1 sc.nd (mn_lst (ma_cons (me_var 0 (pv 0)) (ma_cons me_int (ma_cons me_int (ma_cons me_int ma_nil))))))
      (mss_cons (ms_for (vs := [2]) hp rfl (mi_range1 T.n_range me_int) (mg_name 2 sc.nd) (mss_cons (ms_parT (is := [10, 11, 12]) hK rfl (mas_val (me_callS c__law_taken (hr.mono (by omega)) tk (mas_ref (pv 1) (mas_val me_int mas_nil))) (mas_val (me_callS c__law_taken (hr.mono (by omega)) tk (mas_ref (pv 1) (mas_val me_int mas_nil))) (mas_val (me_bin op_addM (sim_add hK) me_int (mv_of (me_callS c__law_taken (hr.mono (by omega)) tk (mas_ref (pv 1) (mas_val me_int mas_nil))))) mas_nil))) (pgs_cons (pg_name (i := 10) sc.nd rfl (by first | exact .inl rfl | exact .inr rfl)) (pgs_cons (pg_name (i := 11) sc.nd rfl (by first | exact .inl rfl | exact .inr rfl)) (pgs_cons (pg_name (i := 12) sc.nd rfl (by first | exact .inl rfl | exact .inr rfl)) pgs_nil))))
      (mss_cons (ms_set 3 sc.nd (me_call c_schedule (hr.mono (by omega)) tk (ma_cons (me_var 10 (pv 10)) (ma_cons (me_var 11 (pv 11)) (ma_cons (me_var 12 (pv 12)) ma_nil)))))
      (mss_cons (ms_set 4 sc.nd (me_call c_fewest (hr.mono (by omega)) tk (ma_cons (me_var 10 (pv 10)) (ma_cons (me_var 11 (pv 11)) (ma_cons (me_var 12 (pv 12)) ma_nil)))))
      (mss_cons (ms_for (vs := [5]) hp rfl (mi_range1 T.n_range me_int) (mg_name 5 sc.nd) (mss_cons (ms_set 13 sc.nd (me_biN (call_max2 rfl) sim_max2 (by decide +kernel) T.n_max (ma_cons me_int (ma_cons (me_bin op_addM (sim_add hK) (me_var 4 (pv 4)) (mv_of (me_callS c__law_pick (hr.mono (by omega)) tk (mas_ref (pv 1) (mas_val (me_lst (ma_cons me_int (ma_cons me_int (ma_cons me_int (ma_cons me_int (ma_cons (me_un un_neg sim_neg (mv_of me_int)) ma_nil)))))) mas_nil))))) ma_nil))))
      (mss_cons (ms_new 14 sc.nd (mn_list hK T.n_list (mv_of (me_var 3 (pv 3)))))
      (mss_cons (ms_if (mt_w (mw_and (mt_cmp op_gt sim_gt (me_var 10 (pv 10)) (mv_of me_int) (nomark _)) (mw_and1 (mt_cmp op_gt sim_gt (me_var 5 (pv 5)) (mv_of me_int) (nomark _))))) (mss_cons (ms_setComp (own := [("j", 22)]) 19 rfl sc.nd (mi_range1 T.n_range (me_var 11 (pv 11))) (blkOk_by (by kernel_rfl)) (gsim_name 22) (fun _ _ _ _ _ => (pg_name (i := 22) sc.nd rfl (by first | exact .inl rfl | exact .inr rfl))) (fun _ _ _ _ _ => mts_nil) (fun _ _ _ _ _ => (me_callS c__law_taken (hr.mono (by omega)) takes0N (mas_ref (pv 1) (mas_val (me_biN (call_max2 rfl) sim_max2 (by decide +kernel) T.n_max (ma_cons me_int (ma_cons (me_bin op_addM (sim_add hK) (me_var 13 (pv 13)) (mv_of (me_ty1 (call_int1) sim_int (by decide +kernel) T.n_int (mv_of (me_cmp (op_eqD (hu64 hr)) (sim_eq hK) (me_var 5 (pv 5)) (mv_of me_int) (nomark _)))))) ma_nil))) mas_nil)))) (sw_true rfl rfl rfl (by kernel_rfl)))
      (mss_one (ms_setix (pv 14) (me_callS c__law_taken (hr.mono (by omega)) tk (mas_ref (pv 1) (mas_val (me_var 10 (pv 10)) mas_nil))) (me_if (mt_cmp op_ltM sim_lt (me_var 5 (pv 5)) (mv_of me_int) (nomark _)) (me_ty1 (call_tuple_of) (sim_tuple hK) (by decide +kernel) T.n_tuple (mv_of (me_bi1 (cr_sortedI) sim_sorted (by decide +kernel) T.n_sorted (mv_of (me_var 19 (pv 19)))))) (me_ty1 (call_tuple_of) (sim_tuple hK) (by decide +kernel) T.n_tuple (mv_of (me_var 19 (pv 19)))))))) mss_nil)
      (mss_cons (ms_par2 rfl sc.nd (mas_new (mn_rep (me_lst (ma_cons me_int ma_nil)) (me_bin op_addM (sim_add hK) (me_var 13 (pv 13)) (mv_of me_int))) (mas_val me_bl mas_nil)))
      (mss_cons (ms_for (vs := [15]) hp rfl (mi_seq hK (me_var 14 (pv 14))) (mg_name 15 sc.nd) (mss_cons (ms_set 9 sc.nd (me_and (me_var 9 (pv 9)) (me_and (me_cmp (op_eqD (hu64 hr)) (sim_eq hK) (me_own (mn_comp (own := [("j", 22)]) rfl sc.nd (mi_range1 T.n_range (me_bin op_sub sim_sub (me_var 11 (pv 11)) (mv_of me_int))) (blkOk_by (by kernel_rfl)) (gsim_name 22) (fun _ _ _ _ _ => (pg_name (i := 22) sc.nd rfl (by first | exact .inl rfl | exact .inr rfl))) (fun _ _ _ _ _ => (mts_one (mt_cmp op_ge sim_ge (me_ix ix_seq (sim_ix hK) (me_var 15 (pv 15)) (mv_of (me_var 22 (pv 22))) (fun _ _ => rfl)) (mv_of (me_ix ix_seq (sim_ix hK) (me_var 15 (pv 15)) (mv_of (me_bin op_addM (sim_add hK) (me_var 22 (pv 22)) (mv_of me_int))) (fun _ _ => rfl))) (nomark _)))) (fun _ _ _ _ _ => (me_var 22 (pv 22))))) (mv_of (me_lst ma_nil)) (nomark _)) (me_one (me_cmp (op_eqD (hu64 hr)) (sim_eq hK) (me_own (mn_comp (own := [("piece", 21)]) rfl sc.nd (mi_seq hK (me_var 15 (pv 15))) (blkOk_by (by kernel_rfl)) (gsim_name 21) (fun _ _ _ _ _ => (pg_name (i := 21) sc.nd rfl (by first | exact .inl rfl | exact .inr rfl))) (fun _ _ _ _ _ => (mts_one (mt_cmp op_ge sim_ge (me_var 21 (pv 21)) (mv_of (me_var 13 (pv 13))) (nomark _)))) (fun _ _ _ _ _ => (me_var 21 (pv 21))))) (mv_of (me_lst ma_nil)) (nomark _))))))
      (mss_one (ms_for (vs := [21]) hp rfl (mi_seq hK (me_var 15 (pv 15))) (mg_name 21 sc.nd) (mss_one (ms_setix (pv 20) (me_biN (call_min2 rfl) sim_min2 (by decide +kernel) T.n_min (ma_cons (me_var 13 (pv 13)) (ma_cons (me_var 21 (pv 21)) ma_nil))) (me_bin op_addM (sim_add hK) (me_ixP ix_seq (sim_ix hK) (pv 20) (mv_of (me_biN (call_min2 rfl) sim_min2 (by decide +kernel) T.n_min (ma_cons (me_var 13 (pv 13)) (ma_cons (me_var 21 (pv 21)) ma_nil)))) (fun _ _ => rfl)) (mv_of me_int))))))))
      (mss_cons (ms_set 9 sc.nd (me_and (me_var 9 (pv 9)) (me_one (me_cmp (op_eqD (hu64 hr)) (sim_eq hK) (me_own (mn_comp (own := [("one", 15)]) rfl sc.nd (mi_seq hK (me_cut hK (me_var 20 (pv 20)) mo_none (mo_some (me_var 13 (pv 13))))) (blkOk_by (by kernel_rfl)) (gsim_name 15) (fun _ _ _ _ _ => (pg_name (i := 15) sc.nd rfl (by first | exact .inl rfl | exact .inr rfl))) (fun _ _ _ _ _ => (mts_one (mt_cmp op_gt sim_gt (me_var 15 (pv 15)) (mv_of (me_var 12 (pv 12))) (nomark _)))) (fun _ _ _ _ _ => (me_var 15 (pv 15))))) (mv_of (me_lst ma_nil)) (nomark _)))))
      (mss_one (ms_if (mt_not (mt_val (me_call c__law_alike (hr.mono (by omega)) tk (ma_cons (me_call c_is_schedule (hr.mono (by omega)) tk (ma_cons (me_var 10 (pv 10)) (ma_cons (me_var 11 (pv 11)) (ma_cons (me_var 12 (pv 12)) (ma_cons (me_var 13 (pv 13)) (ma_cons (me_ty1 (call_tuple_of) (sim_tuple hK) (by decide +kernel) T.n_tuple (mv_var 14 (pv 14))) ma_nil)))))) (ma_cons (me_var 9 (pv 9)) ma_nil))))) (mss_one (ms_ret me_bl)) mss_nil)))))))))
      (mss_cons (ms_set 6 sc.nd (me_lst (ma_cons (me_ty1 (call_list_of) (sim_list hK) (by decide +kernel) T.n_list (mv_of (me_var 3 (pv 3)))) (ma_cons (me_bin op_addM (sim_add hK) (me_var 3 (pv 3)) (mv_of (me_tup (ma_cons (me_tup ma_nil) ma_nil)))) (ma_cons me_non (ma_cons (me_callS c__law_odd (hr.mono (by omega)) tk (mas_ref (pv 1) mas_nil)) ma_nil))))))
      (mss_cons (ms_set 6 sc.nd (me_bin op_addM (sim_add hK) (me_var 6 (pv 6)) (mv_of (me_lst (ma_cons (me_if (mt_cmp op_gt sim_gt (me_bin op_mulM (sim_mul hK) (me_var 11 (pv 11)) (mv_of (me_var 10 (pv 10)))) (mv_of me_int) (nomark _)) (me_bin op_mulM (sim_mul hK) (me_tup (ma_cons (me_bin op_mulM (sim_mul hK) (me_tup (ma_cons me_non ma_nil)) (mv_of (me_var 11 (pv 11)))) ma_nil)) (mv_of (me_var 10 (pv 10)))) me_int) (ma_cons (me_if (mt_cmp op_gt sim_gt (me_var 10 (pv 10)) (mv_of me_int) (nomark _)) (me_ty1 (call_tuple_of) (sim_tuple hK) (by decide +kernel) T.n_tuple (mv_of (me_own (mn_comp (own := [("one", 15)]) rfl sc.nd (mi_seq hK (me_var 3 (pv 3))) (blkOk_by (by kernel_rfl)) (gsim_name 15) (fun _ _ _ _ _ => (pg_name (i := 15) sc.nd rfl (by first | exact .inl rfl | exact .inr rfl))) (fun _ _ _ _ _ => mts_nil) (fun _ _ _ _ _ => (me_ty1 (call_list_of) (sim_list hK) (by decide +kernel) T.n_list (mv_of (me_var 15 (pv 15))))))))) me_int) ma_nil))))))
      (mss_cons (ms_set 6 sc.nd (me_bin op_addM (sim_add hK) (me_var 6 (pv 6)) (mv_of (me_lst (ma_cons (me_if (mt_cmp op_gt sim_gt (me_bin op_mulM (sim_mul hK) (me_var 11 (pv 11)) (mv_of (me_var 10 (pv 10)))) (mv_of me_int) (nomark _)) (me_bin op_addM (sim_add hK) (me_tup (ma_cons (me_bin op_addM (sim_add hK) (me_tup (ma_cons (me_un un_neg sim_neg (mv_of me_int)) ma_nil)) (mv_of (me_cut hK (me_ix ix_seq (sim_ix hK) (me_var 3 (pv 3)) (mv_of me_int) (fun _ _ => rfl)) (mo_some me_int) mo_none))) ma_nil)) (mv_of (me_cut hK (me_var 3 (pv 3)) (mo_some me_int) mo_none))) me_int) ma_nil)))))
      (mss_cons (ms_if (mt_cmp (op_neD (hu64 hr)) (sim_ne hK) (me_own (mn_comp (own := [("one", 15)]) rfl sc.nd (mi_seq hK (me_var 6 (pv 6))) (blkOk_by (by kernel_rfl)) (gsim_name 15) (fun _ _ _ _ _ => (pg_name (i := 15) sc.nd rfl (by first | exact .inl rfl | exact .inr rfl))) (fun _ _ _ _ _ => (mts_one (mt_val (me_call c_is_schedule (hr.mono (by omega)) takes0N (ma_cons (me_var 10 (pv 10)) (ma_cons (me_var 11 (pv 11)) (ma_cons (me_var 12 (pv 12)) (ma_cons (me_var 4 (pv 4)) (ma_cons (me_var 15 (pv 15)) ma_nil))))))))) (fun _ _ _ _ _ => (me_var 15 (pv 15))))) (mv_of (me_lst ma_nil)) (nomark _)) (mss_one (ms_ret me_bl)) mss_nil)
      (mss_cons (ms_parT (is := [16, 17, 18]) hK rfl (mas_val (me_callS c__law_pick (hr.mono (by omega)) tk (mas_ref (pv 1) (mas_val (me_lst (ma_cons (me_un un_neg sim_neg (mv_of me_int)) (ma_cons me_int (ma_cons me_non (ma_cons me_bl ma_nil))))) mas_nil))) (mas_val (me_callS c__law_pick (hr.mono (by omega)) tk (mas_ref (pv 1) (mas_val (me_lst (ma_cons (me_un un_neg sim_neg (mv_of me_int)) (ma_cons me_int (ma_cons me_non (ma_cons me_str ma_nil))))) mas_nil))) (mas_val (me_callS c__law_pick (hr.mono (by omega)) tk (mas_ref (pv 1) (mas_val (me_lst (ma_cons me_int (ma_cons me_int (ma_cons me_non (ma_cons me_bl ma_nil))))) mas_nil))) mas_nil))) (pgs_cons (pg_name (i := 16) sc.nd rfl (by first | exact .inl rfl | exact .inr rfl)) (pgs_cons (pg_name (i := 17) sc.nd rfl (by first | exact .inl rfl | exact .inr rfl)) (pgs_cons (pg_name (i := 18) sc.nd rfl (by first | exact .inl rfl | exact .inr rfl)) pgs_nil))))
      (mss_cons (ms_set 7 sc.nd (me_callS c__law_pick (hr.mono (by omega)) tk (mas_ref (pv 1) (mas_val (me_lst (ma_cons (me_un un_neg sim_neg (mv_of me_int)) (ma_cons me_int (ma_cons me_non (ma_cons me_bl ma_nil))))) mas_nil))))
      (mss_cons (ms_set 8 sc.nd (me_lst (ma_cons (me_told0 (NN := ["script", "row", "turn", "told", "least", "k", "wrong", "d", "found", "due", "rounds", "wanted", "uses", "many", "value", "one", "a", "b", "c", "names", "spent", "piece", "j"]) m__law_told TB rfl hmT hu (hr.mono (by omega)) (lamP_by (by kernel_rfl)) rfl (fun _ _ _ _ _ us hl => match us, hl with | [], _ => rfl) (by kernel_rfl) (fun _ _ _ _ _ _ _ hr tk => (me_call c_fewest (hr.mono (by omega)) tk (ma_cons (me_var 16 (pv 16)) (ma_cons (me_un un_neg sim_neg (mv_of me_int)) (ma_cons me_int ma_nil)))))) (ma_cons (me_toldI (NN := ["script", "row", "turn", "told", "least", "k", "wrong", "d", "found", "due", "rounds", "wanted", "uses", "many", "value", "one", "a", "b", "c", "names", "spent", "piece", "j", "x"]) (x0 := "x") m__law_told TB rfl hmT hu (hr.mono (by omega)) (lamP_by (by kernel_rfl)) rfl (fun _ _ _ _ _ _ => ⟨_, rfl, fun _ => rfl⟩) (by kernel_rfl) (fun _ _ _ _ _ _ _ hr tk => (me_call c_schedule (hr.mono (by omega)) tk (ma_cons me_int (ma_cons (me_var 17 (pv 17)) (ma_cons me_int ma_nil)))))) (ma_cons (me_toldI (NN := ["script", "row", "turn", "told", "least", "k", "wrong", "d", "found", "due", "rounds", "wanted", "uses", "many", "value", "one", "a", "b", "c", "names", "spent", "piece", "j", "y"]) (x0 := "y") m__law_told TB rfl hmT hu (hr.mono (by omega)) (lamP_by (by kernel_rfl)) rfl (fun _ _ _ _ _ _ => ⟨_, rfl, fun _ => rfl⟩) (by kernel_rfl) (fun _ _ _ _ _ _ _ hr tk => (me_call c_is_schedule (hr.mono (by omega)) tk (ma_cons me_int (ma_cons me_int (ma_cons (me_var 18 (pv 18)) (ma_cons (me_un un_neg sim_neg (mv_of me_int)) (ma_cons me_int ma_nil)))))))) (ma_cons (me_toldI (NN := ["script", "row", "turn", "told", "least", "k", "wrong", "d", "found", "due", "rounds", "wanted", "uses", "many", "value", "one", "a", "b", "c", "names", "spent", "piece", "j", "z"]) (x0 := "z") m__law_told TB rfl hmT hu (hr.mono (by omega)) (lamP_by (by kernel_rfl)) rfl (fun _ _ _ _ _ _ => ⟨_, rfl, fun _ => rfl⟩) (by kernel_rfl) (fun _ _ _ _ _ _ _ hr tk => (me_call c_is_schedule (hr.mono (by omega)) tk (ma_cons me_int (ma_cons me_int (ma_cons me_int (ma_cons (me_var 7 (pv 7)) (ma_cons me_int ma_nil)))))))) ma_nil))))))
      (mss_cons (ms_set 8 sc.nd (me_bin op_addM (sim_add hK) (me_var 8 (pv 8)) (mv_of (me_lst (ma_cons (me_told0 (NN := ["script", "row", "turn", "told", "least", "k", "wrong", "d", "found", "due", "rounds", "wanted", "uses", "many", "value", "one", "a", "b", "c", "names", "spent", "piece", "j"]) m__law_told TB rfl hmT hu (hr.mono (by omega)) (lamP_by (by kernel_rfl)) rfl (fun _ _ _ _ _ us hl => match us, hl with | [], _ => rfl) (by kernel_rfl) (fun _ _ _ _ _ _ _ hr tk => (me_call c_most_rounds (hr.mono (by omega)) tk (ma_cons (me_var 7 (pv 7)) (ma_cons (me_un un_neg sim_neg (mv_of me_int)) (ma_cons me_int ma_nil)))))) (ma_cons (me_toldI (NN := ["script", "row", "turn", "told", "least", "k", "wrong", "d", "found", "due", "rounds", "wanted", "uses", "many", "value", "one", "a", "b", "c", "names", "spent", "piece", "j", "x"]) (x0 := "x") m__law_told TB rfl hmT hu (hr.mono (by omega)) (lamP_by (by kernel_rfl)) rfl (fun _ _ _ _ _ _ => ⟨_, rfl, fun _ => rfl⟩) (by kernel_rfl) (fun _ _ _ _ _ _ _ hr tk => (me_call c_most_rounds (hr.mono (by omega)) tk (ma_cons me_int (ma_cons (me_var 17 (pv 17)) (ma_cons me_int ma_nil)))))) ma_nil))))))
      (mss_cons (ms_set 8 sc.nd (me_bin op_addM (sim_add hK) (me_var 8 (pv 8)) (mv_of (me_lst (ma_cons (me_toldI (NN := ["script", "row", "turn", "told", "least", "k", "wrong", "d", "found", "due", "rounds", "wanted", "uses", "many", "value", "one", "a", "b", "c", "names", "spent", "piece", "j", "y"]) (x0 := "y") m__law_told TB rfl hmT hu (hr.mono (by omega)) (lamP_by (by kernel_rfl)) rfl (fun _ _ _ _ _ _ => ⟨_, rfl, fun _ => rfl⟩) (by kernel_rfl) (fun _ _ _ _ _ _ _ hr tk => (me_call c_needed_uses (hr.mono (by omega)) tk (ma_cons (me_var 16 (pv 16)) (ma_cons (me_un un_neg sim_neg (mv_of me_int)) (ma_cons (me_un un_neg sim_neg (mv_of me_int)) ma_nil)))))) (ma_cons (me_toldI (NN := ["script", "row", "turn", "told", "least", "k", "wrong", "d", "found", "due", "rounds", "wanted", "uses", "many", "value", "one", "a", "b", "c", "names", "spent", "piece", "j", "z"]) (x0 := "z") m__law_told TB rfl hmT hu (hr.mono (by omega)) (lamP_by (by kernel_rfl)) rfl (fun _ _ _ _ _ _ => ⟨_, rfl, fun _ => rfl⟩) (by kernel_rfl) (fun _ _ _ _ _ _ _ hr tk => (me_call c_needed_uses (hr.mono (by omega)) tk (ma_cons me_int (ma_cons me_int (ma_cons (me_var 7 (pv 7)) ma_nil)))))) ma_nil))))))
      (mss_cons (ms_set 9 sc.nd (me_lst (ma_cons (me_tup (ma_cons me_str (ma_cons (me_var 16 (pv 16)) ma_nil))) (ma_cons (me_tup (ma_cons me_str (ma_cons (me_var 17 (pv 17)) ma_nil))) (ma_cons (me_tup (ma_cons me_str (ma_cons (me_var 18 (pv 18)) ma_nil))) (ma_cons (me_tup (ma_cons me_str (ma_cons (me_var 7 (pv 7)) ma_nil))) (ma_cons (me_tup (ma_cons me_str (ma_cons (me_var 7 (pv 7)) ma_nil))) (ma_cons (me_tup (ma_cons me_str (ma_cons (me_var 17 (pv 17)) ma_nil))) (ma_cons (me_tup (ma_cons me_str (ma_cons (me_var 16 (pv 16)) ma_nil))) (ma_cons (me_tup (ma_cons me_str (ma_cons (me_var 7 (pv 7)) ma_nil))) ma_nil))))))))))
      (mss_one (ms_if (mt_not (mt_val (me_callG c__law_same (hr.mono (by omega)) hgd tk (ma_cons (me_bin op_addM (sim_add hK) (me_var 8 (pv 8)) (mv_of (me_lst (ma_cons (me_told0 (NN := ["script", "row", "turn", "told", "least", "k", "wrong", "d", "found", "due", "rounds", "wanted", "uses", "many", "value", "one", "a", "b", "c", "names", "spent", "piece", "j"]) m__law_told TB rfl hmT hu (hr.mono (by omega)) (lamP_by (by kernel_rfl)) rfl (fun _ _ _ _ _ us hl => match us, hl with | [], _ => rfl) (by kernel_rfl) (fun _ _ _ _ _ _ _ hr tk => (me_call c_uses_left (hr.mono (by omega)) tk (ma_cons me_int (ma_cons me_int (ma_cons (me_var 18 (pv 18)) ma_nil)))))) ma_nil)))) (ma_cons (me_bin op_addM (sim_add hK) (me_var 9 (pv 9)) (mv_of (me_lst (ma_cons (me_tup (ma_cons me_str (ma_cons (me_var 18 (pv 18)) ma_nil))) ma_nil)))) ma_nil))))) (mss_one (ms_ret me_bl)) mss_nil)))))))))))))))))
      (mss_one (ms_ret me_bl))))
end
def GW (K : PySem.W.Frag) (cl : List (Str × Addr)) (T : List (Addr × Str)) : Wd := ⟨K, fun c => cl.lookup c, fun _ => none, none, T⟩
theorem PZ.tab0 {Z : Zone} {H : Hp} {P : Addr} {q : Str} (hz : ¬ Z P) (h : H P = some (.tbl #[])) : ¬ Z P ∧ ∃ ps : Array Value, H P = some (.tbl ps) ∧ TriplesOk ps.toList ∧ ∀ (pos : Pos) (cv : Value), codeAmong pos ps.toList = some cv → ∃ c, cv = .ref c ∧ H c = some (LamX.CodeO c q) ∧ ¬ Z c :=
  ⟨hz, #[], h, True.intro, fun pos cv hc => by have z : codeAmong pos [] = some cv := hc; simp [codeAmong] at z⟩
theorem all_mk {l : PySem.W.OpenLaw} {w : World} {K : PySem.W.Frag} {h : Heap} {mg mb : Str → Option Value} {q : Program} {loose : List Str} {mean : ExcName → Option Value} {fa : Addr} {C_CrateError : Addr} {C_BadPlan : Addr} {C_BadNumber : Addr} {C_UnknownKind : Addr} {C_UnknownHouse : Addr} {C_TooMany : Addr} {C_BadCourse : Addr} {C_BadOrder : Addr} {C_BadTimes : Addr} {C_BadNeeds : Addr} {C_BadRows : Addr} {C_BadCounts : Addr} {C_BadMoves : Addr} {C_BadSuspects : Addr} {C_BadSigns : Addr} {C_BadText : Addr} {C_BadLine : Addr} {C_NotPossible : Addr} {C_NotAgreed : Addr} {C_BadClaim : Addr} {C_NothingDone : Addr} {fI_BadNumber cc_BadNumber cd_BadNumber NC_BadNumber : Addr} {nm_BadNumber q_BadNumber : Str} {bs_BadNumber bm_BadNumber sub_BadNumber : List Value} {sn_BadNumber : List Str} {ab_BadNumber : Bool} {col_BadNumber : Option Bool} {dd_BadNumber : Option Addr} {k0_BadNumber k1_BadNumber k2_BadNumber k3_BadNumber k5_BadNumber : Option Value} {oc_BadNumber kV_BadNumber doc_BadNumber pm_BadNumber ct_BadNumber ccl_BadNumber cl_BadNumber : Value} {od_BadNumber an_BadNumber cdd_BadNumber cld_BadNumber : Option Addr} {osl_BadNumber ccs_BadNumber csl_BadNumber : Array (Option Value)} {fvs_BadNumber : Array Value} {file_BadNumber : Str} {tf_BadNumber : Tok} {f_is_whole : Addr} {oc_is_whole kV_is_whole dc_is_whole pm_is_whole ct_is_whole : Value} {od_is_whole an_is_whole : Option Addr} {sl_is_whole : Array (Option Value)} {cd_is_whole : Value} {f_is_within : Addr} {oc_is_within kV_is_within dc_is_within pm_is_within ct_is_within : Value} {od_is_within an_is_within : Option Addr} {sl_is_within : Array (Option Value)} {cd_is_within : Value} {f_require_wear : Addr} {oc_require_wear kV_require_wear dc_require_wear pm_require_wear ct_require_wear : Value} {od_require_wear an_require_wear : Option Addr} {sl_require_wear : Array (Option Value)} {cd_require_wear : Value} {f_fewest : Addr} {oc_fewest kV_fewest dc_fewest pm_fewest ct_fewest : Value} {od_fewest an_fewest : Option Addr} {sl_fewest : Array (Option Value)} {cd_fewest : Value} {f_schedule : Addr} {oc_schedule kV_schedule dc_schedule pm_schedule ct_schedule : Value} {od_schedule an_schedule : Option Addr} {sl_schedule : Array (Option Value)} {cd_schedule : Value} {f__law_taken : Addr} {oc__law_taken kV__law_taken dc__law_taken pm__law_taken ct__law_taken : Value} {od__law_taken an__law_taken : Option Addr} {sl__law_taken : Array (Option Value)} {cd__law_taken : Value} {f__law_pick : Addr} {oc__law_pick kV__law_pick dc__law_pick pm__law_pick ct__law_pick : Value} {od__law_pick an__law_pick : Option Addr} {sl__law_pick : Array (Option Value)} {cd__law_pick : Value} {f__law_odd : Addr} {oc__law_odd kV__law_odd dc__law_odd pm__law_odd ct__law_odd : Value} {od__law_odd an__law_odd : Option Addr} {sl__law_odd : Array (Option Value)} {cd__law_odd : Value} {f__law_refusal : Addr} {oc__law_refusal kV__law_refusal dc__law_refusal pm__law_refusal ct__law_refusal : Value} {od__law_refusal an__law_refusal : Option Addr} {sl__law_refusal : Array (Option Value)} {cd__law_refusal : Value} {f__law_told : Addr} {oc__law_told kV__law_told dc__law_told pm__law_told ct__law_told : Value} {od__law_told an__law_told : Option Addr} {sl__law_told : Array (Option Value)} {cd__law_told : Value} {f__law_same : Addr} {oc__law_same kV__law_same dc__law_same pm__law_same ct__law_same : Value} {od__law_same an__law_same : Option Addr} {sl__law_same : Array (Option Value)} {cd__law_same : Value} {f__law_alike : Addr} {oc__law_alike kV__law_alike dc__law_alike pm__law_alike ct__law_alike : Value} {od__law_alike an__law_alike : Option Addr} {sl__law_alike : Array (Option Value)} {cd__law_alike : Value} {f_is_row : Addr} {oc_is_row kV_is_row dc_is_row pm_is_row ct_is_row : Value} {od_is_row an_is_row : Option Addr} {sl_is_row : Array (Option Value)} {cd_is_row : Value} {f_used : Addr} {oc_used kV_used dc_used pm_used ct_used : Value} {od_used an_used : Option Addr} {sl_used : Array (Option Value)} {cd_used : Value} {f_is_schedule : Addr} {oc_is_schedule kV_is_schedule dc_is_schedule pm_is_schedule ct_is_schedule : Value} {od_is_schedule an_is_schedule : Option Addr} {sl_is_schedule : Array (Option Value)} {cd_is_schedule : Value} {f_most_rounds : Addr} {oc_most_rounds kV_most_rounds dc_most_rounds pm_most_rounds ct_most_rounds : Value} {od_most_rounds an_most_rounds : Option Addr} {sl_most_rounds : Array (Option Value)} {cd_most_rounds : Value} {f_needed_uses : Addr} {oc_needed_uses kV_needed_uses dc_needed_uses pm_needed_uses ct_needed_uses : Value} {od_needed_uses an_needed_uses : Option Addr} {sl_needed_uses : Array (Option Value)} {cd_needed_uses : Value} {f_uses_left : Addr} {oc_uses_left kV_uses_left dc_uses_left pm_uses_left ct_uses_left : Value} {od_uses_left an_uses_left : Option Addr} {sl_uses_left : Array (Option Value)} {cd_uses_left : Value} {f_law : Addr} {oc_law kV_law dc_law pm_law ct_law : Value} {od_law an_law : Option Addr} {sl_law : Array (Option Value)} {cd_law P_law : Addr} (main : ∀ ns : List Int, ns.length ≤ 63 → (∀ z ∈ ns, Builtin.Int.intBits z ≤ 1048576) → dn_law [.p (.scr ns)] [] = .ok (.bl true) []) (T0 : PyProof.Rows.Top q loose mean mg mb h) (X : K.In h) (hfa : mg "law" = some (.ref fa))
    (z_ValueError : PySem.W.nsIn K mainGlobals "ValueError" = some none)
    (z_all : PySem.W.nsIn K mainGlobals "all" = some none)
    (z_bool : PySem.W.nsIn K mainGlobals "bool" = some none)
    (z_int : PySem.W.nsIn K mainGlobals "int" = some none)
    (z_isinstance : PySem.W.nsIn K mainGlobals "isinstance" = some none)
    (z_len : PySem.W.nsIn K mainGlobals "len" = some none)
    (z_list : PySem.W.nsIn K mainGlobals "list" = some none)
    (z_max : PySem.W.nsIn K mainGlobals "max" = some none)
    (z_min : PySem.W.nsIn K mainGlobals "min" = some none)
    (z_range : PySem.W.nsIn K mainGlobals "range" = some none)
    (z_repr : PySem.W.nsIn K mainGlobals "repr" = some none)
    (z_sorted : PySem.W.nsIn K mainGlobals "sorted" = some none)
    (z_str : PySem.W.nsIn K mainGlobals "str" = some none)
    (z_tuple : PySem.W.nsIn K mainGlobals "tuple" = some none)
    (z_zip : PySem.W.nsIn K mainGlobals "zip" = some none)
    {t_MOST_ROUNDS : Tok}
    (q_MOST_ROUNDS : PySem.W.nsIn K mainGlobals "MOST_ROUNDS" = some (some (.int 30 t_MOST_ROUNDS)))
    {t_MOST_USES : Tok}
    (q_MOST_USES : PySem.W.nsIn K mainGlobals "MOST_USES" = some (some (.int 30 t_MOST_USES)))
    {t_MOST_WANTED : Tok}
    (q_MOST_WANTED : PySem.W.nsIn K mainGlobals "MOST_WANTED" = some (some (.int 9 t_MOST_WANTED)))
    (a_CrateError : PySem.W.nsIn K mainGlobals "CrateError" = some (some (.ref C_CrateError)))
    (a_BadPlan : PySem.W.nsIn K mainGlobals "BadPlan" = some (some (.ref C_BadPlan)))
    (a_BadNumber : PySem.W.nsIn K mainGlobals "BadNumber" = some (some (.ref C_BadNumber)))
    (a_UnknownKind : PySem.W.nsIn K mainGlobals "UnknownKind" = some (some (.ref C_UnknownKind)))
    (a_UnknownHouse : PySem.W.nsIn K mainGlobals "UnknownHouse" = some (some (.ref C_UnknownHouse)))
    (a_TooMany : PySem.W.nsIn K mainGlobals "TooMany" = some (some (.ref C_TooMany)))
    (a_BadCourse : PySem.W.nsIn K mainGlobals "BadCourse" = some (some (.ref C_BadCourse)))
    (a_BadOrder : PySem.W.nsIn K mainGlobals "BadOrder" = some (some (.ref C_BadOrder)))
    (a_BadTimes : PySem.W.nsIn K mainGlobals "BadTimes" = some (some (.ref C_BadTimes)))
    (a_BadNeeds : PySem.W.nsIn K mainGlobals "BadNeeds" = some (some (.ref C_BadNeeds)))
    (a_BadRows : PySem.W.nsIn K mainGlobals "BadRows" = some (some (.ref C_BadRows)))
    (a_BadCounts : PySem.W.nsIn K mainGlobals "BadCounts" = some (some (.ref C_BadCounts)))
    (a_BadMoves : PySem.W.nsIn K mainGlobals "BadMoves" = some (some (.ref C_BadMoves)))
    (a_BadSuspects : PySem.W.nsIn K mainGlobals "BadSuspects" = some (some (.ref C_BadSuspects)))
    (a_BadSigns : PySem.W.nsIn K mainGlobals "BadSigns" = some (some (.ref C_BadSigns)))
    (a_BadText : PySem.W.nsIn K mainGlobals "BadText" = some (some (.ref C_BadText)))
    (a_BadLine : PySem.W.nsIn K mainGlobals "BadLine" = some (some (.ref C_BadLine)))
    (a_NotPossible : PySem.W.nsIn K mainGlobals "NotPossible" = some (some (.ref C_NotPossible)))
    (a_NotAgreed : PySem.W.nsIn K mainGlobals "NotAgreed" = some (some (.ref C_NotAgreed)))
    (a_BadClaim : PySem.W.nsIn K mainGlobals "BadClaim" = some (some (.ref C_BadClaim)))
    (a_NothingDone : PySem.W.nsIn K mainGlobals "NothingDone" = some (some (.ref C_NothingDone)))
    (z_super : PySem.W.nsIn K mainGlobals "super" = some none)
    (o_BadNumber : K.lookup C_BadNumber = some (excClassObj nm_BadNumber q_BadNumber C_BadNumber NC_BadNumber bs_BadNumber bm_BadNumber true sn_BadNumber sub_BadNumber ab_BadNumber col_BadNumber dd_BadNumber k0_BadNumber k1_BadNumber k2_BadNumber k3_BadNumber k5_BadNumber "ValueError.__new__"))
    (ic_BadNumber : PySem.W.findIn K (.ref C_BadNumber) "__init__" = some (some (.ref fI_BadNumber)))
    (l_BadNumber : K.lookup fI_BadNumber = some ⟨oc_BadNumber, od_BadNumber, .func (PySem.W.ksFn "__init__" "BadNumber.__init__" (defArgs s_BadNumber) (defBody s_BadNumber) (defScope s_BadNumber) .none kV_BadNumber doc_BadNumber pm_BadNumber an_BadNumber (.ref cd_BadNumber) ct_BadNumber cc_BadNumber), osl_BadNumber⟩)
    (lc_BadNumber : K.lookup cd_BadNumber = some ⟨ccl_BadNumber, cdd_BadNumber, .fields fvs_BadNumber, ccs_BadNumber⟩)
    (ce_BadNumber : K.lookup cc_BadNumber = some ⟨cl_BadNumber, cld_BadNumber, .cell (some (.ref C_BadNumber)), csl_BadNumber⟩)
    (fi_BadNumber : fvs_BadNumber[2]? = some (.str file_BadNumber tf_BadNumber))
    (fe_BadNumber : ((l.prog.main.file : Str) == file_BadNumber) = true)
    (v_BadNumber : PySem.HandSPX.refsVE bm_BadNumber = true)
    (b_BadNumber : supB K C_BadNumber fI_BadNumber cd_BadNumber "BadNumber.__init__" ["value"] = true)
    (htop : (l.prog.main.scope.names.lookup ("super" : Str)).isSome = false)
    (kt_NothingDone : kitAll K (.ref C_NothingDone) [("BadNumber", C_BadNumber)] t_NothingDone = true)
    (kt_BadClaim : kitAll K (.ref C_BadClaim) [("BadNumber", C_BadNumber)] t_BadClaim = true)
    (kt_NotAgreed : kitAll K (.ref C_NotAgreed) [("BadNumber", C_BadNumber)] t_NotAgreed = true)
    (kt_NotPossible : kitAll K (.ref C_NotPossible) [("BadNumber", C_BadNumber)] t_NotPossible = true)
    (kt_BadLine : kitAll K (.ref C_BadLine) [("BadNumber", C_BadNumber)] t_BadLine = true)
    (kt_BadText : kitAll K (.ref C_BadText) [("BadNumber", C_BadNumber)] t_BadText = true)
    (kt_BadSigns : kitAll K (.ref C_BadSigns) [("BadNumber", C_BadNumber)] t_BadSigns = true)
    (kt_BadSuspects : kitAll K (.ref C_BadSuspects) [("BadNumber", C_BadNumber)] t_BadSuspects = true)
    (kt_BadMoves : kitAll K (.ref C_BadMoves) [("BadNumber", C_BadNumber)] t_BadMoves = true)
    (kt_BadCounts : kitAll K (.ref C_BadCounts) [("BadNumber", C_BadNumber)] t_BadCounts = true)
    (kt_BadRows : kitAll K (.ref C_BadRows) [("BadNumber", C_BadNumber)] t_BadRows = true)
    (kt_BadNeeds : kitAll K (.ref C_BadNeeds) [("BadNumber", C_BadNumber)] t_BadNeeds = true)
    (kt_BadTimes : kitAll K (.ref C_BadTimes) [("BadNumber", C_BadNumber)] t_BadTimes = true)
    (kt_BadCourse : kitAll K (.ref C_BadCourse) [("BadNumber", C_BadNumber)] t_BadCourse = true)
    (kt_TooMany : kitAll K (.ref C_TooMany) [("BadNumber", C_BadNumber)] t_TooMany = true)
    (kt_UnknownHouse : kitAll K (.ref C_UnknownHouse) [("BadNumber", C_BadNumber)] t_UnknownHouse = true)
    (kt_UnknownKind : kitAll K (.ref C_UnknownKind) [("BadNumber", C_BadNumber)] t_UnknownKind = true)
    (kt_BadOrder : kitAll K (.ref C_BadOrder) [("BadNumber", C_BadNumber)] t_BadOrder = true)
    (kt_BadNumber : kitAll K (.ref C_BadNumber) [("BadNumber", C_BadNumber)] t_BadNumber = true)
    (kt_BadPlan : kitAll K (.ref C_BadPlan) [("BadNumber", C_BadNumber)] t_BadPlan = true)
    (kt_ValueError : kitAll K (.type "ValueError") [("BadNumber", C_BadNumber)] t_ValueError = true)
    (ex_all : excAll K [("BadNumber", C_BadNumber)] = true)
    (em_CrateError : exmAll K (.ref C_CrateError) [("BadNumber", C_BadNumber)] = true)
    (nf_limit : noAll K "limit" [("BadNumber", C_BadNumber)] = true)
    (nf_line : noAll K "line" [("BadNumber", C_BadNumber)] = true)
    (nf_name : noAll K "name" [("BadNumber", C_BadNumber)] = true)
    (nf_part : noAll K "part" [("BadNumber", C_BadNumber)] = true)
    (nf_place : noAll K "place" [("BadNumber", C_BadNumber)] = true)
    (nf_value : noAll K "value" [("BadNumber", C_BadNumber)] = true)
    (a_is_whole : PySem.W.nsIn K mainGlobals "is_whole" = some (some (.ref f_is_whole)))
    (l_is_whole : K.lookup f_is_whole = some ⟨oc_is_whole, od_is_whole, .func (PySem.W.fnOf "is_whole" "is_whole" (defArgs s_is_whole) (defBody s_is_whole) (defScope s_is_whole) .none kV_is_whole dc_is_whole pm_is_whole an_is_whole cd_is_whole ct_is_whole), sl_is_whole⟩)
    (c_is_whole : PySem.W.codeIn K cd_is_whole "is_whole" = true)
    (k_is_whole : PySem.W.keepIn K (.ref f_is_whole) = true)
    (a_is_within : PySem.W.nsIn K mainGlobals "is_within" = some (some (.ref f_is_within)))
    (l_is_within : K.lookup f_is_within = some ⟨oc_is_within, od_is_within, .func (PySem.W.fnOf "is_within" "is_within" (defArgs s_is_within) (defBody s_is_within) (defScope s_is_within) .none kV_is_within dc_is_within pm_is_within an_is_within cd_is_within ct_is_within), sl_is_within⟩)
    (c_is_within : PySem.W.codeIn K cd_is_within "is_within" = true)
    (k_is_within : PySem.W.keepIn K (.ref f_is_within) = true)
    (a_require_wear : PySem.W.nsIn K mainGlobals "require_wear" = some (some (.ref f_require_wear)))
    (l_require_wear : K.lookup f_require_wear = some ⟨oc_require_wear, od_require_wear, .func (PySem.W.fnOf "require_wear" "require_wear" (defArgs s_require_wear) (defBody s_require_wear) (defScope s_require_wear) .none kV_require_wear dc_require_wear pm_require_wear an_require_wear cd_require_wear ct_require_wear), sl_require_wear⟩)
    (c_require_wear : PySem.W.codeIn K cd_require_wear "require_wear" = true)
    (k_require_wear : PySem.W.keepIn K (.ref f_require_wear) = true)
    (a_fewest : PySem.W.nsIn K mainGlobals "fewest" = some (some (.ref f_fewest)))
    (l_fewest : K.lookup f_fewest = some ⟨oc_fewest, od_fewest, .func (PySem.W.fnOf "fewest" "fewest" (defArgs s_fewest) (defBody s_fewest) (defScope s_fewest) .none kV_fewest dc_fewest pm_fewest an_fewest cd_fewest ct_fewest), sl_fewest⟩)
    (c_fewest : PySem.W.codeIn K cd_fewest "fewest" = true)
    (k_fewest : PySem.W.keepIn K (.ref f_fewest) = true)
    (a_schedule : PySem.W.nsIn K mainGlobals "schedule" = some (some (.ref f_schedule)))
    (l_schedule : K.lookup f_schedule = some ⟨oc_schedule, od_schedule, .func (PySem.W.fnOf "schedule" "schedule" (defArgs s_schedule) (defBody s_schedule) (defScope s_schedule) .none kV_schedule dc_schedule pm_schedule an_schedule cd_schedule ct_schedule), sl_schedule⟩)
    (c_schedule : PySem.W.codeIn K cd_schedule "schedule" = true)
    (k_schedule : PySem.W.keepIn K (.ref f_schedule) = true)
    (a__law_taken : PySem.W.nsIn K mainGlobals "_law_taken" = some (some (.ref f__law_taken)))
    (l__law_taken : K.lookup f__law_taken = some ⟨oc__law_taken, od__law_taken, .func (PySem.W.fnOf "_law_taken" "_law_taken" (defArgs s__law_taken) (defBody s__law_taken) (defScope s__law_taken) .none kV__law_taken dc__law_taken pm__law_taken an__law_taken cd__law_taken ct__law_taken), sl__law_taken⟩)
    (c__law_taken : PySem.W.codeIn K cd__law_taken "_law_taken" = true)
    (k__law_taken : PySem.W.keepIn K (.ref f__law_taken) = true)
    (a__law_pick : PySem.W.nsIn K mainGlobals "_law_pick" = some (some (.ref f__law_pick)))
    (l__law_pick : K.lookup f__law_pick = some ⟨oc__law_pick, od__law_pick, .func (PySem.W.fnOf "_law_pick" "_law_pick" (defArgs s__law_pick) (defBody s__law_pick) (defScope s__law_pick) .none kV__law_pick dc__law_pick pm__law_pick an__law_pick cd__law_pick ct__law_pick), sl__law_pick⟩)
    (c__law_pick : PySem.W.codeIn K cd__law_pick "_law_pick" = true)
    (k__law_pick : PySem.W.keepIn K (.ref f__law_pick) = true)
    (a__law_odd : PySem.W.nsIn K mainGlobals "_law_odd" = some (some (.ref f__law_odd)))
    (l__law_odd : K.lookup f__law_odd = some ⟨oc__law_odd, od__law_odd, .func (PySem.W.fnOf "_law_odd" "_law_odd" (defArgs s__law_odd) (defBody s__law_odd) (defScope s__law_odd) .none kV__law_odd dc__law_odd pm__law_odd an__law_odd cd__law_odd ct__law_odd), sl__law_odd⟩)
    (c__law_odd : PySem.W.codeIn K cd__law_odd "_law_odd" = true)
    (k__law_odd : PySem.W.keepIn K (.ref f__law_odd) = true)
    (a__law_refusal : PySem.W.nsIn K mainGlobals "_law_refusal" = some (some (.ref f__law_refusal)))
    (l__law_refusal : K.lookup f__law_refusal = some ⟨oc__law_refusal, od__law_refusal, .func (PySem.W.fnOf "_law_refusal" "_law_refusal" (defArgs s__law_refusal) (defBody s__law_refusal) (defScope s__law_refusal) .none kV__law_refusal dc__law_refusal pm__law_refusal an__law_refusal cd__law_refusal ct__law_refusal), sl__law_refusal⟩)
    (c__law_refusal : PySem.W.codeIn K cd__law_refusal "_law_refusal" = true)
    (k__law_refusal : PySem.W.keepIn K (.ref f__law_refusal) = true)
    (a__law_told : PySem.W.nsIn K mainGlobals "_law_told" = some (some (.ref f__law_told)))
    (l__law_told : K.lookup f__law_told = some ⟨oc__law_told, od__law_told, .func (PySem.W.fnOf "_law_told" "_law_told" (defArgs s__law_told) (defBody s__law_told) (defScope s__law_told) .none kV__law_told dc__law_told pm__law_told an__law_told cd__law_told ct__law_told), sl__law_told⟩)
    (c__law_told : PySem.W.codeIn K cd__law_told "_law_told" = true)
    (k__law_told : PySem.W.keepIn K (.ref f__law_told) = true)
    (a__law_same : PySem.W.nsIn K mainGlobals "_law_same" = some (some (.ref f__law_same)))
    (l__law_same : K.lookup f__law_same = some ⟨oc__law_same, od__law_same, .func (PySem.W.fnOf "_law_same" "_law_same" (defArgs s__law_same) (defBody s__law_same) (defScope s__law_same) .none kV__law_same dc__law_same pm__law_same an__law_same cd__law_same ct__law_same), sl__law_same⟩)
    (c__law_same : PySem.W.codeIn K cd__law_same "_law_same" = true)
    (k__law_same : PySem.W.keepIn K (.ref f__law_same) = true)
    (a__law_alike : PySem.W.nsIn K mainGlobals "_law_alike" = some (some (.ref f__law_alike)))
    (l__law_alike : K.lookup f__law_alike = some ⟨oc__law_alike, od__law_alike, .func (PySem.W.fnOf "_law_alike" "_law_alike" (defArgs s__law_alike) (defBody s__law_alike) (defScope s__law_alike) .none kV__law_alike dc__law_alike pm__law_alike an__law_alike cd__law_alike ct__law_alike), sl__law_alike⟩)
    (c__law_alike : PySem.W.codeIn K cd__law_alike "_law_alike" = true)
    (k__law_alike : PySem.W.keepIn K (.ref f__law_alike) = true)
    (a_is_row : PySem.W.nsIn K mainGlobals "is_row" = some (some (.ref f_is_row)))
    (l_is_row : K.lookup f_is_row = some ⟨oc_is_row, od_is_row, .func (PySem.W.fnOf "is_row" "is_row" (defArgs s_is_row) (defBody s_is_row) (defScope s_is_row) .none kV_is_row dc_is_row pm_is_row an_is_row cd_is_row ct_is_row), sl_is_row⟩)
    (c_is_row : PySem.W.codeIn K cd_is_row "is_row" = true)
    (k_is_row : PySem.W.keepIn K (.ref f_is_row) = true)
    (a_used : PySem.W.nsIn K mainGlobals "used" = some (some (.ref f_used)))
    (l_used : K.lookup f_used = some ⟨oc_used, od_used, .func (PySem.W.fnOf "used" "used" (defArgs s_used) (defBody s_used) (defScope s_used) .none kV_used dc_used pm_used an_used cd_used ct_used), sl_used⟩)
    (c_used : PySem.W.codeIn K cd_used "used" = true)
    (k_used : PySem.W.keepIn K (.ref f_used) = true)
    (a_is_schedule : PySem.W.nsIn K mainGlobals "is_schedule" = some (some (.ref f_is_schedule)))
    (l_is_schedule : K.lookup f_is_schedule = some ⟨oc_is_schedule, od_is_schedule, .func (PySem.W.fnOf "is_schedule" "is_schedule" (defArgs s_is_schedule) (defBody s_is_schedule) (defScope s_is_schedule) .none kV_is_schedule dc_is_schedule pm_is_schedule an_is_schedule cd_is_schedule ct_is_schedule), sl_is_schedule⟩)
    (c_is_schedule : PySem.W.codeIn K cd_is_schedule "is_schedule" = true)
    (k_is_schedule : PySem.W.keepIn K (.ref f_is_schedule) = true)
    (a_most_rounds : PySem.W.nsIn K mainGlobals "most_rounds" = some (some (.ref f_most_rounds)))
    (l_most_rounds : K.lookup f_most_rounds = some ⟨oc_most_rounds, od_most_rounds, .func (PySem.W.fnOf "most_rounds" "most_rounds" (defArgs s_most_rounds) (defBody s_most_rounds) (defScope s_most_rounds) .none kV_most_rounds dc_most_rounds pm_most_rounds an_most_rounds cd_most_rounds ct_most_rounds), sl_most_rounds⟩)
    (c_most_rounds : PySem.W.codeIn K cd_most_rounds "most_rounds" = true)
    (k_most_rounds : PySem.W.keepIn K (.ref f_most_rounds) = true)
    (a_needed_uses : PySem.W.nsIn K mainGlobals "needed_uses" = some (some (.ref f_needed_uses)))
    (l_needed_uses : K.lookup f_needed_uses = some ⟨oc_needed_uses, od_needed_uses, .func (PySem.W.fnOf "needed_uses" "needed_uses" (defArgs s_needed_uses) (defBody s_needed_uses) (defScope s_needed_uses) .none kV_needed_uses dc_needed_uses pm_needed_uses an_needed_uses cd_needed_uses ct_needed_uses), sl_needed_uses⟩)
    (c_needed_uses : PySem.W.codeIn K cd_needed_uses "needed_uses" = true)
    (k_needed_uses : PySem.W.keepIn K (.ref f_needed_uses) = true)
    (a_uses_left : PySem.W.nsIn K mainGlobals "uses_left" = some (some (.ref f_uses_left)))
    (l_uses_left : K.lookup f_uses_left = some ⟨oc_uses_left, od_uses_left, .func (PySem.W.fnOf "uses_left" "uses_left" (defArgs s_uses_left) (defBody s_uses_left) (defScope s_uses_left) .none kV_uses_left dc_uses_left pm_uses_left an_uses_left cd_uses_left ct_uses_left), sl_uses_left⟩)
    (c_uses_left : PySem.W.codeIn K cd_uses_left "uses_left" = true)
    (k_uses_left : PySem.W.keepIn K (.ref f_uses_left) = true)
    (a_law : PySem.W.nsIn K mainGlobals "law" = some (some (.ref f_law)))
    (l_law : K.lookup f_law = some ⟨oc_law, od_law, .func (PySem.W.fnOf "law" "law" (defArgs s_law) (defBody s_law) (defScope s_law) .none kV_law dc_law pm_law an_law (.ref cd_law) ct_law), sl_law⟩)
    (c_law : PySem.W.codeIn K (.ref cd_law) "law" = true)
    (k_law : PySem.W.keepIn K (.ref f_law) = true)
    (tb_law : PySem.W.tabIn K "law" = some (cd_law, P_law))
    (re_law : ((PyProof.Rows.recsOf q).find? (fun e => e.name == ("law" : Str))).isSome = true)
    (no_tabs : PySem.W.noTabs K = true) :
    AtCall l.prog w K mg 12 63 "script" fa h := by
  constructor
  have GG := T0.g
  have e := hfa.symm.trans (PySem.W.mg_of X GG a_law)
  cases e
  have T : Facts K mg := ⟨PySem.W.mg_none_of X GG z_ValueError, PySem.W.mg_none_of X GG z_all, PySem.W.mg_none_of X GG z_bool, PySem.W.mg_none_of X GG z_int, PySem.W.mg_none_of X GG z_isinstance, PySem.W.mg_none_of X GG z_len, PySem.W.mg_none_of X GG z_list, PySem.W.mg_none_of X GG z_max, PySem.W.mg_none_of X GG z_min, PySem.W.mg_none_of X GG z_range, PySem.W.mg_none_of X GG z_repr, PySem.W.mg_none_of X GG z_sorted, PySem.W.mg_none_of X GG z_str, PySem.W.mg_none_of X GG z_tuple, PySem.W.mg_none_of X GG z_zip, ⟨_, PySem.W.mg_of X GG q_MOST_ROUNDS⟩, ⟨_, PySem.W.mg_of X GG q_MOST_USES⟩, ⟨_, PySem.W.mg_of X GG q_MOST_WANTED⟩⟩
  have F_is_whole := fun_mk (st := s_is_whole) l_is_whole c_is_whole k_is_whole
  have b_is_whole := F_is_whole.binds (ps := ["value"]) fun _ _ _ _ _ _ us hl => match us, hl with | [_], _ => rfl
  have F_is_within := fun_mk (st := s_is_within) l_is_within c_is_within k_is_within
  have b_is_within := F_is_within.binds (ps := ["value", "least", "most"]) fun _ _ _ _ _ _ us hl => match us, hl with | [_, _, _], _ => rfl
  have F_require_wear := fun_mk (st := s_require_wear) l_require_wear c_require_wear k_require_wear
  have b_require_wear := F_require_wear.binds (ps := ["rounds", "wanted", "uses"]) fun _ _ _ _ _ _ us hl => match us, hl with | [_, _, _], _ => rfl
  have F_fewest := fun_mk (st := s_fewest) l_fewest c_fewest k_fewest
  have b_fewest := F_fewest.binds (ps := ["rounds", "wanted", "uses"]) fun _ _ _ _ _ _ us hl => match us, hl with | [_, _, _], _ => rfl
  have F_schedule := fun_mk (st := s_schedule) l_schedule c_schedule k_schedule
  have b_schedule := F_schedule.binds (ps := ["rounds", "wanted", "uses"]) fun _ _ _ _ _ _ us hl => match us, hl with | [_, _, _], _ => rfl
  have F__law_taken := fun_mk (st := s__law_taken) l__law_taken c__law_taken k__law_taken
  have b__law_taken := F__law_taken.binds (ps := ["row", "many"]) fun _ _ _ _ _ _ us hl => match us, hl with | [_, _], _ => rfl
  have F__law_pick := fun_mk (st := s__law_pick) l__law_pick c__law_pick k__law_pick
  have b__law_pick := F__law_pick.binds (ps := ["row", "things"]) fun _ _ _ _ _ _ us hl => match us, hl with | [_, _], _ => rfl
  have F__law_odd := fun_mk (st := s__law_odd) l__law_odd c__law_odd k__law_odd
  have b__law_odd := F__law_odd.binds (ps := ["row"]) fun _ _ _ _ _ _ us hl => match us, hl with | [_], _ => rfl
  have F__law_refusal := fun_mk (st := s__law_refusal) l__law_refusal c__law_refusal k__law_refusal
  have b__law_refusal := F__law_refusal.binds (ps := ["e"]) fun _ _ _ _ _ _ us hl => match us, hl with | [_], _ => rfl
  have F__law_told := fun_mk (st := s__law_told) l__law_told c__law_told k__law_told
  have b__law_told := F__law_told.binds (ps := ["call"]) fun _ _ _ _ _ _ us hl => match us, hl with | [_], _ => rfl
  have F__law_same := fun_mk (st := s__law_same) l__law_same c__law_same k__law_same
  have b__law_same := F__law_same.binds (ps := ["found", "due"]) fun _ _ _ _ _ _ us hl => match us, hl with | [_, _], _ => rfl
  have F__law_alike := fun_mk (st := s__law_alike) l__law_alike c__law_alike k__law_alike
  have b__law_alike := F__law_alike.binds (ps := ["found", "due"]) fun _ _ _ _ _ _ us hl => match us, hl with | [_, _], _ => rfl
  have F_is_row := fun_mk (st := s_is_row) l_is_row c_is_row k_is_row
  have b_is_row := F_is_row.binds (ps := ["value", "size"]) fun _ _ _ _ _ _ us hl => match us, hl with | [_, _], _ => rfl
  have F_used := fun_mk (st := s_used) l_used c_used k_used
  have b_used := F_used.binds (ps := ["value", "piece"]) fun _ _ _ _ _ _ us hl => match us, hl with | [_, _], _ => rfl
  have F_is_schedule := fun_mk (st := s_is_schedule) l_is_schedule c_is_schedule k_is_schedule
  have b_is_schedule := F_is_schedule.binds (ps := ["rounds", "wanted", "uses", "many", "value"]) fun _ _ _ _ _ _ us hl => match us, hl with | [_, _, _, _, _], _ => rfl
  have F_most_rounds := fun_mk (st := s_most_rounds) l_most_rounds c_most_rounds k_most_rounds
  have b_most_rounds := F_most_rounds.binds (ps := ["many", "wanted", "uses"]) fun _ _ _ _ _ _ us hl => match us, hl with | [_, _, _], _ => rfl
  have F_needed_uses := fun_mk (st := s_needed_uses) l_needed_uses c_needed_uses k_needed_uses
  have b_needed_uses := F_needed_uses.binds (ps := ["rounds", "wanted", "many"]) fun _ _ _ _ _ _ us hl => match us, hl with | [_, _, _], _ => rfl
  have F_uses_left := fun_mk (st := s_uses_left) l_uses_left c_uses_left k_uses_left
  have b_uses_left := F_uses_left.binds (ps := ["rounds", "wanted", "uses"]) fun _ _ _ _ _ _ us hl => match us, hl with | [_, _, _], _ => rfl
  have F_law := funC_mk (s := s_law) l_law c_law k_law
  obtain ⟨hd_law, ta_law⟩ := tab_at T0 X re_law tb_law
  have b_law := F_law.fn.binds (ps := ["script"]) fun _ _ _ _ _ _ us hl => match us, hl with | [_], _ => rfl
  refine ⟨PySem.W.fnOf "law" "law" (defArgs s_law) (defBody s_law) (defScope s_law) .none kV_law dc_law pm_law an_law (.ref cd_law) ct_law, [(cd_law, P_law)], spM (GW K [("BadNumber", C_BadNumber)] [(P_law, (("law" : Str) ++ (".<locals>." : Str) ++ ("<lambda>" : Str)))]) 1 dn_law, ?_, ?_, ?_, fun s v => .of_eq rfl, ?_, fun base KB NB TBs => ?_⟩
  · intro p hp
    simp only [List.mem_cons, List.not_mem_nil, or_false] at hp
    obtain rfl := hp
    exact ta_law
  · intro p hp
    simp only [List.mem_cons, List.not_mem_nil, or_false] at hp
    obtain rfl := hp
    exact tab_out X ta_law no_tabs
  · intro p hp
    simp only [List.mem_cons, List.not_mem_nil, or_false] at hp
    obtain rfl := hp
    exact hd_law
  · intro H a ns hl hb ht hS
    refine law_sp (K := K) (main ns hl hb) hS rfl ?_
    intro p hp
    obtain ⟨x, hx, ex⟩ : ∃ x ∈ ([(cd_law, P_law)] : List (Addr × Addr)), x.2 = p.1 := by
      simp only [GW, List.mem_cons, List.not_mem_nil, or_false] at hp
      rcases hp with rfl
      exact ⟨(cd_law, P_law), by simp, rfl⟩
    exact PZ.tab0 (Z := fun _ => False) id (ex ▸ ht x hx)
  have XF : FactsX l.prog w K mg base (GW K [("BadNumber", C_BadNumber)] [(P_law, (("law" : Str) ++ (".<locals>." : Str) ++ ("<lambda>" : Str)))]) := ⟨⟨fun c C h => (excAll_ok ex_all c C h).1, fun c C h => (excAll_ok ex_all c C h).2⟩, ⟨_, PySem.W.mg_of X GG a_NothingDone, kitAll_ok kt_NothingDone⟩, ⟨_, PySem.W.mg_of X GG a_BadClaim, kitAll_ok kt_BadClaim⟩, ⟨_, PySem.W.mg_of X GG a_NotAgreed, kitAll_ok kt_NotAgreed⟩, ⟨_, PySem.W.mg_of X GG a_NotPossible, kitAll_ok kt_NotPossible⟩, ⟨_, PySem.W.mg_of X GG a_BadLine, kitAll_ok kt_BadLine⟩, ⟨_, PySem.W.mg_of X GG a_BadText, kitAll_ok kt_BadText⟩, ⟨_, PySem.W.mg_of X GG a_BadSigns, kitAll_ok kt_BadSigns⟩, ⟨_, PySem.W.mg_of X GG a_BadSuspects, kitAll_ok kt_BadSuspects⟩, ⟨_, PySem.W.mg_of X GG a_BadMoves, kitAll_ok kt_BadMoves⟩, ⟨_, PySem.W.mg_of X GG a_BadCounts, kitAll_ok kt_BadCounts⟩, ⟨_, PySem.W.mg_of X GG a_BadRows, kitAll_ok kt_BadRows⟩, ⟨_, PySem.W.mg_of X GG a_BadNeeds, kitAll_ok kt_BadNeeds⟩, ⟨_, PySem.W.mg_of X GG a_BadTimes, kitAll_ok kt_BadTimes⟩, ⟨_, PySem.W.mg_of X GG a_BadCourse, kitAll_ok kt_BadCourse⟩, ⟨_, PySem.W.mg_of X GG a_TooMany, kitAll_ok kt_TooMany⟩, ⟨_, PySem.W.mg_of X GG a_UnknownHouse, kitAll_ok kt_UnknownHouse⟩, ⟨_, PySem.W.mg_of X GG a_UnknownKind, kitAll_ok kt_UnknownKind⟩, ⟨_, PySem.W.mg_of X GG a_BadOrder, kitAll_ok kt_BadOrder⟩, ⟨_, PySem.W.mg_of X GG a_BadNumber, kitAll_ok kt_BadNumber⟩, ⟨_, PySem.W.mg_of X GG a_BadPlan, kitAll_ok kt_BadPlan⟩, kitAll_ok kt_ValueError, noAll_ok nf_limit, noAll_ok nf_line, noAll_ok nf_name, noAll_ok nf_part, noAll_ok nf_place, noAll_ok nf_value, x_BadNumber (supK_mk o_BadNumber v_BadNumber l_BadNumber lc_BadNumber fi_BadNumber fe_BadNumber ce_BadNumber b_BadNumber (PySem.W.mg_none_of X GG z_super) htop) (PySem.W.mg_of X GG a_BadNumber) rfl⟩
  have hTB := TBs
  have m_is_whole := ok_is_whole (P := l.prog) (w := w) (base := base) (G := (GW K [("BadNumber", C_BadNumber)] [(P_law, (("law" : Str) ++ (".<locals>." : Str) ++ ("<lambda>" : Str)))])) T XF rfl F_is_whole (PySem.W.mg_of X GG a_is_whole) b_is_whole 
  have m_is_within := ok_is_within (P := l.prog) (w := w) (base := base) (G := (GW K [("BadNumber", C_BadNumber)] [(P_law, (("law" : Str) ++ (".<locals>." : Str) ++ ("<lambda>" : Str)))])) T XF rfl F_is_within (PySem.W.mg_of X GG a_is_within) b_is_within m_is_whole
  have m_require_wear := ok_require_wear (P := l.prog) (w := w) (base := base) (G := (GW K [("BadNumber", C_BadNumber)] [(P_law, (("law" : Str) ++ (".<locals>." : Str) ++ ("<lambda>" : Str)))])) T XF rfl F_require_wear (PySem.W.mg_of X GG a_require_wear) b_require_wear m_is_within
  have m_fewest := ok_fewest (P := l.prog) (w := w) (base := base) (G := (GW K [("BadNumber", C_BadNumber)] [(P_law, (("law" : Str) ++ (".<locals>." : Str) ++ ("<lambda>" : Str)))])) T XF rfl F_fewest (PySem.W.mg_of X GG a_fewest) b_fewest m_require_wear
  have m_schedule := ok_schedule (P := l.prog) (w := w) (base := base) (G := (GW K [("BadNumber", C_BadNumber)] [(P_law, (("law" : Str) ++ (".<locals>." : Str) ++ ("<lambda>" : Str)))])) T XF rfl F_schedule (PySem.W.mg_of X GG a_schedule) b_schedule m_fewest
  have m__law_taken := ok__law_taken (P := l.prog) (w := w) (base := base) (G := (GW K [("BadNumber", C_BadNumber)] [(P_law, (("law" : Str) ++ (".<locals>." : Str) ++ ("<lambda>" : Str)))])) T XF rfl F__law_taken (PySem.W.mg_of X GG a__law_taken) b__law_taken 
  have m__law_pick := ok__law_pick (P := l.prog) (w := w) (base := base) (G := (GW K [("BadNumber", C_BadNumber)] [(P_law, (("law" : Str) ++ (".<locals>." : Str) ++ ("<lambda>" : Str)))])) T XF rfl F__law_pick (PySem.W.mg_of X GG a__law_pick) b__law_pick m__law_taken
  have m__law_odd := ok__law_odd (P := l.prog) (w := w) (base := base) (G := (GW K [("BadNumber", C_BadNumber)] [(P_law, (("law" : Str) ++ (".<locals>." : Str) ++ ("<lambda>" : Str)))])) T XF rfl F__law_odd (PySem.W.mg_of X GG a__law_odd) b__law_odd m__law_pick
  have m__law_refusal := ok__law_refusal (P := l.prog) (w := w) (base := base) (G := (GW K [("BadNumber", C_BadNumber)] [(P_law, (("law" : Str) ++ (".<locals>." : Str) ++ ("<lambda>" : Str)))])) T XF rfl F__law_refusal
  have m__law_told := ok__law_told (P := l.prog) (w := w) (base := base) (G := (GW K [("BadNumber", C_BadNumber)] [(P_law, (("law" : Str) ++ (".<locals>." : Str) ++ ("<lambda>" : Str)))])) F__law_told (PySem.W.mg_of X GG a__law_told) b__law_told F__law_refusal (PySem.W.mg_of X GG a__law_refusal) b__law_refusal m__law_refusal (PySem.W.mg_of X GG a_CrateError) (exmAll_ok em_CrateError)
  have m__law_same := ok__law_same (P := l.prog) (w := w) (base := base) (G := (GW K [("BadNumber", C_BadNumber)] [(P_law, (("law" : Str) ++ (".<locals>." : Str) ++ ("<lambda>" : Str)))])) T XF rfl F__law_same (PySem.W.mg_of X GG a__law_same) b__law_same 
  have m__law_alike := ok__law_alike (P := l.prog) (w := w) (base := base) (G := (GW K [("BadNumber", C_BadNumber)] [(P_law, (("law" : Str) ++ (".<locals>." : Str) ++ ("<lambda>" : Str)))])) T XF rfl F__law_alike (PySem.W.mg_of X GG a__law_alike) b__law_alike 
  have m_is_row := ok_is_row (P := l.prog) (w := w) (base := base) (G := (GW K [("BadNumber", C_BadNumber)] [(P_law, (("law" : Str) ++ (".<locals>." : Str) ++ ("<lambda>" : Str)))])) T XF rfl F_is_row (PySem.W.mg_of X GG a_is_row) b_is_row 
  have m_used := ok_used (P := l.prog) (w := w) (base := base) (G := (GW K [("BadNumber", C_BadNumber)] [(P_law, (("law" : Str) ++ (".<locals>." : Str) ++ ("<lambda>" : Str)))])) T XF rfl F_used (PySem.W.mg_of X GG a_used) b_used 
  have m_is_schedule := ok_is_schedule (P := l.prog) (w := w) (base := base) (G := (GW K [("BadNumber", C_BadNumber)] [(P_law, (("law" : Str) ++ (".<locals>." : Str) ++ ("<lambda>" : Str)))])) T XF rfl F_is_schedule (PySem.W.mg_of X GG a_is_schedule) b_is_schedule m_is_whole m_is_within m_require_wear m_is_row m_used
  have m_most_rounds := ok_most_rounds (P := l.prog) (w := w) (base := base) (G := (GW K [("BadNumber", C_BadNumber)] [(P_law, (("law" : Str) ++ (".<locals>." : Str) ++ ("<lambda>" : Str)))])) T XF rfl F_most_rounds (PySem.W.mg_of X GG a_most_rounds) b_most_rounds m_is_within m_require_wear m_fewest
  have m_needed_uses := ok_needed_uses (P := l.prog) (w := w) (base := base) (G := (GW K [("BadNumber", C_BadNumber)] [(P_law, (("law" : Str) ++ (".<locals>." : Str) ++ ("<lambda>" : Str)))])) T XF rfl F_needed_uses (PySem.W.mg_of X GG a_needed_uses) b_needed_uses m_is_within m_require_wear m_fewest
  have m_uses_left := ok_uses_left (P := l.prog) (w := w) (base := base) (G := (GW K [("BadNumber", C_BadNumber)] [(P_law, (("law" : Str) ++ (".<locals>." : Str) ++ ("<lambda>" : Str)))])) T XF rfl F_uses_left (PySem.W.mg_of X GG a_uses_left) b_uses_left m_fewest m_schedule m_used
  have hu_law : ∀ p ∈ (GW K [("BadNumber", C_BadNumber)] [(P_law, (("law" : Str) ++ (".<locals>." : Str) ++ ("<lambda>" : Str)))]).T, p.1 = P_law → p.2 = (("law" : Str) ++ (".<locals>." : Str) ++ ("<lambda>" : Str)) := by
    intro p hp e
    simp only [GW, List.mem_cons, List.not_mem_nil, or_false] at hp
    rcases hp with rfl
    rfl
  exact ok_law (P := l.prog) (w := w) (base := base) (G := (GW K [("BadNumber", C_BadNumber)] [(P_law, (("law" : Str) ++ (".<locals>." : Str) ++ ("<lambda>" : Str)))])) T XF rfl (hTB (cd_law, P_law) (by simp)) (by simp [GW]) hu_law F_law hfa b_law m_fewest m_schedule m__law_taken m__law_pick m__law_odd m__law_told m__law_same (m__law_alike 10) m_is_schedule m_most_rounds m_needed_uses m_uses_left
theorem walk {l : PySem.W.OpenLaw} {q : Program} {loose : List Str} {XP : (Str → Option Value) → Heap → Prop} {YP : World → Heap → Prop} {d : DefRec} {K : Params → PySem.W.Frag} (hn : l.most = some 63) (hdf : d.params.defaults = [])
    (hY : ∀ (w : World) (h : Heap), YP w h → (K w.params).In h)
    (F : ∀ (w : World) (mg mb : Str → Option Value) (mean : ExcName → Option Value) (fa : Addr) (h : Heap), PyProof.Rows.Top q (PySem.W.looseW q loose) mean mg mb h → (K w.params).In h → mg d.name = some (.ref fa) → AtCall l.prog w (K w.params) mg 12 63 "script" fa h) :
    PySem.W.WalkO q loose XP YP l.row.toRowW d [] (fun f vs => PySem.call f vs) :=
  M.walk_at hn (by rw [sizeLine_eq]; decide) hdf ⟨rfl, by decide, by decide⟩ hY F
end Law
namespace Law
open PySem PySem.Spec L2 M
theorem sm31 : small 31 = true := small_iff.mpr (by omega)
theorem sm48 : small 48271 = true := small_iff.mpr (by omega)
theorem is_whole_int (i : Int) : dn_is_whole [.p (.int i)] [] = .ok (.bl true) [] := by
  simp [dn_is_whole]
theorem is_within_int (v a b : Int) : dn_is_within [.p (.int v), .p (.int a), .p (.int b)] [] = .ok (.bl (decide (a ≤ v) && decide (v ≤ b))) [] := by
  simp [dn_is_within, is_whole_int, dLe]
  by_cases h : a ≤ v <;> simp [h]
theorem require_ok {r w u : Int} (hr : 0 ≤ r ∧ r ≤ 30) (hw : 0 ≤ w ∧ w ≤ 9) (hu : 1 ≤ u ∧ u ≤ 30) : dn_require_wear [.p (.int r), .p (.int w), .p (.int u)] [] = .ok .non [] := by
  simp [dn_require_wear, is_within_int, hr, hw, hu]
def fewest (r w u : Int) : Int := if r = 0 then 0 else max w ((r * w + u - 1) / u)
theorem fewest_ok {r w u : Int} (hr : 0 ≤ r ∧ r ≤ 30) (hw : 0 ≤ w ∧ w ≤ 9) (hu : 1 ≤ u ∧ u ≤ 30) : dn_fewest [.p (.int r), .p (.int w), .p (.int u)] [] = .ok (.int (fewest r w u)) [] := by
  have hs : small r = true := small_iff.mpr (by omega)
  have h1 : 0 < u := by omega
  have h2 : u < 1073741824 := by omega
  by_cases h : r = 0
  · subst h
    simp [dn_fewest, require_ok hr hw hu, dEq, fewest]
  · simp [dn_fewest, require_ok hr hw hu, dEq, fewest, h, dMul, dAdd, dSub, dFdiv, dMax2, hs, h1, h2]
    omega
def Flat (st : Sto) : Prop := ∀ o ∈ st, ∀ c fs, o ≠ O.ins c fs
theorem Flat.all {st : Sto} {k : Nat} (h : Flat st) : st.all (O.refsBelow k) = true := by
  rw [List.all_eq_true]
  intro o ho
  cases o with
  | ins c fs => exact absurd rfl (h _ ho c fs)
  | _ => rfl
def RowOk (ns : List Int) (row : List D) : Prop := ∃ i r c : Int, row = [.scr ns, .int i, .int r, .int c] ∧ 0 ≤ i ∧ 0 ≤ r ∧ r < 2147483647 ∧ 0 ≤ c
theorem atI_4 {α : Type} (a b c d : α) : atI [a, b, c, d] 0 = some a ∧ atI [a, b, c, d] 1 = some b ∧ atI [a, b, c, d] 2 = some c ∧ atI [a, b, c, d] 3 = some d := ⟨rfl, rfl, rfl, rfl⟩
theorem taken {ns : List Int} {row : List D} {rest : Sto} {m : Int} (hr : RowOk ns row) (hf : Flat rest) (h0 : 0 < m) (h1 : m ≤ 1000000) :
    ∃ v row', RowOk ns row' ∧ 0 ≤ v ∧ v < m ∧ dn__law_taken [.r 0, .p (.int m)] (.lst row :: rest) = .ok (.int v) (.lst row' :: rest) := by
  obtain ⟨i, r, c, rfl, hi, hr0, hr1, hc⟩ := hr
  have hm : m < 1073741824 := by omega
  by_cases hc0 : 0 < c
  · refine ⟨c % m, [.scr ns, .int i, .int r, .int (c / m)], ⟨i, r, c / m, rfl, hi, hr0, hr1, Int.ediv_nonneg hc (by omega)⟩, Int.emod_nonneg _ (by omega), Int.emod_lt_of_pos _ h0, ?_⟩
    simp [dn__law_taken, lstAt, thaw, dIx, atI, ixN, dGt, dMod, dInt, dFdiv, hc0, h0, hm, hf.all]
  · have hc0' : c = 0 := by omega
    subst hc0'
    by_cases hl : (ns.length : Int) < i + 1
    · refine ⟨(r * 48271 + 11) % 2147483647 / 7 % m, [.scr ns, .int (i + 1), .int ((r * 48271 + 11) % 2147483647), .int 0], ⟨_, _, _, rfl, by omega, Int.emod_nonneg _ (by omega), Int.emod_lt_of_pos _ (by omega), by omega⟩, Int.emod_nonneg _ (by omega), Int.emod_lt_of_pos _ h0, ?_⟩
      simp [dn__law_taken, lstAt, thaw, dIx, atI, ixN, dGt, dMod, dInt, dFdiv, dAdd, dMul, dLen, sm31, sm48, h0, hm, hl, hf.all]
    · obtain ⟨cell, hcell⟩ : ∃ cell, ns[i.toNat]? = some cell := ⟨_, List.getElem?_eq_getElem (show i.toNat < ns.length by omega)⟩
      have hi2 : i < (ns.length : Int) := by omega
      have hx : atI ns i = some cell := by
        unfold atI ixN
        rw [if_pos hi, if_pos hi2]
        exact hcell
      have hp : (10 : Int) ^ (18 : Nat) = 1000000000000000000 := by decide
      have hsm : ∀ z : Int, small (z % 1000003) = true := fun z => by
        have h1 := Int.emod_nonneg z (show (1000003 : Int) ≠ 0 by decide)
        have h2 := Int.emod_lt_of_pos z (show (0 : Int) < 1000003 by decide)
        exact small_iff.mpr (by omega)
      by_cases hg : (1000000000000000000 : Int) ≤ cell
      · refine ⟨cell % m, [.scr ns, .int (i + 1), .int ((r * 48271 + cell + 11) % 2147483647), .int (cell / m)], ⟨_, _, _, rfl, by omega, Int.emod_nonneg _ (by omega), Int.emod_lt_of_pos _ (by omega), Int.ediv_nonneg (by omega) (by omega)⟩, Int.emod_nonneg _ (by omega), Int.emod_lt_of_pos _ h0, ?_⟩
        simp [dn__law_taken, lstAt, thaw, dIx, ixN, atI_4, hx, dGt, dGe, dMod, dInt, dFdiv, dAdd, dSub, dMul, dPow, dLen, sm31, sm48, h0, hm, hl, hf.all, hg, hp]
      · refine ⟨(cell % 1000003 * 31 + (r * 48271 + cell + 11) % 2147483647 / 11) % m, [.scr ns, .int (i + 1), .int ((r * 48271 + cell + 11) % 2147483647), .int 0], ⟨_, _, _, rfl, by omega, Int.emod_nonneg _ (by omega), Int.emod_lt_of_pos _ (by omega), by omega⟩, Int.emod_nonneg _ (by omega), Int.emod_lt_of_pos _ h0, ?_⟩
        simp [dn__law_taken, lstAt, thaw, dIx, ixN, atI_4, hx, dGt, dGe, dMod, dInt, dFdiv, dAdd, dSub, dMul, dPow, dLen, sm31, sm48, h0, hm, hl, hf.all, hg, hp]
end Law
namespace M
theorem insI_rises (x : Int) : ∀ l, l.Pairwise (· ≤ ·) → (insI x l).Pairwise (· ≤ ·)
  | [], _ => by simp [insI]
  | y :: l, h => by
    unfold insI
    rw [List.pairwise_cons] at h
    split
    · rename_i hxy
      rw [List.pairwise_cons, List.pairwise_cons]
      refine ⟨fun z hz => ?_, h⟩
      rcases List.mem_cons.mp hz with rfl | hz
      · exact hxy
      · exact Int.le_trans hxy (h.1 z hz)
    · rename_i hxy
      rw [List.pairwise_cons]
      refine ⟨fun z hz => ?_, insI_rises x l h.2⟩
      rcases List.mem_cons.mp ((insI_perm x l).mem_iff.mp hz) with rfl | hz
      · omega
      · exact h.1 z hz
theorem sortI_rises : ∀ l, (sortI l).Pairwise (· ≤ ·)
  | [] => .nil
  | x :: l => insI_rises x _ (sortI_rises l)
theorem strict_of {l : List Int} (h : l.Pairwise (· ≤ ·)) (n : l.Nodup) : l.Pairwise (· < ·) := by
  have := List.pairwise_and_iff.mpr ⟨h, n⟩
  exact this.imp fun {a b} h => by have := h.1; have := h.2; omega
end M
namespace Law
open M
/-! ### counting -/
def raw (W F : Nat) (t : Nat) : List Int := (List.range W).map fun p => ((t : Int) * (W : Int) + (p : Nat)) % (F : Int)
def rowN (W F : Nat) (t : Nat) : List Int := sortI (raw W F t)
theorem emod_inj {F a b : Int} (hF : 0 < F) (h : a % F = b % F) (h1 : a - b < F) (h2 : b - a < F) : a = b := by
  have e1 := Int.mul_ediv_add_emod a F
  have e2 := Int.mul_ediv_add_emod b F
  have e3 : a - b = F * (a / F - b / F) := by rw [Int.mul_sub]; omega
  by_cases hq : a / F - b / F = 0
  · rw [hq, Int.mul_zero] at e3; omega
  · exfalso
    by_cases hp : 0 < a / F - b / F
    · have : F * 1 ≤ F * (a / F - b / F) := Int.mul_le_mul_of_nonneg_left (by omega) (by omega)
      omega
    · have : F * (a / F - b / F) ≤ F * (-1) := Int.mul_le_mul_of_nonneg_left (by omega) (by omega)
      omega
theorem raw_nodup {W F : Nat} (h : W ≤ F) (t : Nat) : (raw W F t).Nodup := by
  unfold raw
  rw [List.Nodup, List.pairwise_map]
  have := (List.nodup_range (n := W))
  refine List.Pairwise.imp_of_mem ?_ this
  intro a b ha hb hab e
  have ha := List.mem_range.mp ha
  have hb := List.mem_range.mp hb
  have := emod_inj (by omega) e (by omega) (by omega)
  omega
theorem row_strict {W F : Nat} (h : W ≤ F) (t : Nat) : (rowN W F t).Pairwise (· < ·) :=
  strict_of (sortI_rises _) ((sortI_perm _).nodup_iff.mpr (raw_nodup h t))
theorem row_nodup {W F : Nat} (h : W ≤ F) (t : Nat) : (rowN W F t).Nodup := (sortI_perm _).nodup_iff.mpr (raw_nodup h t)
theorem row_length {W F : Nat} (t : Nat) : (rowN W F t).length = W := by
  rw [rowN, (sortI_perm _).length_eq, raw, List.length_map, List.length_range]
theorem row_range {W F : Nat} (h : W ≤ F) (t : Nat) : ∀ x ∈ rowN W F t, 0 ≤ x ∧ x < F := by
  intro x hx
  obtain ⟨p, hp, rfl⟩ := List.mem_map.mp ((sortI_perm _).mem_iff.mp hx)
  have := List.mem_range.mp hp
  exact ⟨Int.emod_nonneg _ (by omega), Int.emod_lt_of_pos _ (by omega)⟩
def cnt (F : Nat) (p : Int) : Nat → Nat
  | 0 => 0
  | n + 1 => cnt F p n + if (n : Int) % (F : Int) = p then 1 else 0
theorem cnt_mono {F : Nat} {p : Int} {a b : Nat} (h : a ≤ b) : cnt F p a ≤ cnt F p b := by
  induction h with
  | refl => exact Nat.le_refl _
  | step h ih => rw [cnt]; omega
theorem cnt_block {F : Nat} {p : Int} (h0 : 0 ≤ p) (U : Nat) : ∀ j : Nat, j ≤ F → cnt F p (F * U + j) = cnt F p (F * U) + if p < (j : Int) then 1 else 0
  | 0, _ => by
    rw [if_neg (by omega)]
    rfl
  | j + 1, h => by
    have ih := cnt_block (F := F) h0 U j (by omega)
    have e : ((F * U + j : Nat) : Int) % (F : Int) = (j : Int) := by
      rw [Int.natCast_add, Int.natCast_mul, Int.add_comm, Int.add_mul_emod_self_left]
      exact Int.emod_eq_of_lt (a := (j : Int)) (b := (F : Int)) (by omega) (by omega)
    rw [show F * U + (j + 1) = (F * U + j) + 1 from rfl, cnt, ih, e]
    split <;> split <;> split <;> omega
theorem cnt_full {F : Nat} {p : Int} (h0 : 0 ≤ p) (h1 : p < F) : ∀ U, cnt F p (F * U) = U
  | 0 => rfl
  | U + 1 => by
    rw [Nat.mul_succ, cnt_block h0 U F (Nat.le_refl _), cnt_full h0 h1 U, if_pos h1]
theorem count_raw {W F : Nat} (p : Int) (t : Nat) : cnt F p (t * W) + (raw W F t).count p = cnt F p ((t + 1) * W) := by
  have go : ∀ n, cnt F p (t * W + n) = cnt F p (t * W) + ((List.range n).map fun q => ((t : Int) * (W : Int) + (q : Nat)) % (F : Int)).count p := by
    intro n
    induction n with
    | zero => simp
    | succ n ih =>
      rw [show t * W + (n + 1) = (t * W + n) + 1 from rfl, cnt, ih, List.range_succ, List.map_append, List.count_append]
      simp only [List.map_cons, List.map_nil, List.count_singleton, beq_iff_eq, Int.natCast_add, Int.natCast_mul]
      omega
  rw [Nat.succ_mul, go W]
  rfl
def rowsN (W F R : Nat) : List (List Int) := (List.range R).map (rowN W F)
theorem count_rows {W F : Nat} (p : Int) : ∀ R, (rowsN W F R).flatten.count p = cnt F p (R * W)
  | 0 => by simp [rowsN, cnt]
  | R + 1 => by
    have ih := count_rows (W := W) (F := F) p R
    unfold rowsN at ih ⊢
    rw [List.range_succ, List.map_append, List.flatten_append, List.count_append, ih, ← count_raw p R]
    simp only [List.map_cons, List.map_nil, List.flatten_cons, List.flatten_nil, List.append_nil]
    rw [rowN, (sortI_perm _).count_eq]
theorem length_rows {W F : Nat} : ∀ R, (rowsN W F R).flatten.length = R * W
  | 0 => by simp [rowsN]
  | R + 1 => by
    have ih := length_rows (W := W) (F := F) R
    unfold rowsN at ih ⊢
    rw [List.range_succ, List.map_append, List.flatten_append, List.length_append, ih, Nat.succ_mul]
    simp [row_length]
theorem used_le {W F R U : Nat} (hp : R * W ≤ F * U) {p : Int} (h0 : 0 ≤ p) (h1 : p < F) : (rowsN W F R).flatten.count p ≤ U := by
  rw [count_rows, ← cnt_full h0 h1 U]
  exact cnt_mono hp
def usedN (rows : List (List Int)) (p : Int) : Nat := (rows.filter fun l => decide (p ∈ l)).length
theorem used_count {p : Int} : ∀ rows : List (List Int), (∀ l ∈ rows, l.Nodup) → usedN rows p = rows.flatten.count p
  | [], _ => rfl
  | l :: rows, h => by
    have ih := used_count (p := p) rows fun x hx => h x (List.mem_cons_of_mem _ hx)
    unfold usedN at ih ⊢
    rw [List.flatten_cons, List.count_append, ← ih, List.filter_cons, (h l List.mem_cons_self).count]
    by_cases hp : p ∈ l <;> simp [hp] <;> omega
def spentN (F : Nat) (L : List Int) : List Int := (List.range F).map fun p : Nat => ((L.count ((p : Nat) : Int) : Nat) : Int)
theorem spent_step {F : Nat} {L : List Int} {x : Nat} (hx : x < F) : spentN F (L ++ [(x : Int)]) = (spentN F L).set x ((L.count (x : Int) : Nat) + 1) := by
  apply List.ext_getElem
  · simp [spentN]
  · intro i h1 h2
    simp only [spentN, List.length_map, List.length_range] at h1
    rw [List.getElem_set]
    simp only [spentN, List.getElem_map, List.getElem_range, List.count_append, List.count_singleton]
    by_cases h : x = i
    · subst h; simp
    · have : ¬ (x : Int) = (i : Int) := by omega
      simp [h, this]
theorem count_sum {F : Nat} : ∀ L : List Int, (∀ x ∈ L, 0 ≤ x ∧ x < F) → ((List.range F).map fun p : Nat => L.count ((p : Nat) : Int)).sum = L.length
  | [], _ => by simp; induction F with
    | zero => rfl
    | succ n ih => simp [List.range_succ, ih]
  | x :: L, h => by
    have ih := count_sum L fun y hy => h y (List.mem_cons_of_mem _ hy)
    obtain ⟨h0, h1⟩ := h x List.mem_cons_self
    obtain ⟨n, rfl⟩ := Int.eq_ofNat_of_zero_le h0
    rw [List.length_cons, ← ih]
    have go : ∀ k, ((List.range k).map fun p : Nat => ((n : Int) :: L).count ((p : Nat) : Int)).sum = ((List.range k).map fun p : Nat => L.count ((p : Nat) : Int)).sum + if n < k then 1 else 0 := by
      intro k
      induction k with
      | zero => simp
      | succ k ih =>
        simp only [List.range_succ, List.map_append, List.sum_append, ih, List.map_cons, List.map_nil, List.sum_cons, List.sum_nil]
        rw [List.count_cons]
        simp only [beq_iff_eq]
        split <;> split <;> split <;> omega
    rw [go F, if_pos (by omega)]
theorem sum_cast : ∀ l : List Nat, (l.map fun n : Nat => (n : Int)).foldl (· + ·) 0 = ((l.sum : Nat) : Int) := by
  intro l
  have go : ∀ (l : List Nat) (a : Int), (l.map fun n : Nat => (n : Int)).foldl (· + ·) a = a + ((l.sum : Nat) : Int) := by
    intro l
    induction l with
    | nil => intro a; simp
    | cons x l ih => intro a; simp only [List.map_cons, List.foldl_cons, ih, List.sum_cons]; omega
  have := go l 0
  rw [Int.zero_add] at this
  exact this
/-! ### the least many -/
def enough (r w u m : Int) : Bool := decide (r = 0 ∨ w ≤ m ∧ r * w ≤ m * u)
theorem enough_iff {r w u m : Int} (hr : 0 ≤ r) (hw : 0 ≤ w) (hu : 1 ≤ u) (hm : 0 ≤ m) : fewest r w u ≤ m ↔ (r = 0 ∨ w ≤ m ∧ r * w ≤ m * u) := by
  unfold fewest
  split
  · rename_i h; simp [h, hm]
  · rename_i h
    simp only [h, false_or]
    rw [Int.max_le]
    refine and_congr Iff.rfl ?_
    have e := Int.mul_ediv_add_emod (r * w + u - 1) u
    have e1 := Int.emod_nonneg (r * w + u - 1) (show u ≠ 0 by omega)
    have e2 := Int.emod_lt_of_pos (r * w + u - 1) (show 0 < u by omega)
    generalize (r * w + u - 1) / u = q at e ⊢
    rw [Int.mul_comm m u]
    constructor
    · intro h
      have : u * q ≤ u * m := Int.mul_le_mul_of_nonneg_left h (by omega)
      omega
    · intro h
      refine Int.not_lt.mp fun hq => ?_
      have : u * (m + 1) ≤ u * q := Int.mul_le_mul_of_nonneg_left (by omega) (by omega)
      rw [Int.mul_add] at this
      omega
theorem fewest_nn {r w u : Int} (hr : 0 ≤ r) (hw : 0 ≤ w) : 0 ≤ fewest r w u := by unfold fewest; split <;> omega
theorem fewest_le {r w u : Int} (hr : 0 ≤ r ∧ r ≤ 30) (hw : 0 ≤ w ∧ w ≤ 9) (hu : 1 ≤ u) : fewest r w u ≤ 270 := by
  rw [enough_iff hr.1 hw.1 hu (by omega)]
  right
  refine ⟨by omega, ?_⟩
  have h1 : r * w ≤ 30 * 9 := Int.mul_le_mul hr.2 hw.2 hw.1 (by omega)
  omega
end Law
namespace M
@[simp] theorem flats_ints (l : List Int) {n} : D.flats n (l.map .int) = true := by
  induction l with
  | nil => simp
  | cons x l ih => simp [ih]
theorem pysIn_ints (p : Int) (l : List Int) : pysIn (.int p) (l.map .int) = decide (p ∈ l) := by
  unfold pysIn
  rw [List.any_map]
  induction l with
  | nil => simp
  | cons x l ih =>
    simp only [List.any_cons, ih, Function.comp_apply, eqv_int, List.mem_cons]
    by_cases h : x = p
    · simp [h]
    · have : ¬ p = x := fun e => h e.symm
      simp [h, this]
theorem bigR_of {i : Int} (h0 : -1000000000 ≤ i) (h1 : i ≤ 1000000000) : bigR i = true := by
  unfold bigR; rw [Bool.and_eq_true, decide_eq_true_eq, decide_eq_true_eq]; omega
theorem small_of {i : Int} (h0 : -1000000000 ≤ i) (h1 : i ≤ 1000000000) : small i = true := small_iff.mpr (by omega)
theorem map_ints {α : Type} (g : α → Int) (l : List α) : (l.map fun x => D.int (g x)) = (l.map g).map D.int := by rw [List.map_map]; rfl
theorem all_true (l : List Bool) (h : ∀ b ∈ l, b = true) : l.all id = true := by simpa using h
end M
namespace Law
open PySem PySem.Spec L2 M
def rowD (W F t : Nat) : D := .tup ((rowN W F t).map .int)
def tupI (l : List Int) : D := .tup (l.map .int)
def schedL (W F R : Nat) : List D := (rowsN W F R).map tupI
theorem sched_range {W F R : Nat} : schedL W F R = (List.range R).map (rowD W F) := by
  unfold schedL rowsN
  rw [List.map_map]
  rfl
theorem body0 {R W U F i p : Nat} (st : Sto) (hF : 0 < F) (hW : W ≤ 9) :
  (eOp2 dMod (eOp2 dAdd (eOp2 dMul (eVar 5) (eVar 1)) (eVar 6)) (eVar 3)) [some (.p (.int (R : Nat))), some (.p (.int (W : Nat))), some (.p (.int (U : Nat))), some (.p (.int (F : Nat))), some (.r 0), some (.p (.int (i : Nat))), some (.p (.int (p : Nat)))] st = .ok (.int (((i : Int) * (W : Nat) + (p : Nat)) % (F : Nat))) st := by
  have hpos : 0 < (F : Int) := by omega
  simp [dMul, dAdd, dMod, small_of (i := (W : Int)) (by omega) (by omega), hpos, hF]
theorem q1 {R W U F i : Nat} (st : Sto) (hF : W ≠ 0 → 0 < F) (hW : W ≤ 9) (p : Nat) (hp : p < W) : ∃ ρ1, gN 6 (D.int (p : Nat)) [some (.p (.int (R : Nat))), some (.p (.int (W : Nat))), some (.p (.int (U : Nat))), some (.p (.int (F : Nat))), some (.r 0), some (.p (.int (i : Nat))), none] = some ρ1 ∧ (eOp2 dMod (eOp2 dAdd (eOp2 dMul (eVar 5) (eVar 1)) (eVar 6)) (eVar 3)) ρ1 st = .ok (D.int (((i : Int) * (W : Nat) + (p : Nat)) % (F : Nat))) st := ⟨_, rfl, body0 st (hF (by omega)) hW⟩
theorem q1' {R W U F i : Nat} (st : Sto) (hF : W ≠ 0 → 0 < F) (hW : W ≤ 9) (p : Nat) (hp : p < W) : ∃ ρ1, gN 6 (D.int (p : Nat)) [some (.p (.int (R : Nat))), some (.p (.int (W : Nat))), some (.p (.int (U : Nat))), some (.p (.int (F : Nat))), some (.r 0), some (.p (.int (i : Nat))), none] = some ρ1 ∧ (eOp2 dMod (eOp2 dAdd (eOp2 dMul (eVar 5) (eVar 1)) (eVar 6)) (eVar 3)) ρ1 st = .ok (D.int (((i : Int) * (W : Nat) + (p : Nat)) % (F : Nat))) st := by
  refine ⟨_, rfl, ?_⟩
  simp only [List.set_cons_succ, List.set_cons_zero]
  exact body0 st (hF (by omega)) hW
theorem q2 {R W U F i : Nat} (st : Sto) (h : ∀ p ∈ List.range W, ∃ ρ1, gN 6 (D.int (p : Nat)) [some (.p (.int (R : Nat))), some (.p (.int (W : Nat))), some (.p (.int (U : Nat))), some (.p (.int (F : Nat))), some (.r 0), some (.p (.int (i : Nat))), none] = some ρ1 ∧ (eOp2 dMod (eOp2 dAdd (eOp2 dMul (eVar 5) (eVar 1)) (eVar 6)) (eVar 3)) ρ1 st = .ok (D.int (((i : Int) * (W : Nat) + (p : Nat)) % (F : Nat))) st) :
   compL (gN 6) eYes (eOp2 dMod (eOp2 dAdd (eOp2 dMul (eVar 5) (eVar 1)) (eVar 6)) (eVar 3)) [some (.p (.int (R : Nat))), some (.p (.int (W : Nat))), some (.p (.int (U : Nat))), some (.p (.int (F : Nat))), some (.r 0), some (.p (.int (i : Nat))), none] ((List.range W).map fun i : Nat => D.int (i : Nat)) st = .ok ((List.range W).map fun p : Nat => D.int (((i : Int) * (W : Nat) + (p : Nat)) % (F : Nat))) st := compL_all (fun i : Nat => D.int (i : Nat)) (fun p : Nat => D.int (((i : Int) * (W : Nat) + (p : Nat)) % (F : Nat))) (List.range W) h
theorem q3 {W F i : Nat} : ((List.range W).map fun p : Nat => D.int (((i : Int) * (W : Nat) + (p : Nat)) % (F : Nat))) = ((raw W F i).map .int) := map_ints (fun p : Nat => ((i : Int) * (W : Nat) + (p : Nat)) % (F : Nat)) _
theorem body1 {R W U F i : Nat} (st : Sto) (hF : W ≠ 0 → 0 < F) (hW : W ≤ 9) :
   compL (gN 6) eYes (eOp2 dMod (eOp2 dAdd (eOp2 dMul (eVar 5) (eVar 1)) (eVar 6)) (eVar 3)) [some (.p (.int (R : Nat))), some (.p (.int (W : Nat))), some (.p (.int (U : Nat))), some (.p (.int (F : Nat))), some (.r 0), some (.p (.int (i : Nat))), none] ((List.range W).map fun i : Nat => D.int (i : Nat)) st = .ok ((raw W F i).map .int) st := by
  rw [← q3]
  exact q2 st fun p hp => q1 st hF hW p (List.mem_range.mp hp)
theorem body2 {R W U F i : Nat} (hF : W ≠ 0 → 0 < F) (hW : W ≤ 9) (hi : i < 30) :
   sMut1 kApp 4 (eOp1 dTuple (eOp1 dSorted (ePure (eComp (iRange1 (eVar 1)) (gN 6) eYes (eOp2 dMod (eOp2 dAdd (eOp2 dMul (eVar 5) (eVar 1)) (eVar 6)) (eVar 3)) [6])))) [some (.p (.int (R : Nat))), some (.p (.int (W : Nat))), some (.p (.int (U : Nat))), some (.p (.int (F : Nat))), some (.r 0), some (.p (.int (i : Nat))), none] [.lst ((List.range i).map (rowD W F))] =
    .next [some (.p (.int (R : Nat))), some (.p (.int (W : Nat))), some (.p (.int (U : Nat))), some (.p (.int (F : Nat))), some (.r 0), some (.p (.int (i : Nat))), none] [.lst ((List.range (i + 1)).map (rowD W F))] := by
  have hlen : W ≤ sizeLine := sz (by omega)
  have hx30 : i < sizeLine := szlt (by omega)
  have hc := body1 (R := R) (U := U) (i := i) [.lst ((List.range i).map (rowD W F))] hF hW
  simp [lstAt, thaw, bigR_of (i := (W : Int)) (by omega) (by omega), rngL0, hlen, hc, wipeE, dSorted, dTuple, kApp, hx30, List.range_succ, rowD, rowN]
theorem schedule_ok {R W U F : Nat} (hR : R ≤ 30) (hW : W ≤ 9) (hU : 1 ≤ U ∧ U ≤ 30) (hF : fewest R W U = (F : Int)) : dn_schedule [.p (.int (R : Nat)), .p (.int (W : Nat)), .p (.int (U : Nat))] [] = .ok (.tup (schedL W F R)) [] := by
  have hf := fewest_ok (r := R) (w := W) (u := U) ⟨by omega, by omega⟩ ⟨by omega, by omega⟩ ⟨by omega, by omega⟩
  rw [hF] at hf
  have hpos : R ≠ 0 → W ≠ 0 → 0 < F := fun h0 h => by
    have := fewest_nn (r := R) (w := W) (u := U) (by omega) (by omega)
    have : fewest R W U ≠ 0 := by unfold fewest; rw [if_neg (by omega)]; omega
    omega
  obtain ⟨ρ', e1, e2⟩ := forL_store (v := 5) (fb := sMut1 kApp 4 (eOp1 dTuple (eOp1 dSorted (ePure (eComp (iRange1 (eVar 1)) (gN 6) eYes (eOp2 dMod (eOp2 dAdd (eOp2 dMul (eVar 5) (eVar 1)) (eVar 6)) (eVar 3)) [6])))))
    (base := [some (.p (.int (R : Nat))), some (.p (.int (W : Nat))), some (.p (.int (U : Nat))), some (.p (.int (F : Nat))), some (.r 0), none, none])
    (fun i : Nat => D.int (i : Nat)) (List.range R) (fun i => [.lst ((List.range i).map (rowD W F))]) (by
      intro i x hx
      obtain ⟨h1, h2⟩ := List.getElem?_eq_some_iff.mp hx
      simp only [List.getElem_range, List.length_range] at h1 h2
      subst h2
      exact body2 (hpos (by omega)) hW (by omega))
  rw [List.length_range] at e2
  have h4 : ρ'[4]? = some (some (.r 0)) := by
    have := congrArg (fun l : M.Env => l[4]?) e1
    simpa using this
  simp only [List.range_zero, List.map_nil] at e2
  unfold dn_schedule
  simp [hf, bigR_of (i := (R : Int)) (by omega) (by omega), rngL0, -sMut1, e2, h4, dTuple, sched_range, thaw]
theorem used_ok {rows : List (List Int)} (p : Int) (h : rows.length ≤ 1000000) : dn_used [.p (.tup (rows.map tupI)), .p (.int p)] [] = .ok (.int (usedN rows p : Nat)) [] := by
  have hc := compL_map (g := gN 2) (ft := eB (eOp2 dIn (eVar 1) (eVar 2))) (fe := eVar 2) (ρ := [some (.p (.tup (rows.map tupI))), some (.p (.int p)), none]) (st := []) tupI (fun l => decide (p ∈ l)) tupI rows (by
    intro l hl
    exact ⟨_, rfl, by simp [tupI, dIn, pysIn_ints], fun _ => by simp⟩)
  simp only [dn_used, dFn, sRet, sOf, eOp1, ePure, eComp, iSeq, eVar, itemsOf]
  simp [wipeE, sz h, hc, dLen, usedN]
end Law
namespace Law
open PySem PySem.Spec L2 M
/-! ### alike -/
theorem alike_int (n : Nat) (a b : Int) : dn__law_alike (n + 1) [.p (.int a), .p (.int b)] [] = .ok (.bl (a == b)) [] := by
  unfold dn__law_alike
  simp [dIs, dEq, D.isNon]
theorem alike_non (n : Nat) : dn__law_alike (n + 1) [.p .non, .p .non] [] = .ok (.bl true) [] := by
  unfold dn__law_alike
  simp [dIs, dEq, D.isNon]
inductive Good : Nat → D → Prop
  | non {n} : Good n .non
  | int {n i} : Good n (.int i)
  | tup {n l} : l.length ≤ 1000000 → (∀ x ∈ l, Good n x) → Good (n + 1) (.tup l)
theorem Good.flat : ∀ {n : Nat} {d : D}, Good n d → D.flat n d = true
  | _, _, .non => by simp
  | _, _, .int => by simp
  | n + 1, .tup l, .tup _ h => by
    rw [flat_tup, flats_all, List.all_eq_true]
    exact fun x hx => Good.flat (h x hx)
theorem atI_nat {α : Type} (l : List α) (i : Nat) (h : i < l.length) : atI l (i : Int) = some l[i] := by
  unfold atI ixN
  rw [if_pos (by omega), if_pos (by omega)]
  simp [h]
theorem alike_refl : ∀ (n : Nat) (d : D), Good n d → dn__law_alike (n + 1) [.p d, .p d] [] = .ok (.bl true) []
  | n, _, .non => alike_non n
  | n, _, .int => by rw [alike_int]; simp
  | n + 1, .tup l, .tup hl h => by
    have hc := compL_map (g := gN 2) (ft := eNot (eB (eCall 2 (dn__law_alike (n + 1)) (eCons (eOp2 dIx (eVar 0) (eVar 2)) (eCons (eOp2 dIx (eVar 1) (eVar 2)) eNil))))) (fe := eVar 2) (ρ := [some (.p (.tup l)), some (.p (.tup l)), none]) (st := []) (fun i : Nat => D.int (i : Nat)) (fun _ => false) (fun i : Nat => D.int (i : Nat)) (List.range l.length) (by
      intro i hi
      have hi := List.mem_range.mp hi
      refine ⟨_, rfl, ?_, by simp⟩
      have ih := alike_refl n l[i] (h _ (List.getElem_mem hi))
      simp [dIx, atI_nat l i hi, ih])
    have hf : (List.range l.length).filter (fun _ => false) = [] := by simp
    rw [hf, List.map_nil] at hc
    unfold dn__law_alike
    simp [dLen, dNe, dEq, bigR_of (i := (l.length : Int)) (by omega) (by omega), rngL0, wipeE, sz hl, hc]
end Law
namespace M
theorem env_set {ρ base : Env} {v : Nat} (h : ρ.set v none = base.set v none) (hv : v < base.length) : ∃ x, ρ = base.set v x := by
  have hl : ρ.length = base.length := by simpa using congrArg List.length h
  refine ⟨ρ[v], List.ext_getElem? fun i => ?_⟩
  by_cases hi : i = v
  · subst hi
    rw [List.getElem?_set_self hv, List.getElem?_eq_getElem]
  · have := congrArg (fun l : List (Option S) => l[i]?) h
    simp only [List.getElem?_set_ne (Ne.symm hi)] at this
    rw [this, List.getElem?_set_ne (Ne.symm hi)]
theorem cutD_tail (xs : List D) : cutD xs (some 1) none = xs.tail := by
  rw [← List.drop_one]
  unfold cutD
  cases xs with
  | nil => simp
  | cons x xs =>
    have h1 : HT.sIx (x :: xs).length 0 (some 1) = 1 := by
      unfold HT.sIx
      simp
      try omega
    have h2 : HT.sIx (x :: xs).length (x :: xs).length none = (x :: xs).length := by unfold HT.sIx; rfl
    rw [h1, h2]
    apply List.take_of_length_le
    simp
theorem zipL_ints : ∀ a b : List Int, zipL (a.map .int) (b.map .int) = (a.zip b).map fun p => D.tup [.int p.1, .int p.2]
  | [], _ => by simp [zipL]
  | _ :: _, [] => by simp [zipL]
  | x :: a, y :: b => by simp [zipL, zipL_ints a b]
theorem zip_tail_lt : ∀ {l : List Int}, l.Pairwise (· < ·) → ∀ p ∈ l.zip (l.drop 1), p.1 < p.2
  | [], _, p, hp => by simp at hp
  | [_], _, p, hp => by simp at hp
  | x :: y :: l, h, p, hp => by
    rw [List.pairwise_cons] at h
    simp only [List.drop_succ_cons, List.drop_zero, List.zip_cons_cons, List.mem_cons] at hp
    rcases hp with rfl | hp
    · exact h.1 y List.mem_cons_self
    · exact zip_tail_lt (l := y :: l) h.2 p (by simpa using hp)
theorem dAll_true {α : Type} (l : List α) : dAll (.lst (l.map fun _ => D.bl true)) = some (.bl true) := by
  unfold dAll
  simp only
  rw [dBools_map2 (fun _ => true)]
  simp
theorem dAll_bl {α : Type} (f : α → Bool) (l : List α) : dAll (.lst (l.map fun x => D.bl (f x))) = some (.bl (l.all f)) := by
  unfold dAll
  simp only
  rw [dBools_map2]
  simp [List.all_map]
end M
namespace M
theorem at_end (o : O) (rest : Sto) (x : O) : (o :: (rest ++ [x]))[rest.length + 1]? = some x := by simp
theorem set_end (o : O) (rest : Sto) (x y : O) : (o :: (rest ++ [x])).set (rest.length + 1) y = o :: (rest ++ [y]) := by simp
theorem set_end2 (rest : Sto) (x y : O) : (rest ++ [x]).set rest.length y = rest ++ [y] := by simp
theorem sSeq_next {f g : SDen} {ρ ρ' : Env} {st st' : Sto} (h : f ρ st = .next ρ' st') : sSeq f g ρ st = g ρ' st' := by
  unfold sSeq; rw [h]
/-- a for loop that breaks at the first thing that a test finds -/
theorem forL_brk {α : Type} {v : Nat} {fb : SDen} {base ρ2 : Env} {st st2 : Sto} (enc : α → D) (x : α) (post : List α) (hx : fb (base.set v (some (.p (enc x)))) st = .brk ρ2 st2) : ∀ (pre : List α), (∀ y ∈ pre, fb (base.set v (some (.p (enc y)))) st = .next (base.set v (some (.p (enc y)))) st) →
    ∀ ρ : Env, ρ.set v none = base.set v none → forL (gN v) fb ((pre ++ x :: post).map enc) ρ st = .next ρ2 st2
  | [], _, ρ, h => by
    have e : ρ.set v (some (.p (enc x))) = base.set v (some (.p (enc x))) := by
      have := congrArg (fun l : Env => l.set v (some (.p (enc x)))) h
      simpa [List.set_set] using this
    rw [List.nil_append, List.map_cons]
    unfold forL
    simp only [gN, e, hx]
  | y :: pre, hs, ρ, h => by
    have e : ρ.set v (some (.p (enc y))) = base.set v (some (.p (enc y))) := by
      have := congrArg (fun l : Env => l.set v (some (.p (enc y)))) h
      simpa [List.set_set] using this
    rw [List.cons_append, List.map_cons]
    unfold forL
    simp only [gN, e, hs y List.mem_cons_self]
    exact forL_brk enc x post hx pre (fun z hz => hs z (List.mem_cons_of_mem _ hz)) _ (by simp [List.set_set])
theorem range_split {a b : Nat} (h : a < b) : ∃ post, List.range b = List.range a ++ a :: post := by
  obtain ⟨k, rfl⟩ : ∃ k, b = a + (k + 1) := ⟨b - a - 1, by omega⟩
  refine ⟨(List.range k).map fun i => a + (i + 1), ?_⟩
  rw [List.range_add, List.range_succ_eq_map, List.map_cons, List.map_map]
  rfl
end M
namespace M
theorem dFn_ret {ar n : Nat} {fb : SDen} {ss : List S} {d : D} {st' : Sto} (h : ss.length = ar) (e : fb (ss.map some ++ List.replicate (n - ar) none) [] = .ret d st') : dFn ar n fb ss [] = .ok d [] := by
  unfold dFn
  rw [if_pos h, e]
  simp [cutOff]
theorem dFn_exc {ar n : Nat} {fb : SDen} {ss : List S} {c : PySem.Str} {fs : List (PySem.Str × D)} {ρ' : Env} {st' : Sto} (h : ss.length = ar) (e : fb (ss.map some ++ List.replicate (n - ar) none) [] = .exc c fs ρ' st') : dFn ar n fb ss [] = .exc c fs [] := by
  unfold dFn
  rw [if_pos h, e]
  simp [cutOff]
theorem forL_cons {g : GD} {fb : SDen} {d : D} {ds : List D} {ρ ρ1 ρ2 : Env} {st st2 : Sto} (h1 : g d ρ = some ρ1) (h2 : fb ρ1 st = .next ρ2 st2) : forL g fb (d :: ds) ρ st = forL g fb ds ρ2 st2 := by
  rw [forL]; simp only [h1, h2]
theorem forL_ret {g : GD} {fb : SDen} {d z : D} {ds : List D} {ρ ρ1 : Env} {st st2 : Sto} (h1 : g d ρ = some ρ1) (h2 : fb ρ1 st = .ret z st2) : forL g fb (d :: ds) ρ st = .ret z st2 := by
  rw [forL]; simp only [h1, h2]
theorem sSeq_ret {f g : SDen} {ρ : Env} {st st' : Sto} {d : D} (h : f ρ st = .ret d st') : sSeq f g ρ st = .ret d st' := by
  unfold sSeq; rw [h]
theorem sSeq_exc {f g : SDen} {ρ ρ' : Env} {st st' : Sto} {c : PySem.Str} {fs : List (PySem.Str × D)} (h : f ρ st = .exc c fs ρ' st') : sSeq f g ρ st = .exc c fs ρ' st' := by
  unfold sSeq; rw [h]
end M
namespace Law
open PySem PySem.Spec L2 M
abbrev es (R W U : Nat) (m : Nat) (v : D) (x5 x6 x7 : Option S) : M.Env := [some (.p (.int (R : Nat))), some (.p (.int (W : Nat))), some (.p (.int (U : Nat))), some (.p (.int (m : Nat))), some (.p v), x5, x6, x7]
theorem is_row_tup (l : List D) (n : Int) : dn_is_row [.p (.tup l), .p (.int n)] [] = .ok (.bl ((l.length : Int) == n)) [] := by
  simp [dn_is_row, dLen, dEq]
/-- what is no tuple -/
inductive NoTup : D → Prop
  | non : NoTup .non | bl b : NoTup (.bl b) | int i : NoTup (.int i) | str x : NoTup (.str x) | lst l : NoTup (.lst l) | dic l : NoTup (.dic l)
theorem is_row_no {d : D} (h : NoTup d) (n : Int) : dn_is_row [.p d, .p (.int n)] [] = .ok (.bl false) [] := by
  cases h <;> simp [dn_is_row]
theorem sm30 : small 30 = true := small_of (by omega) (by omega)
section
variable {R W U m : Nat} {v : D} {x5 x6 x7 : Option S}
theorem sch1 (hR : R ≤ 30) (hW : W ≤ 9) (hU : 1 ≤ U ∧ U ≤ 30) : dn_is_schedule_s1 (es R W U m v x5 x6 x7) [] = .next (es R W U m v x5 x6 x7) [] := by
  simp [dn_is_schedule_s1, es, require_ok (r := R) (w := W) (u := U) ⟨by omega, by omega⟩ ⟨by omega, by omega⟩ ⟨by omega, by omega⟩]
theorem sch3 (hM : m ≤ 270) : dn_is_schedule_s3 (es R W U m v x5 x6 x7) [] = .next (es R W U m v x5 x6 x7) [] := by
  have h : (m : Int) ≤ 270 := by omega
  simp [dn_is_schedule_s3, es, is_within_int, dMul, sm30, h]
theorem sch4_no (h : NoTup v) : dn_is_schedule_s4 (es R W U m v x5 x6 x7) [] = .ret (.bl false) [] := by
  simp [dn_is_schedule_s4, es, is_row_no h]
theorem sch4_len {xs : List D} (h : xs.length ≠ R) : dn_is_schedule_s4 (es R W U m (.tup xs) x5 x6 x7) [] = .ret (.bl false) [] := by
  have : ¬ ((xs.length : Int) = R) := by omega
  simp [dn_is_schedule_s4, es, is_row_tup, this]
/-- each row is a tuple, of so many, or no tuple -/
def rowLen (W : Nat) : D → Bool | .tup l => l.length == W | _ => false
theorem sch4 {xs : List D} (hl : xs.length = R) (hR : R ≤ 1000000) (hx : ∀ d ∈ xs, NoTup d ∨ ∃ l, d = .tup l) :
    dn_is_schedule_s4 (es R W U m (.tup xs) none x6 x7) [] = if xs.all (rowLen W) = true then .next (es R W U m (.tup xs) none x6 x7) [] else .ret (.bl false) [] := by
  have hc := compL_all (g := gN 5) (fe := dn_is_schedule_e1) (ρ := es R W U m (.tup xs) none x6 x7) (st := []) (fun d : D => d) (fun d => D.bl (rowLen W d)) xs (by
    intro d hd
    refine ⟨_, rfl, ?_⟩
    rcases hx d hd with h | ⟨l, rfl⟩
    · have e := is_row_no h (W : Int)
      have e2 : rowLen W d = false := by cases h <;> rfl
      simp [dn_is_schedule_e1, e, e2]
    · have e2 : rowLen W (.tup l) = ((l.length : Int) == (W : Int)) := by
        unfold rowLen
        rw [Bool.eq_iff_iff]
        simp
        omega
      simp [dn_is_schedule_e1, is_row_tup, e2])
  simp only [List.map_id'] at hc
  have z1 : R ≤ sizeLine := sz hR
  simp [dn_is_schedule_s4, es, is_row_tup, hl, itemsOf, z1, hc, wipeE, dAll_bl]
  by_cases h : ∀ x ∈ xs, rowLen W x = true
  · rw [if_pos h]
    have : xs.all (rowLen W) = true := by simpa using h
    simp [this]
    exact h
  · rw [if_neg h]
    have : xs.all (rowLen W) = false := by
      rw [Bool.eq_false_iff]
      simpa using h
    simp [this]
    simpa using h
end
end Law
namespace Law
open PySem PySem.Spec L2 M
def okP (m : Nat) : D → Bool | .int i => decide (0 ≤ i) && decide (i < (m : Int)) | _ => false
theorem is_whole_non : dn_is_whole [.p .non] [] = .ok (.bl false) [] := by simp [dn_is_whole]
section
variable {R W U m : Nat} {v : D} {x5 x6 x7 : Option S}
theorem sch5 {l : List D} (hl : l.length ≤ 1000000) (hx : ∀ d ∈ l, d = .non ∨ ∃ i, d = .int i) :
    dn_is_schedule_s5 (es R W U m v (some (.p (.tup l))) none x7) [] = if l.all (okP m) = true then .next (es R W U m v (some (.p (.tup l))) none x7) [] else .ret (.bl false) [] := by
  have hc := compL_all (g := gN 6) (fe := dn_is_schedule_e2) (ρ := es R W U m v (some (.p (.tup l))) none x7) (st := []) (fun d : D => d) (fun d => D.bl (okP m d)) l (by
    intro d hd
    refine ⟨_, rfl, ?_⟩
    rcases hx d hd with rfl | ⟨i, rfl⟩
    · simp [dn_is_schedule_e2, is_whole_non, okP]
    · by_cases h : 0 ≤ i <;> simp [dn_is_schedule_e2, is_whole_int, okP, dLe, dLt, h])
  simp only [List.map_id'] at hc
  have z1 : l.length ≤ sizeLine := sz hl
  simp only [dn_is_schedule_s5]
  by_cases h : ∀ x ∈ l, okP m x = true
  · have e : l.all (okP m) = true := by simpa using h
    rw [if_pos e]
    simp [es, itemsOf, z1, hc, wipeE, dAll_bl, e]
  · have e : l.all (okP m) = false := by
      rw [Bool.eq_false_iff]
      simpa using h
    rw [if_neg (by rw [e]; simp)]
    simp [es, itemsOf, z1, hc, wipeE, dAll_bl, e]
def stri (l : List Int) : Bool := (l.zip (l.drop 1)).all fun p => decide (p.1 < p.2)
theorem sch6 {l : List Int} (hl : l.length ≤ 1000000) :
    dn_is_schedule_s6 (es R W U m v (some (.p (tupI l))) none none) [] = if stri l = true then .next (es R W U m v (some (.p (tupI l))) none none) [] else .ret (.bl false) [] := by
  have c2 := compL_all (g := gT (gsCons (gN 6) (gsCons (gN 7) gsNil)) 2) (fe := eOp2 dLt (eVar 6) (eVar 7)) (ρ := es R W U m v (some (.p (tupI l))) none none) (st := []) (fun p : Int × Int => D.tup [.int p.1, .int p.2]) (fun p => D.bl (decide (p.1 < p.2))) (l.zip (l.drop 1)) (by
    intro p hp
    exact ⟨_, rfl, by simp [dLt]⟩)
  rw [← zipL_ints] at c2
  have z2 : (zipL (l.map .int) (l.map D.int).tail).length ≤ sizeLine := sz (by rw [zipL_len]; simp; omega)
  simp [tupI] at c2
  simp only [dn_is_schedule_s6]
  cases h : stri l with
  | true =>
    unfold stri at h
    rw [List.drop_one] at h
    simp only [if_true]
    simp [es, tupI, itemsOf, wipeE, dCut, cutD_tail, z2, c2, dAll_bl, h]
  | false =>
    unfold stri at h
    rw [List.drop_one] at h
    simp [es, tupI, itemsOf, wipeE, dCut, cutD_tail, z2, c2, dAll_bl, h]
def okI (m : Nat) (l : List Int) : Bool := l.all fun x => decide (0 ≤ x) && decide (x < (m : Int))
def rowI (m : Nat) (l : List Int) : Bool := okI m l && stri l
theorem okP_ints (l : List Int) : (l.map D.int).all (okP m) = okI m l := by
  unfold okI
  rw [List.all_map]
  rfl
theorem schb {l : List Int} (hl : l.length ≤ 1000000) :
    dn_is_schedule_b1 (es R W U m v (some (.p (tupI l))) none none) [] = if rowI m l = true then .next (es R W U m v (some (.p (tupI l))) none none) [] else .ret (.bl false) [] := by
  have h5 := sch5 (R := R) (W := W) (U := U) (m := m) (v := v) (x7 := none) (l := l.map D.int) (by simpa using hl) (by
    intro d hd
    obtain ⟨i, _, rfl⟩ := List.mem_map.mp hd
    exact .inr ⟨i, rfl⟩)
  rw [okP_ints] at h5
  have h6 := sch6 (R := R) (W := W) (U := U) (m := m) (v := v) (l := l) hl
  unfold dn_is_schedule_b1 rowI
  cases h : okI m l with
  | true =>
    rw [h, if_pos rfl] at h5
    exact (sSeq_next h5).trans h6
  | false =>
    rw [h, if_neg (by simp)] at h5
    exact sSeq_ret h5
theorem sch7 {rows : List (List Int)} (hr : rows.length ≤ 1000000) (hl : ∀ l ∈ rows, l.length ≤ 1000000) :
    ∃ x5', dn_is_schedule_s7 (es R W U m (.tup (rows.map tupI)) none none none) [] = if rows.all (rowI m) = true then .next (es R W U m (.tup (rows.map tupI)) x5' none none) [] else .ret (.bl false) [] := by
  obtain ⟨ρ', e1, e2⟩ := forL_find (v := 5) (fb := dn_is_schedule_b1) (base := es R W U m (.tup (rows.map tupI)) none none none) (st := []) tupI (fun l => if rowI m l = true then none else some (D.bl false)) rows (by
    intro l hx
    have := schb (R := R) (W := W) (U := U) (m := m) (v := .tup (rows.map tupI)) (hl l hx)
    simp only [es, List.set_cons_succ, List.set_cons_zero] at this ⊢
    rw [this]
    split <;> rfl) _ rfl
  obtain ⟨x, rfl⟩ := env_set e1 (by simp [es])
  simp only [es, List.set_cons_succ, List.set_cons_zero] at e2
  refine ⟨x, ?_⟩
  have hs : (rows.map tupI).length ≤ sizeLine := sz (by simpa using hr)
  by_cases h : rows.all (rowI m) = true
  · have hn : rows.findSome? (fun l => if rowI m l = true then none else some (D.bl false)) = none := by
      rw [List.findSome?_eq_none_iff]
      intro l hl
      rw [if_pos (List.all_eq_true.mp h l hl)]
    rw [hn] at e2
    rw [if_pos h]
    simp only [dn_is_schedule_s7, es]
    simp [itemsOf, e2]
  · have hn : rows.findSome? (fun l => if rowI m l = true then none else some (D.bl false)) = some (.bl false) := by
      have : ∃ l ∈ rows, ¬ rowI m l = true := by
        simpa using h
      obtain ⟨l, hl, hb⟩ := this
      cases hf : rows.findSome? (fun l => if rowI m l = true then none else some (D.bl false)) with
      | none =>
        have := List.findSome?_eq_none_iff.mp hf l hl
        rw [if_neg hb] at this
        cases this
      | some d =>
        obtain ⟨l2, _, h2⟩ := List.exists_of_findSome?_eq_some hf
        split at h2
        · cases h2
        · exact h2.symm
    rw [hn] at e2
    rw [if_neg h]
    simp only [dn_is_schedule_s7, es]
    simp [itemsOf, e2]
theorem sch8 {rows : List (List Int)} (hr : rows.length ≤ 1000000) (hm : m ≤ 270) :
    dn_is_schedule_s8 (es R W U m (.tup (rows.map tupI)) x5 none none) [] = .ret (.bl ((List.range m).all fun p => decide (usedN rows (p : Nat) ≤ U))) [] := by
  have hc3 := compL_all (g := gN 6) (fe := dn_is_schedule_e3) (ρ := es R W U m (.tup (rows.map tupI)) x5 none none) (st := []) (fun i : Nat => D.int (i : Nat)) (fun p => D.bl (decide (usedN rows (p : Nat) ≤ U))) (List.range m) (by
    intro p hp
    refine ⟨_, rfl, ?_⟩
    have hu := used_ok (rows := rows) (p : Int) hr
    simp [dn_is_schedule_e3, hu, dLe])
  have hs1 : m ≤ sizeLine := sz (by omega)
  simp [dn_is_schedule_s8, es, bigR_of (i := (m : Int)) (by omega) (by omega), rngL0, hs1, hc3, wipeE, dAll_bl]
end
/-- is_schedule of rows of ints, all of the right length -/
def schB (U m : Nat) (rows : List (List Int)) : Bool := rows.all (rowI m) && (List.range m).all fun p => decide (usedN rows (p : Nat) ≤ U)
theorem is_schedule_rows {R W U m : Nat} {rows : List (List Int)} (hR : R ≤ 30) (hW : W ≤ 9) (hU : 1 ≤ U ∧ U ≤ 30) (hm : m ≤ 270) (hr : rows.length = R) (hl : ∀ l ∈ rows, l.length = W) :
    dn_is_schedule [.p (.int (R : Nat)), .p (.int (W : Nat)), .p (.int (U : Nat)), .p (.int (m : Nat)), .p (.tup (rows.map tupI))] [] = .ok (.bl (schB U m rows)) [] := by
  have h1 := sch1 (R := R) (W := W) (U := U) (m := m) (v := .tup (rows.map tupI)) (x5 := none) (x6 := none) (x7 := none) hR hW hU
  have h3 := sch3 (R := R) (W := W) (U := U) (m := m) (v := .tup (rows.map tupI)) (x5 := none) (x6 := none) (x7 := none) hm
  have h4 := sch4 (R := R) (W := W) (U := U) (m := m) (x6 := none) (x7 := none) (xs := rows.map tupI) (by simpa using hr) (by omega) (by
    intro d hd
    obtain ⟨l, _, rfl⟩ := List.mem_map.mp hd
    exact .inr ⟨_, rfl⟩)
  have ha : (rows.map tupI).all (rowLen W) = true := by
    rw [List.all_map, List.all_eq_true]
    intro l hx
    simp [tupI, rowLen, hl l hx]
  rw [if_pos ha] at h4
  obtain ⟨x5', h7⟩ := sch7 (R := R) (W := W) (U := U) (m := m) (rows := rows) (by omega) (fun l hx => by rw [hl l hx]; omega)
  have h8 := sch8 (R := R) (W := W) (U := U) (m := m) (x5 := x5') (rows := rows) (by omega) hm
  have key : ∀ b, (sSeq dn_is_schedule_s1 (sSeq dn_is_schedule_s3 (sSeq dn_is_schedule_s4 (sSeq dn_is_schedule_s7 dn_is_schedule_s8)))) (es R W U m (.tup (rows.map tupI)) none none none) [] = .ret (.bl b) [] → dn_is_schedule [.p (.int (R : Nat)), .p (.int (W : Nat)), .p (.int (U : Nat)), .p (.int (m : Nat)), .p (.tup (rows.map tupI))] [] = .ok (.bl b) [] := by
    intro b hb
    exact dFn_ret rfl hb
  refine key _ ?_
  rw [sSeq_next h1, sSeq_next h3, sSeq_next h4]
  unfold schB
  cases h : rows.all (rowI m) with
  | true =>
    rw [h, if_pos rfl] at h7
    rw [sSeq_next h7, h8, Bool.true_and]
  | false =>
    rw [h, if_neg (by simp)] at h7
    rw [sSeq_ret h7, Bool.false_and]
end Law
namespace M
open PySem
theorem szs : 1 ≤ sizeLine ∧ 2 ≤ sizeLine ∧ 3 ≤ sizeLine ∧ 4 ≤ sizeLine ∧ 5 ≤ sizeLine ∧ 6 ≤ sizeLine ∧ 7 ≤ sizeLine ∧ 8 ≤ sizeLine ∧ 9 ≤ sizeLine ∧ 10 ≤ sizeLine ∧ 11 ≤ sizeLine ∧ 12 ≤ sizeLine ∧ 13 ≤ sizeLine ∧ 14 ≤ sizeLine ∧ 15 ≤ sizeLine ∧ 16 ≤ sizeLine ∧ 17 ≤ sizeLine ∧ 18 ≤ sizeLine ∧ 19 ≤ sizeLine ∧ 20 ≤ sizeLine ∧ 21 ≤ sizeLine ∧ 22 ≤ sizeLine ∧ 23 ≤ sizeLine ∧ 24 ≤ sizeLine ∧ 25 ≤ sizeLine ∧ 26 ≤ sizeLine ∧ 27 ≤ sizeLine ∧ 28 ≤ sizeLine ∧ 29 ≤ sizeLine ∧ 30 ≤ sizeLine := by rw [sizeLine_eq]; decide
/-- data whose repr fits -/
structure Rp (n : Nat) (d : D) (w : Nat) : Prop where
  flat : D.flat n d = true
  show_ : d.py.showable = true
  short : d.py.leavesShort 1000 = true
  wt : d.py.weight ≤ w
structure Rps (n : Nat) (ds : List D) (w : Nat) : Prop where
  flat : D.flats n ds = true
  show_ : PyData.showableAll (D.pys ds) = true
  short : PyData.leavesShortAll 1000 (D.pys ds) = true
  wt : PyData.weightAll (D.pys ds) ≤ w
theorem Rps.nil {n : Nat} : Rps n [] 0 := ⟨by simp, rfl, rfl, Nat.le_refl _⟩
theorem Rps.cons {n : Nat} {d : D} {ds : List D} {a b : Nat} (h : Rp n d a) (t : Rps n ds b) : Rps n (d :: ds) (a + 1 + b) := by
  refine ⟨by simp [h.flat, t.flat], ?_, ?_, ?_⟩
  · unfold D.pys; simp [PyData.showableAll, h.show_, t.show_]
  · unfold D.pys; simp [PyData.leavesShortAll, h.short, t.short]
  · unfold D.pys
    have h1 := h.wt
    have h2 := t.wt
    simp only [PyData.weightAll]
    omega
theorem Rps.lst {n : Nat} {ds : List D} {w : Nat} (h : Rps n ds w) : Rp (n + 1) (.lst ds) w :=
  ⟨by rw [flat_lst]; exact h.flat, by unfold D.py; simp only [PyData.showable]; exact h.show_, by unfold D.py; simp only [PyData.leavesShort]; exact h.short, by unfold D.py; simp only [PyData.weight]; exact h.wt⟩
theorem Rps.tup {n : Nat} {ds : List D} {w : Nat} (h : Rps n ds w) : Rp (n + 1) (.tup ds) w :=
  ⟨by rw [flat_tup]; exact h.flat, by unfold D.py; simp only [PyData.showable]; exact h.show_, by unfold D.py; simp only [PyData.leavesShort]; exact h.short, by unfold D.py; simp only [PyData.weight]; exact h.wt⟩
theorem Rps.of {n w : Nat} : ∀ {ds : List D}, (∀ d ∈ ds, Rp n d w) → Rps n ds (ds.length * (w + 1))
  | [], _ => by simpa using Rps.nil
  | d :: ds, h => by
    have := Rps.cons (h d List.mem_cons_self) (Rps.of fun x hx => h x (List.mem_cons_of_mem _ hx))
    rw [List.length_cons, Nat.succ_mul, Nat.add_comm]
    exact this
theorem dRepr_of {d : D} {w : Nat} (h : Rp 60 d w) (hw : w ≤ 10000) : dRepr d = some (.str d.py.shown) := by
  have h1 := PyData.shown_le 1000 (by omega) d.py h.short
  have h2 := h.wt
  have h3 : (1000 + 2) * d.py.weight ≤ 1002 * 10000 := Nat.mul_le_mul (by omega) (by omega)
  unfold dRepr
  rw [if_pos ⟨by rw [h.flat, h.show_]; rfl, by rw [sizeLine_eq]; omega⟩]
end M
namespace Law
open PySem PySem.Spec L2 M
theorem same_ok {d : D} {w : Nat} (h : Rp 60 d w) (hw : w ≤ 10000) : dn__law_same [.p d, .p d] [] = .ok (.bl true) [] := by
  simp [dn__law_same, dRepr_of h hw, dEqS]
/-- what is no number in the bounds -/
inductive BadN (lo hi : Int) : D → Prop
  | int {i} : ¬ (lo ≤ i ∧ i ≤ hi) → BadN lo hi (.int i) | non : BadN lo hi .non | bl b : BadN lo hi (.bl b) | str x : BadN lo hi (.str x)
theorem within_bad {lo hi : Int} {d : D} (h : BadN lo hi d) : dn_is_within [.p d, .p (.int lo), .p (.int hi)] [] = .ok (.bl false) [] := by
  cases h with
  | int h => rw [is_within_int, ← Bool.decide_and, decide_eq_false h]
  | _ => simp [dn_is_within, dn_is_whole]
abbrev bad (d : D) : Res D := .exc "BadNumber" [("value", d)] []
theorem require1 {r w u : D} (h : BadN 0 30 r) : dn_require_wear [.p r, .p w, .p u] [] = bad r := by
  simp [dn_require_wear, within_bad h, flD]
theorem require2 {r : Int} {w u : D} (hr : 0 ≤ r ∧ r ≤ 30) (h : BadN 0 9 w) : dn_require_wear [.p (.int r), .p w, .p u] [] = bad w := by
  simp [dn_require_wear, is_within_int, hr, within_bad h, flD]
theorem require3 {r w : Int} {u : D} (hr : 0 ≤ r ∧ r ≤ 30) (hw : 0 ≤ w ∧ w ≤ 9) (h : BadN 1 30 u) : dn_require_wear [.p (.int r), .p (.int w), .p u] [] = bad u := by
  simp [dn_require_wear, is_within_int, hr, hw, within_bad h, flD]
theorem fewest_x {r w u z : D} (h : dn_require_wear [.p r, .p w, .p u] [] = bad z) : dn_fewest [.p r, .p w, .p u] [] = bad z := by
  simp [dn_fewest, h]
theorem schedule_x {r w u z : D} (h : dn_require_wear [.p r, .p w, .p u] [] = bad z) : dn_schedule [.p r, .p w, .p u] [] = bad z := by
  simp [dn_schedule, fewest_x h]
theorem is_schedule_x {r w u m v z : D} (h : dn_require_wear [.p r, .p w, .p u] [] = bad z) : dn_is_schedule [.p r, .p w, .p u, .p m, .p v] [] = bad z := by
  simp [dn_is_schedule, dn_is_schedule_s1, h]
theorem is_schedule_m {d v : D} (h : BadN 0 270 d) : dn_is_schedule [.p (.int 1), .p (.int 1), .p (.int 1), .p d, .p v] [] = bad d := by
  have h1 := require_ok (r := 1) (w := 1) (u := 1) ⟨by omega, by omega⟩ ⟨by omega, by omega⟩ ⟨by omega, by omega⟩
  simp [dn_is_schedule, dn_is_schedule_s1, dn_is_schedule_s2, dn_is_schedule_s3, h1, dMul, sm30, within_bad h, flD]
theorem most_m {d w u : D} (h : BadN 0 270 d) : dn_most_rounds [.p d, .p w, .p u] [] = bad d := by
  simp [dn_most_rounds, dMul, sm30, within_bad h, flD]
theorem most_w {w u : D} (h : BadN 0 9 w) : dn_most_rounds [.p (.int 1), .p w, .p u] [] = bad w := by
  simp [dn_most_rounds, dMul, sm30, is_within_int, require2 (r := 0) (u := u) ⟨by omega, by omega⟩ h]
theorem needed_r {r w u : D} (h : BadN 0 30 r) : dn_needed_uses [.p r, .p w, .p u] [] = bad r := by
  simp [dn_needed_uses, require1 h]
theorem needed_m {d : D} (h : BadN 0 270 d) : dn_needed_uses [.p (.int 1), .p (.int 1), .p d] [] = bad d := by
  have h1 := require_ok (r := 1) (w := 1) (u := 1) ⟨by omega, by omega⟩ ⟨by omega, by omega⟩ ⟨by omega, by omega⟩
  simp [dn_needed_uses, h1, dMul, sm30, within_bad h, flD]
theorem uses_left_x {r w u z : D} (h : dn_require_wear [.p r, .p w, .p u] [] = bad z) : dn_uses_left [.p r, .p w, .p u] [] = bad z := by
  simp [dn_uses_left, schedule_x h]
theorem strs1 : (("BadNumber" : PySem.Str) == "BadPlan") = false ∧ (("BadNumber" : PySem.Str) == "BadNumber") = true ∧ (("BadOrder" : PySem.Str) == "BadNumber") = false ∧ PyData.strOk "BadNumber" = true ∧ PyData.strOk "BadPlan" = true ∧ PyData.strOk "BadOrder" = true := by decide +kernel
theorem refusal_ok (d : D) : dn__law_refusal [.x "BadNumber" [("value", d)]] [] = .ok (.tup [.str "BadNumber", d]) [] := by
  obtain ⟨s1, s2, s3, s4, s5, s6⟩ := strs1
  have e1 : ∀ l : List (PySem.Str × Bool), subT l "BadNumber" = l.lookup ("BadNumber" : PySem.Str) := fun _ => rfl
  simp [dn__law_refusal, e1, t_BadPlan, t_BadNumber, t_BadOrder, t_UnknownKind, t_UnknownHouse, t_TooMany, t_BadCourse, t_BadTimes, t_BadNeeds, t_BadRows, t_BadCounts, t_BadMoves, t_BadSuspects, t_BadSigns, t_BadText, t_BadLine, t_NotPossible, t_NotAgreed, t_BadClaim, t_NothingDone, t_ValueError, List.lookup, s2, dCount, dIndex, List.findIdx?_cons, szs, dNe, dIx, atI, ixN, dEq, s1, s4, s5, dIn, pysIn, s3, s6]
end Law
namespace M
theorem end_get (st : Sto) (x : O) : (st ++ [x])[st.length]? = some x := by simp
theorem end_set (st : Sto) (x y : O) : (st ++ [x]).set st.length y = st ++ [y] := by simp
theorem eqvs_nil (xs : List D) : D.eqvs xs [] = xs.isEmpty := by cases xs <;> simp
theorem gset {ρ : Env} {i j : Nat} {x : Option S} (h : j ≠ i) : (ρ.set j x)[i]? = ρ[i]? := List.getElem?_set_ne h
theorem gself {ρ : Env} {i : Nat} {x : Option S} (h : i < ρ.length) : (ρ.set i x)[i]? = some x := List.getElem?_set_self h
/-- environments that agree but at some slots -/
def Agr (vs : List Nat) (ρ ρ' : Env) : Prop := ρ'.length = ρ.length ∧ ∀ i, i ∉ vs → ρ'[i]? = ρ[i]?
theorem Agr.refl {vs : List Nat} {ρ : Env} : Agr vs ρ ρ := ⟨rfl, fun _ _ => rfl⟩
theorem Agr.set {vs : List Nat} {ρ ρ' : Env} {j : Nat} {x : Option S} (h : Agr vs ρ ρ') (hj : j ∈ vs) : Agr vs ρ (ρ'.set j x) :=
  ⟨by simp [h.1], fun i hi => by rw [List.getElem?_set_ne (by rintro rfl; exact hi hj)]; exact h.2 i hi⟩
theorem Agr.trans {vs : List Nat} {ρ ρ1 ρ2 : Env} (a : Agr vs ρ ρ1) (b : Agr vs ρ1 ρ2) : Agr vs ρ ρ2 := ⟨b.1.trans a.1, fun i hi => (b.2 i hi).trans (a.2 i hi)⟩
theorem Agr.mono {vs ws : List Nat} {ρ ρ' : Env} (a : Agr vs ρ ρ') (h : ∀ i ∈ vs, i ∈ ws) : Agr ws ρ ρ' := ⟨a.1, fun i hi => a.2 i fun q => hi (h i q)⟩
end M
namespace Law
open PySem PySem.Spec L2 M
abbrev At (ρ : M.Env) (i : Nat) (d : D) : Prop := ρ[i]? = some (some (.p d))
theorem pick_ok {ns : List Int} {row : List D} {rest : Sto} {ds : List D} (hr : RowOk ns row) (hf : Flat rest) (h0 : 0 < ds.length) (h1 : ds.length ≤ 1000000) :
    ∃ d row', RowOk ns row' ∧ d ∈ ds ∧ dn__law_pick [.r 0, .p (.lst ds)] (.lst row :: rest) = .ok d (.lst row' :: rest) := by
  obtain ⟨v, row', hr', v0, v1, e⟩ := taken (m := ds.length) hr hf (by omega) (by omega)
  obtain ⟨n, rfl⟩ := Int.eq_ofNat_of_zero_le v0
  have hn : n < ds.length := by omega
  refine ⟨ds[n], row', hr', List.getElem_mem hn, ?_⟩
  simp [dn__law_pick, dLen, e, dIx, atI_nat ds n hn, hf.all]
section
variable {ns : List Int} {row : List D} {rest : Sto} {ρ : M.Env}
theorem s2_ok (hl : ρ.length = 23) (h1 : ρ[1]? = some (some (.r 0))) (hr : RowOk ns row) (hf : Flat rest) : ∃ (R W U : Nat) (row' : List D), R ≤ 8 ∧ W ≤ 4 ∧ (1 ≤ U ∧ U ≤ 5) ∧ RowOk ns row' ∧
    dn_law_s2 ρ (.lst row :: rest) = .next (((ρ.set 10 (some (.p (.int (R : Nat))))).set 11 (some (.p (.int (W : Nat))))).set 12 (some (.p (.int (U : Nat))))) (.lst row' :: rest) := by
  obtain ⟨v1, row1, hr1, a1, b1, e1⟩ := taken (m := 9) hr hf (by omega) (by omega)
  obtain ⟨v2, row2, hr2, a2, b2, e2⟩ := taken (m := 5) hr1 hf (by omega) (by omega)
  obtain ⟨v3, row3, hr3, a3, b3, e3⟩ := taken (m := 5) hr2 hf (by omega) (by omega)
  obtain ⟨R, rfl⟩ := Int.eq_ofNat_of_zero_le a1
  obtain ⟨W, rfl⟩ := Int.eq_ofNat_of_zero_le a2
  obtain ⟨U, rfl⟩ := Int.eq_ofNat_of_zero_le a3
  refine ⟨R, W, 1 + U, row3, by omega, by omega, ⟨by omega, by omega⟩, hr3, ?_⟩
  simp [dn_law_s2, h1, e1, e2, e3, dAdd, setAll]
theorem s3_ok {R W U F : Nat} {st : Sto} (hR : R ≤ 8) (hW : W ≤ 4) (hU : 1 ≤ U ∧ U ≤ 5) (hF : fewest R W U = (F : Int)) (h10 : At ρ 10 (.int (R : Nat))) (h11 : At ρ 11 (.int (W : Nat))) (h12 : At ρ 12 (.int (U : Nat))) :
    dn_law_s3 ρ st = .next (ρ.set 3 (some (.p (.tup (schedL W F R))))) st := by
  have := schedule_ok (R := R) (W := W) (U := U) (F := F) (by omega) (by omega) (by omega) hF
  simp [dn_law_s3, h10, h11, h12, this]
theorem s4_ok {R W U F : Nat} {st : Sto} (hR : R ≤ 8) (hW : W ≤ 4) (hU : 1 ≤ U ∧ U ≤ 5) (hF : fewest R W U = (F : Int)) (h10 : At ρ 10 (.int (R : Nat))) (h11 : At ρ 11 (.int (W : Nat))) (h12 : At ρ 12 (.int (U : Nat))) :
    dn_law_s4 ρ st = .next (ρ.set 4 (some (.p (.int (F : Nat))))) st := by
  have := fewest_ok (r := R) (w := W) (u := U) (by omega) (by omega) (by omega)
  rw [hF] at this
  simp [dn_law_s4, h10, h11, h12, this]
theorem s5_ok {F : Nat} (h1 : ρ[1]? = some (some (.r 0))) (h4 : At ρ 4 (.int (F : Nat))) (hr : RowOk ns row) (hf : Flat rest) : ∃ (m : Nat) (row' : List D), m ≤ F + 5 ∧ RowOk ns row' ∧
    dn_law_s5 ρ (.lst row :: rest) = .next (ρ.set 13 (some (.p (.int (m : Nat))))) (.lst row' :: rest) := by
  obtain ⟨d, row1, hr1, hd, e1⟩ := pick_ok (ds := [.int 0, .int 0, .int 1, .int 5, .int (-1)]) hr hf (by simp) (by simp)
  have : ∃ i : Int, d = .int i ∧ -1 ≤ i ∧ i ≤ 5 := by
    simp only [List.mem_cons, List.not_mem_nil, or_false] at hd
    rcases hd with rfl | rfl | rfl | rfl | rfl <;> exact ⟨_, rfl, by omega, by omega⟩
  obtain ⟨i, rfl, hi1, hi2⟩ := this
  refine ⟨((F : Int) + i).toNat, row1, by omega, hr1, ?_⟩
  simp [dn_law_s5, h1, h4, szs, dNeg, e1, dAdd, dMax2]
  have hmx : (if 0 < (F : Int) + i then (F : Int) + i else 0) = max ((F : Int) + i) 0 := by split <;> omega
  rw [hmx]
def tupsI (l : List (List Int)) : List D := l.map tupI
theorem e1_draws {M k : Nat} (hk : k ≤ 4) (hM : M ≤ 1000) : ∀ (xs : List D) (row : List D), RowOk ns row → Flat rest → ρ.length = 23 → ρ[1]? = some (some (.r 0)) → At ρ 13 (.int (M : Nat)) → At ρ 5 (.int (k : Nat)) →
    ∃ (l : List Int) (row' : List D), l.length = xs.length ∧ (∀ x ∈ l, 0 ≤ x) ∧ RowOk ns row' ∧ compL (gN 22) eYes dn_law_e1 ρ xs (.lst row :: rest) = .ok (l.map .int) (.lst row' :: rest)
  | [], row, hr, hf, _, _, _, _ => ⟨[], row, rfl, by simp, hr, rfl⟩
  | x :: xs, row, hr, hf, hl, h1, h13, h5 => by
    have hm : ∃ m : Int, (if (M : Int) + (if (k : Int) = 4 then 1 else 0) > 1 then (M : Int) + (if (k : Int) = 4 then 1 else 0) else 1) = m ∧ 0 < m ∧ m ≤ 1000000 := ⟨_, rfl, by split <;> split <;> omega, by split <;> split <;> omega⟩
    obtain ⟨m, em, m0, m1⟩ := hm
    obtain ⟨v, row1, hr1, a1, b1, e1⟩ := taken (m := m) hr hf m0 m1
    obtain ⟨l, row2, hl2, hl3, hr2, e2⟩ := e1_draws hk hM xs row1 hr1 hf hl h1 h13 h5
    refine ⟨v :: l, row2, by simp [hl2], ?_, hr2, ?_⟩
    · intro y hy
      rcases List.mem_cons.mp hy with rfl | hy
      · exact a1
      · exact hl3 y hy
    · have g1 : (ρ.set 22 (some (.p x)))[1]? = some (some (.r 0)) := by simp [h1]
      have g13 : (ρ.set 22 (some (.p x)))[13]? = some (some (.p (.int (M : Nat)))) := by simp [h13]
      have g5 : (ρ.set 22 (some (.p x)))[5]? = some (some (.p (.int (k : Nat)))) := by simp [h5]
      have he : dn_law_e1 (ρ.set 22 (some (.p x))) (.lst row :: rest) = .ok (.int v) (.lst row1 :: rest) := by
        have hk4 : ((k : Int) == 4) = decide (k = 4) := by
          rw [Bool.eq_iff_iff]
          simp
          omega
        have em2 : (if (M : Int) + (if k = 4 then 1 else 0) > 1 then (M : Int) + (if k = 4 then 1 else 0) else 1) = m := by
          rw [← em]
          have : ((k : Int) = 4) ↔ k = 4 := by omega
          simp only [this]
        simp [dn_law_e1, g1, g13, g5, dEq, dInt, dAdd, dMax2, hk4]
        simp at em2
        rw [em2]
        exact e1
      unfold compL
      simp [he, e2]
end
end Law
namespace Law
open PySem PySem.Spec L2 M
section
variable {ns : List Int} {row : List D} {rest : Sto} {ρ : M.Env}
/-- rows of ints, each so long, none negative -/
def Rows (R W : Nat) (rows : List (List Int)) : Prop := rows.length = R ∧ ∀ l ∈ rows, l.length = W ∧ ∀ x ∈ l, 0 ≤ x
theorem Rows.set {R W : Nat} {rows : List (List Int)} {i : Nat} {l : List Int} (h : Rows R W rows) (hl : l.length = W) (hx : ∀ x ∈ l, 0 ≤ x) : Rows R W (rows.set i l) :=
  ⟨by simp [h.1], fun y hy => by
    rcases List.mem_or_eq_of_mem_set hy with hy | rfl
    · exact h.2 y hy
    · exact ⟨hl, hx⟩⟩
theorem s8_ok {R W m k : Nat} {rows : List (List Int)} (hR : R ≤ 8) (hW : W ≤ 4) (hM : m ≤ 1000) (hk : k ≤ 4) (hl : ρ.length = 23) (h1 : ρ[1]? = some (some (.r 0))) (h5 : At ρ 5 (.int (k : Nat))) (h10 : At ρ 10 (.int (R : Nat))) (h11 : At ρ 11 (.int (W : Nat))) (h13 : At ρ 13 (.int (m : Nat)))
    (h14 : ρ[14]? = some (some (.r (rest.length + 1)))) (hrows : Rows R W rows) (hr : RowOk ns row) (hf : Flat rest) :
    ∃ (rows' : List (List Int)) (row' : List D) (ρ' : M.Env), Rows R W rows' ∧ RowOk ns row' ∧ Agr [19] ρ ρ' ∧
      dn_law_s8 ρ (.lst row :: (rest ++ [.lst (rows.map tupI)])) = .next ρ' (.lst row' :: (rest ++ [.lst (rows'.map tupI)])) := by
  by_cases hc : 0 < R ∧ 1 < k
  · have hf2 : Flat (rest ++ [O.lst (rows.map tupI)]) := by
      intro o ho
      rcases List.mem_append.mp ho with ho | ho
      · exact hf o ho
      · obtain rfl := List.mem_singleton.mp ho
        intro c fs h
        cases h
    obtain ⟨l, row1, l1, l2, hr1, e1⟩ := e1_draws (ns := ns) (rest := rest ++ [O.lst (rows.map tupI)]) (ρ := wipeE ρ [22]) (M := m) (k := k) hk hM ((List.range W).map fun i : Nat => D.int (i : Nat)) row hr hf2 (by (first | assumption | (((try simp only [At, wipeE]); (repeat rw [gset (by decide)])); first | assumption | (rw [gself (by (try simp only [List.length_set]); omega)])) | (simp only [wipeE, List.length_set]; omega))) (by (first | assumption | (((try simp only [At, wipeE]); (repeat rw [gset (by decide)])); first | assumption | (rw [gself (by (try simp only [List.length_set]); omega)])) | (simp only [wipeE, List.length_set]; omega))) (by (first | assumption | (((try simp only [At, wipeE]); (repeat rw [gset (by decide)])); first | assumption | (rw [gself (by (try simp only [List.length_set]); omega)])) | (simp only [wipeE, List.length_set]; omega))) (by (first | assumption | (((try simp only [At, wipeE]); (repeat rw [gset (by decide)])); first | assumption | (rw [gself (by (try simp only [List.length_set]); omega)])) | (simp only [wipeE, List.length_set]; omega)))
    obtain ⟨v, row2, hr2, a2, b2, e2⟩ := taken (m := (R : Int)) hr1 hf2 (by omega) (by omega)
    obtain ⟨j, rfl⟩ := Int.eq_ofNat_of_zero_le a2
    have hlW : l.length = W := by rw [l1]; simp
    have hs : W ≤ sizeLine := sz (by omega)
    have z6 : dn_law_s6 ρ (.lst row :: (rest ++ [.lst (rows.map tupI)])) = .next (ρ.set 19 (some (.p (.lst (l.map .int))))) (.lst row1 :: (rest ++ [.lst (rows.map tupI)])) := by
      simp [dn_law_s6, h11, bigR_of (i := (W : Int)) (by omega) (by omega), rngL0, hs, e1]
    have g1 : (ρ.set 19 (some (.p (.lst (l.map .int)))))[1]? = some (some (.r 0)) := by (first | assumption | (((try simp only [At, wipeE]); (repeat rw [gset (by decide)])); first | assumption | (rw [gself (by (try simp only [List.length_set]); omega)])) | (simp only [wipeE, List.length_set]; omega))
    have g5 : (ρ.set 19 (some (.p (.lst (l.map .int)))))[5]? = some (some (.p (.int (k : Nat)))) := by (first | assumption | (((try simp only [At, wipeE]); (repeat rw [gset (by decide)])); first | assumption | (rw [gself (by (try simp only [List.length_set]); omega)])) | (simp only [wipeE, List.length_set]; omega))
    have g10 : (ρ.set 19 (some (.p (.lst (l.map .int)))))[10]? = some (some (.p (.int (R : Nat)))) := by (first | assumption | (((try simp only [At, wipeE]); (repeat rw [gset (by decide)])); first | assumption | (rw [gself (by (try simp only [List.length_set]); omega)])) | (simp only [wipeE, List.length_set]; omega))
    have g14 : (ρ.set 19 (some (.p (.lst (l.map .int)))))[14]? = some (some (.r (rest.length + 1))) := by (first | assumption | (((try simp only [At, wipeE]); (repeat rw [gset (by decide)])); first | assumption | (rw [gself (by (try simp only [List.length_set]); omega)])) | (simp only [wipeE, List.length_set]; omega))
    have g19 : (ρ.set 19 (some (.p (.lst (l.map .int)))))[19]? = some (some (.p (.lst (l.map .int)))) := by (first | assumption | (((try simp only [At, wipeE]); (repeat rw [gset (by decide)])); first | assumption | (rw [gself (by (try simp only [List.length_set]); omega)])) | (simp only [wipeE, List.length_set]; omega))
    have hj : j < rows.length := by rw [hrows.1]; omega
    have hix : ixN (rows.map tupI).length ((j : Nat) : Int) = some j := by
      unfold ixN
      rw [if_pos (by omega), if_pos (by simp; omega)]
      simp
    obtain ⟨l', hl', hx', z7⟩ : ∃ l' : List Int, l'.length = W ∧ (∀ x ∈ l', 0 ≤ x) ∧ dn_law_s7 (ρ.set 19 (some (.p (.lst (l.map .int))))) (.lst row1 :: (rest ++ [.lst (rows.map tupI)])) = .next (ρ.set 19 (some (.p (.lst (l.map .int))))) (.lst row2 :: (rest ++ [.lst ((rows.set j l').map tupI)])) := by
      by_cases hk4 : (k : Int) < 4
      · refine ⟨sortI l, by rw [(sortI_perm l).length_eq]; exact hlW, fun x hx => l2 x ((sortI_perm l).mem_iff.mp hx), ?_⟩
        simp [dn_law_s7, g1, g5, g10, g14, g19, dLt, hk4, dSorted, dTuple, lstAt, e2]
        simp at hix
        rw [hix]
        simp [tupI, List.map_set]
      · refine ⟨l, hlW, l2, ?_⟩
        simp [dn_law_s7, g1, g5, g10, g14, g19, dLt, hk4, dTuple, lstAt, e2]
        simp at hix
        rw [hix]
        simp [tupI, List.map_set]
    refine ⟨rows.set j l', row2, ρ.set 19 (some (.p (.lst (l.map .int)))), hrows.set hl' hx', hr2, Agr.refl.set (by simp), ?_⟩
    have c1 : (0 : Int) < (R : Int) := by omega
    have c2 : (1 : Int) < (k : Int) := by omega
    unfold dn_law_s8
    simp [h10, h5, dGt, hc.1, c2, -sSeq]
    rw [sSeq_next z6, z7]
    simp [List.map_set]
  · refine ⟨rows, row, ρ, hrows, hr, Agr.refl, ?_⟩
    unfold dn_law_s8
    by_cases h0 : 0 < R
    · have : ¬ (1 : Int) < (k : Int) := fun h => hc ⟨h0, by omega⟩
      simp [h10, h5, dGt, h0, this]
    · simp [h10, h5, dGt, h0]
end
end Law
namespace Law
open PySem PySem.Spec L2 M
/-! ### the pieces that are spent -/
def mn (m : Nat) (x : Int) : Int := if x < (m : Int) then x else (m : Int)
def spM (m : Nat) (L : List Int) : O := .lst ((spentN (m + 1) L).map .int)
def strJ (W : Nat) (l : List Int) : Bool := ((List.range (W - 1)).filter fun j => decide (l.getD (j + 1) 0 ≤ l.getD j 0)).isEmpty
def ltJ (m : Nat) (l : List Int) : Bool := (l.filter fun x => decide ((m : Int) ≤ x)).isEmpty
def rowJ (W m : Nat) (l : List Int) : Bool := strJ W l && ltJ m l
section
variable {ns : List Int} {row : List D} {rest : Sto} {ρ : M.Env}
theorem s11_ok {m : Nat} {x : Int} {L : List Int} {st : Sto} (h0 : 0 ≤ x) (h13 : At ρ 13 (.int (m : Nat))) (h21 : At ρ 21 (.int x)) (h20 : ρ[20]? = some (some (.r st.length))) :
    dn_law_s11 ρ (st ++ [spM m L]) = .next ρ (st ++ [spM m (L ++ [mn m x])]) := by
  obtain ⟨y, hy, hy2⟩ : ∃ y : Nat, mn m x = (y : Int) ∧ y < m + 1 := ⟨(mn m x).toNat, by unfold mn; split <;> omega, by unfold mn; split <;> omega⟩
  have hmn : (if x < (m : Int) then x else (m : Int)) = (y : Int) := hy
  have hl : (spentN (m + 1) L).length = m + 1 := by simp [spentN]
  have hix : ixN (m + 1) (y : Int) = some y := by
    unfold ixN
    rw [if_pos (by omega), if_pos (by omega)]
    simp
  have ha : atI ((spentN (m + 1) L).map D.int) (y : Int) = some (.int (L.count (y : Int) : Nat)) := by
    rw [atI_nat _ y (by simp [spentN]; omega)]
    simp [spentN]
  rw [hy]
  unfold spM
  rw [spent_step (F := m + 1) (L := L) (x := y) hy2]
  simp [dn_law_s11, h13, h21, h20, dMin2, hmn, thaw, dIx, ha, dAdd, lstAt, hl, hix]
theorem inner_ok {m : Nat} : ∀ (l : List Int) (L : List Int) (st : Sto) (ρ : M.Env), (∀ x ∈ l, 0 ≤ x) → ρ.length = 23 → At ρ 13 (.int (m : Nat)) → ρ[20]? = some (some (.r st.length)) →
    ∃ ρ', Agr [21] ρ ρ' ∧ forL (gN 21) dn_law_s11 (l.map .int) ρ (st ++ [spM m L]) = .next ρ' (st ++ [spM m (L ++ l.map (mn m))])
  | [], L, st, ρ, _, _, _, _ => ⟨ρ, Agr.refl, by simp [forL]⟩
  | x :: l, L, st, ρ, h0, hl, h13, h20 => by
    have e := s11_ok (ρ := ρ.set 21 (some (.p (.int x)))) (m := m) (x := x) (L := L) (st := st) (h0 x List.mem_cons_self) (by (first | assumption | (((try simp only [At, wipeE]); (repeat rw [gset (by decide)])); first | assumption | (rw [gself (by (try simp only [List.length_set]); omega)])) | (simp only [wipeE, List.length_set]; omega))) (by (first | assumption | (((try simp only [At, wipeE]); (repeat rw [gset (by decide)])); first | assumption | (rw [gself (by (try simp only [List.length_set]); omega)])) | (simp only [wipeE, List.length_set]; omega))) (by (first | assumption | (((try simp only [At, wipeE]); (repeat rw [gset (by decide)])); first | assumption | (rw [gself (by (try simp only [List.length_set]); omega)])) | (simp only [wipeE, List.length_set]; omega)))
    obtain ⟨ρ', a, e2⟩ := inner_ok l (L ++ [mn m x]) st (ρ.set 21 (some (.p (.int x)))) (fun y hy => h0 y (List.mem_cons_of_mem _ hy)) (by (first | assumption | (((try simp only [At, wipeE]); (repeat rw [gset (by decide)])); first | assumption | (rw [gself (by (try simp only [List.length_set]); omega)])) | (simp only [wipeE, List.length_set]; omega))) (by (first | assumption | (((try simp only [At, wipeE]); (repeat rw [gset (by decide)])); first | assumption | (rw [gself (by (try simp only [List.length_set]); omega)])) | (simp only [wipeE, List.length_set]; omega))) (by (first | assumption | (((try simp only [At, wipeE]); (repeat rw [gset (by decide)])); first | assumption | (rw [gself (by (try simp only [List.length_set]); omega)])) | (simp only [wipeE, List.length_set]; omega)))
    refine ⟨ρ', (Agr.refl.set (by simp)).trans a, ?_⟩
    rw [List.map_cons, forL_cons (ρ1 := ρ.set 21 (some (.p (.int x)))) rfl e, e2]
    simp
theorem s10_ok {W m : Nat} {b : Bool} {l : List Int} {st : Sto} (hW : W ≤ 4) (hl : ρ.length = 23) (hlW : l.length = W) (h9 : At ρ 9 (.bl b)) (h11 : At ρ 11 (.int (W : Nat))) (h13 : At ρ 13 (.int (m : Nat))) (h15 : At ρ 15 (tupI l)) :
    dn_law_s10 ρ st = .next (ρ.set 9 (some (.p (.bl (b && rowJ W m l))))) st := by
  cases b with
  | false => simp [dn_law_s10, h9]
  | true =>
    have hc := compL_map (g := gN 22) (ft := dn_law_t1) (fe := eVar 22) (ρ := wipeE ρ [22]) (st := st) (fun i : Nat => D.int (i : Nat)) (fun j => decide (l.getD (j + 1) 0 ≤ l.getD j 0)) (fun i : Nat => D.int (i : Nat)) (List.range (W - 1)) (by
      intro j hj
      have hj := List.mem_range.mp hj
      refine ⟨_, rfl, ?_, fun _ => ?_⟩
      · have a1 := atI_nat (l.map D.int) j (by simp; omega)
        have a2 := atI_nat (l.map D.int) (j + 1) (by simp; omega)
        rw [Int.natCast_add] at a2
        have g15 : ((wipeE ρ [22]).set 22 (some (.p (.int (j : Nat)))))[15]? = some (some (.p (tupI l))) := by (first | assumption | (((try simp only [At, wipeE]); (repeat rw [gset (by decide)])); first | assumption | (rw [gself (by (try simp only [List.length_set]); omega)])) | (simp only [wipeE, List.length_set]; omega))
        have g22 : ((wipeE ρ [22]).set 22 (some (.p (.int (j : Nat)))))[22]? = some (some (.p (.int (j : Nat)))) := by (first | assumption | (((try simp only [At, wipeE]); (repeat rw [gset (by decide)])); first | assumption | (rw [gself (by (try simp only [List.length_set]); omega)])) | (simp only [wipeE, List.length_set]; omega))
        simp at a1 a2
        simp [dn_law_t1, g15, g22, tupI, dIx, a1, a2, dAdd, dGe]
        rw [List.getElem?_eq_getElem (show j + 1 < l.length by omega), List.getElem?_eq_getElem (show j < l.length by omega)]
        exact Iff.rfl
      · have g22 : ((wipeE ρ [22]).set 22 (some (.p (.int (j : Nat)))))[22]? = some (some (.p (.int (j : Nat)))) := by (first | assumption | (((try simp only [At, wipeE]); (repeat rw [gset (by decide)])); first | assumption | (rw [gself (by (try simp only [List.length_set]); omega)])) | (simp only [wipeE, List.length_set]; omega))
        simp [g22])
    have hc2 := compL_map (g := gN 21) (ft := eB (eOp2 dGe (eVar 21) (eVar 13))) (fe := eVar 21) (ρ := wipeE ρ [21]) (st := st) D.int (fun x => decide ((m : Int) ≤ x)) D.int l (by
      intro x hx
      have g13 : ((wipeE ρ [21]).set 21 (some (.p (.int x))))[13]? = some (some (.p (.int (m : Nat)))) := by (first | assumption | (((try simp only [At, wipeE]); (repeat rw [gset (by decide)])); first | assumption | (rw [gself (by (try simp only [List.length_set]); omega)])) | (simp only [wipeE, List.length_set]; omega))
      have g21 : ((wipeE ρ [21]).set 21 (some (.p (.int x))))[21]? = some (some (.p (.int x))) := by (first | assumption | (((try simp only [At, wipeE]); (repeat rw [gset (by decide)])); first | assumption | (rw [gself (by (try simp only [List.length_set]); omega)])) | (simp only [wipeE, List.length_set]; omega))
      exact ⟨_, rfl, by simp [g13, g21, dGe], fun _ => by simp [g21]⟩)
    have hb : bigR ((W : Int) - 1) = true := bigR_of (by omega) (by omega)
    have hn : ((W : Int) - 1).toNat = W - 1 := by omega
    have hs : W - 1 ≤ sizeLine := sz (by omega)
    have hs2 : l.length ≤ sizeLine := sz (by omega)
    have z0 : 0 ≤ sizeLine := Nat.zero_le _
    have f1 : ∀ q : List Nat, D.flats 59 (q.map fun i : Nat => D.int (i : Nat)) = true := fun q => by
      rw [map_ints (fun i : Nat => (i : Int)) q]
      exact flats_ints _
    simp only [dn_law_s10]
    by_cases hA : strJ W l = true
    · have hA' := hA
      unfold strJ at hA'
      have hA2 : ((List.range (W - 1)).filter fun j => decide (l.getD (j + 1) 0 ≤ l.getD j 0)) = [] := List.isEmpty_iff.mp hA'
      rw [hA2] at hc
      have h15' : ρ[15]? = some (some (.p (.tup (l.map .int)))) := h15
      cases hB : ltJ m l with
      | true =>
        have hB' := hB
        unfold ltJ at hB'
        rw [List.isEmpty_iff.mp hB'] at hc2
        simp [h9, h11, h15', dSub, hb, rngL0, hn, hs, hc, dEq, itemsOf, hs2, hc2, rowJ, hA, hB]
      | false =>
        have hB' := hB
        unfold ltJ at hB'
        simp [h9, h11, h15', dSub, hb, rngL0, hn, hs, hc, dEq, itemsOf, hs2, hc2, rowJ, hA, hB, eqvs_nil]
        rw [hB']
    · have hA : strJ W l = false := by simpa using hA
      have hA' := hA
      unfold strJ at hA'
      have he : (((List.range (W - 1)).filter fun j => decide (l.getD (j + 1) 0 ≤ l.getD j 0)).map fun i : Nat => D.int (i : Nat)).isEmpty = false := by rw [List.isEmpty_map]; exact hA'
      have hf := f1 ((List.range (W - 1)).filter fun j => decide (l.getD (j + 1) 0 ≤ l.getD j 0))
      generalize (((List.range (W - 1)).filter fun j => decide (l.getD (j + 1) 0 ≤ l.getD j 0)).map fun i : Nat => D.int (i : Nat)) = ds at hc he hf
      simp [h9, h11, dSub, hb, rngL0, hn, hs, hc, dEq, hf, eqvs_nil, he, rowJ, hA]
end
end Law
namespace M
theorem cutD_take (xs : List D) (m : Nat) (h : m ≤ xs.length) : cutD xs none (some (m : Int)) = xs.take m := by
  unfold cutD
  have h1 : HT.sIx xs.length 0 none = 0 := by unfold HT.sIx; rfl
  have h2 : HT.sIx xs.length xs.length (some (m : Int)) = m := by
    rw [HT.sIx_nat]
    omega
  rw [h1, h2]
  simp
end M
namespace Law
open PySem PySem.Spec L2 M
/-! ### the plain law of the counts -/
theorem stri_iff (l : List Int) : stri l = true ↔ ∀ j, j + 1 < l.length → l.getD j 0 < l.getD (j + 1) 0 := by
  unfold stri
  rw [List.all_eq_true]
  constructor
  · intro h j hj
    have hz : (l[j]'(by omega), l[j + 1]) ∈ l.zip (l.drop 1) := by
      refine List.mem_iff_getElem?.mpr ⟨j, ?_⟩
      rw [List.getElem?_zip_eq_some]
      exact ⟨List.getElem?_eq_getElem (by omega), by rw [List.getElem?_drop, Nat.add_comm]; exact List.getElem?_eq_getElem hj⟩
    have := of_decide_eq_true (h _ hz)
    simp only [List.getD, List.getElem?_eq_getElem (show j < l.length by omega), List.getElem?_eq_getElem hj, Option.getD_some]
    exact this
  · intro h p hp
    obtain ⟨j, hj⟩ := List.mem_iff_getElem?.mp hp
    rw [List.getElem?_zip_eq_some] at hj
    obtain ⟨h1, h2⟩ := hj
    rw [List.getElem?_drop, Nat.add_comm] at h2
    have hlt : j + 1 < l.length := (List.getElem?_eq_some_iff.mp h2).1
    have := h j hlt
    simp only [List.getD, h1, h2, Option.getD_some] at this
    exact decide_eq_true this
theorem strJ_iff {W : Nat} (l : List Int) (hl : l.length = W) : strJ W l = stri l := by
  rw [Bool.eq_iff_iff, stri_iff]
  unfold strJ
  rw [List.isEmpty_iff, List.filter_eq_nil_iff]
  constructor
  · intro h j hj
    have := h j (List.mem_range.mpr (by omega))
    simp only [decide_eq_true_eq] at this
    omega
  · intro h j hj
    have hj := List.mem_range.mp hj
    have := h j (by omega)
    simp only [decide_eq_true_eq]
    omega
theorem ltJ_iff {m : Nat} (l : List Int) (h0 : ∀ x ∈ l, 0 ≤ x) : ltJ m l = okI m l := by
  rw [Bool.eq_iff_iff]
  unfold ltJ okI
  rw [List.isEmpty_iff, List.filter_eq_nil_iff, List.all_eq_true]
  constructor
  · intro h x hx
    have := h x hx
    have := h0 x hx
    simp only [decide_eq_true_eq, Bool.and_eq_true] at *
    omega
  · intro h x hx
    have := h x hx
    simp only [decide_eq_true_eq, Bool.and_eq_true] at *
    omega
theorem strict_pairwise {l : List Int} (h : stri l = true) : l.Pairwise (· < ·) := by
  rw [stri_iff] at h
  induction l with
  | nil => exact .nil
  | cons x l ih =>
    have ih := ih fun j hj => by
      have := h (j + 1) (by simp; omega)
      simpa [List.getD] using this
    rw [List.pairwise_cons]
    refine ⟨fun y hy => ?_, ih⟩
    cases l with
    | nil => cases hy
    | cons z l =>
      have h0 := h 0 (by simp)
      simp [List.getD] at h0
      rcases List.mem_cons.mp hy with rfl | hy
      · exact h0
      · have := (List.pairwise_cons.mp ih).1 y hy
        omega
def cntB (U m : Nat) (L : List Int) : Bool := (List.range m).all fun p => decide (L.count ((p : Nat) : Int) ≤ U)
theorem law_eq {R W U m : Nat} {rows : List (List Int)} (h : Rows R W rows) : schB U m rows = (rows.all (rowJ W m) && cntB U m (rows.flatten.map (mn m))) := by
  have hr : rows.all (rowI m) = rows.all (rowJ W m) := by
    rw [Bool.eq_iff_iff, List.all_eq_true, List.all_eq_true]
    have hx : ∀ l ∈ rows, rowI m l = rowJ W m l := fun l hl => by
      obtain ⟨h1, h2⟩ := h.2 l hl
      unfold rowI rowJ
      rw [strJ_iff l h1, ltJ_iff l h2, Bool.and_comm]
    exact ⟨fun q l hl => by rw [← hx l hl]; exact q l hl, fun q l hl => by rw [hx l hl]; exact q l hl⟩
  unfold schB
  rw [← hr]
  cases hb : rows.all (rowI m) with
  | false => simp
  | true =>
    have hb := List.all_eq_true.mp hb
    have hn : ∀ l ∈ rows, l.Nodup := fun l hl => by
      have := hb l hl
      unfold rowI at this
      rw [Bool.and_eq_true] at this
      exact (strict_pairwise this.2).imp fun h => by omega
    have hm : rows.flatten.map (mn m) = rows.flatten := by
      have : ∀ x ∈ rows.flatten, mn m x = x := fun x hx => by
        obtain ⟨l, hl, hx⟩ := List.mem_flatten.mp hx
        have := hb l hl
        unfold rowI okI at this
        rw [Bool.and_eq_true, List.all_eq_true] at this
        have := this.1 x hx
        simp only [Bool.and_eq_true, decide_eq_true_eq] at this
        unfold mn
        rw [if_pos this.2]
      exact (List.map_congr_left this).trans (List.map_id _)
    rw [hm]
    simp only [Bool.true_and]
    unfold cntB
    congr 1
    funext p
    rw [used_count rows hn]
section
variable {ns : List Int} {row : List D} {rest : Sto} {ρ : M.Env}
theorem s12_ok {m : Nat} {l L : List Int} {st : Sto} (h0 : ∀ x ∈ l, 0 ≤ x) (hl : ρ.length = 23) (h13 : At ρ 13 (.int (m : Nat))) (h15 : At ρ 15 (tupI l)) (h20 : ρ[20]? = some (some (.r st.length))) :
    ∃ ρ', Agr [21] ρ ρ' ∧ dn_law_s12 ρ (st ++ [spM m L]) = .next ρ' (st ++ [spM m (L ++ l.map (mn m))]) := by
  obtain ⟨ρ', a, e⟩ := inner_ok (m := m) l L st ρ h0 hl h13 h20
  refine ⟨ρ', a, ?_⟩
  have h15' : ρ[15]? = some (some (.p (.tup (l.map .int)))) := h15
  simp [dn_law_s12, h15', itemsOf, e]
theorem s13_ok {R W m : Nat} {rows : List (List Int)} (hW : W ≤ 4) (hrows : Rows R W rows) (hl : ρ.length = 23) (h9 : At ρ 9 (.bl true)) (h11 : At ρ 11 (.int (W : Nat))) (h13 : At ρ 13 (.int (m : Nat))) (h14 : ρ[14]? = some (some (.r (rest.length + 1)))) (h20 : ρ[20]? = some (some (.r (rest.length + 2)))) :
    ∃ ρ', Agr [9, 15, 21] ρ ρ' ∧ At ρ' 9 (.bl (rows.all (rowJ W m))) ∧
      dn_law_s13 ρ (.lst row :: (rest ++ [.lst (rows.map tupI), spM m []])) = .next ρ' (.lst row :: (rest ++ [.frz (.lst (rows.map tupI)), spM m (rows.flatten.map (mn m))])) := by
  have hst : ∀ o, (.lst row :: (rest ++ [.frz (.lst (rows.map tupI)), o]) : Sto) = (.lst row :: (rest ++ [.frz (.lst (rows.map tupI))])) ++ [o] := fun o => by simp
  have hsl : (.lst row :: (rest ++ [.frz (.lst (rows.map tupI))]) : Sto).length = rest.length + 2 := by simp
  obtain ⟨ρ', st', e, ⟨a, b9⟩, rfl⟩ := forL_ix (g := gN 15) (fb := sSeq dn_law_s10 dn_law_s12) tupI rows (fun i ρ' st' => (Agr [9, 15, 21] ρ ρ' ∧ At ρ' 9 (.bl ((rows.take i).all (rowJ W m)))) ∧ st' = (.lst row :: (rest ++ [.frz (.lst (rows.map tupI))]) : Sto) ++ [spM m ((rows.take i).flatten.map (mn m))])
    (ρ := ρ) (st := (.lst row :: (rest ++ [.frz (.lst (rows.map tupI))]) : Sto) ++ [spM m []]) ⟨⟨Agr.refl, by simpa using h9⟩, by simp⟩ (by
      rintro i l ρ1 st1 hx ⟨⟨a, b9⟩, rfl⟩
      obtain ⟨h1, h2⟩ := hrows.2 l (List.mem_of_getElem? hx)
      have k1 : ρ1.length = 23 := a.1.trans hl
      have k11 : At ρ1 11 (.int (W : Nat)) := (a.2 11 (by decide)).trans h11
      have k13 : At ρ1 13 (.int (m : Nat)) := (a.2 13 (by decide)).trans h13
      have k20 : ρ1[20]? = some (some (.r (.lst row :: (rest ++ [.frz (.lst (rows.map tupI))]) : Sto).length)) := by rw [hsl]; exact (a.2 20 (by decide)).trans h20
      have e10 := s10_ok (ρ := ρ1.set 15 (some (.p (tupI l)))) (b := (rows.take i).all (rowJ W m)) (l := l) (m := m) (st := (.lst row :: (rest ++ [.frz (.lst (rows.map tupI))]) : Sto) ++ [spM m ((rows.take i).flatten.map (mn m))]) hW (by (first | assumption | (((try simp only [At, wipeE]); (repeat rw [gset (by decide)])); first | assumption | (rw [gself (by (try simp only [List.length_set]); omega)])) | (simp only [wipeE, List.length_set]; omega))) h1 (by (first | assumption | (((try simp only [At, wipeE]); (repeat rw [gset (by decide)])); first | assumption | (rw [gself (by (try simp only [List.length_set]); omega)])) | (simp only [wipeE, List.length_set]; omega))) (by (first | assumption | (((try simp only [At, wipeE]); (repeat rw [gset (by decide)])); first | assumption | (rw [gself (by (try simp only [List.length_set]); omega)])) | (simp only [wipeE, List.length_set]; omega))) (by (first | assumption | (((try simp only [At, wipeE]); (repeat rw [gset (by decide)])); first | assumption | (rw [gself (by (try simp only [List.length_set]); omega)])) | (simp only [wipeE, List.length_set]; omega))) (by (first | assumption | (((try simp only [At, wipeE]); (repeat rw [gset (by decide)])); first | assumption | (rw [gself (by (try simp only [List.length_set]); omega)])) | (simp only [wipeE, List.length_set]; omega)))
      obtain ⟨ρ2, a2, e12⟩ := s12_ok (ρ := (ρ1.set 15 (some (.p (tupI l)))).set 9 (some (.p (.bl ((rows.take i).all (rowJ W m) && rowJ W m l))))) (m := m) (l := l) (L := (rows.take i).flatten.map (mn m)) (st := (.lst row :: (rest ++ [.frz (.lst (rows.map tupI))]) : Sto)) h2 (by (first | assumption | (((try simp only [At, wipeE]); (repeat rw [gset (by decide)])); first | assumption | (rw [gself (by (try simp only [List.length_set]); omega)])) | (simp only [wipeE, List.length_set]; omega))) (by (first | assumption | (((try simp only [At, wipeE]); (repeat rw [gset (by decide)])); first | assumption | (rw [gself (by (try simp only [List.length_set]); omega)])) | (simp only [wipeE, List.length_set]; omega))) (by (first | assumption | (((try simp only [At, wipeE]); (repeat rw [gset (by decide)])); first | assumption | (rw [gself (by (try simp only [List.length_set]); omega)])) | (simp only [wipeE, List.length_set]; omega))) (by (first | assumption | (((try simp only [At, wipeE]); (repeat rw [gset (by decide)])); first | assumption | (rw [gself (by (try simp only [List.length_set]); omega)])) | (simp only [wipeE, List.length_set]; omega)))
      have ht : rows.take (i + 1) = rows.take i ++ [l] := by rw [List.take_add_one, hx]; rfl
      refine ⟨_, ρ2, _, rfl, .inl ((sSeq_next e10).trans e12), ⟨((a.set (by simp)).set (by simp)).trans (a2.mono (by simp)), ?_⟩, ?_⟩
      · refine (a2.2 9 (by decide)).trans ?_
        rw [ht, List.all_append]
        simp only [List.all_cons, List.all_nil, Bool.and_true]
        (first | assumption | (((try simp only [At, wipeE]); (repeat rw [gset (by decide)])); first | assumption | (rw [gself (by (try simp only [List.length_set]); omega)])) | (simp only [wipeE, List.length_set]; omega))
      · rw [ht]
        simp)
  rw [List.take_length] at b9 e
  refine ⟨ρ', a, b9, ?_⟩
  have hg : ((.lst row :: (rest ++ [.lst (rows.map tupI), spM m []]) : Sto)[rest.length + 1]?) = some (.lst (rows.map tupI)) := by simp
  have hs : ((.lst row :: (rest ++ [.lst (rows.map tupI), spM m []]) : Sto).set (rest.length + 1) (.frz (.lst (rows.map tupI)))) = (.lst row :: (rest ++ [.frz (.lst (rows.map tupI))]) : Sto) ++ [spM m []] := by simp
  rw [hst]
  simp only [dn_law_s13, sFor, sOf, iSeq, eVar, h14, hg, hs, Option.bind_some, thaw, Res.bind, itemsOf]
  exact e
end
end Law
namespace Law
open PySem PySem.Spec L2 M
theorem alike_bl (n : Nat) (a b : Bool) : dn__law_alike (n + 1) [.p (.bl a), .p (.bl b)] [] = .ok (.bl (a == b)) [] := by
  unfold dn__law_alike
  simp [dIs, dEq, D.isNon]
section
variable {ns : List Int} {row : List D} {rest : Sto} {ρ : M.Env}
theorem zeros (n : Nat) : List.replicate n (D.int 0) = (spentN n []).map D.int := by
  unfold spentN
  rw [List.map_map]
  induction n with
  | zero => rfl
  | succ n ih => rw [List.replicate_succ', ih, List.range_succ, List.map_append]; simp
theorem s9_ok {m : Nat} {st : Sto} (hm : m ≤ 1000) (h13 : At ρ 13 (.int (m : Nat))) :
    dn_law_s9 ρ st = .next ((ρ.set 20 (some (.r st.length))).set 9 (some (.p (.bl true)))) (st ++ [spM m []]) := by
  have h3 : (m : Int) + 1 < 4611686018427387904 := by omega
  have h4 : -4611686018427387904 < (m : Int) + 1 := by omega
  have h5 : ((m : Int) + 1).toNat = m + 1 := by omega
  have h6 : m + 1 ≤ sizeLine := sz (by omega)
  simp [dn_law_s9, h13, dAdd, szs, repO, h3, h4, h5, h6, setAll, spM, zeros]
theorem s14_ok {U m : Nat} {b : Bool} {L : List Int} {st : Sto} (hm : m ≤ 1000) (hl : ρ.length = 23) (h9 : At ρ 9 (.bl b)) (h12 : At ρ 12 (.int (U : Nat))) (h13 : At ρ 13 (.int (m : Nat))) (h20 : ρ[20]? = some (some (.r st.length))) :
    ∃ o, (∀ c fs, o ≠ O.ins c fs) ∧ dn_law_s14 ρ (st ++ [spM m L]) = .next (ρ.set 9 (some (.p (.bl (b && cntB U m L))))) (st ++ [o]) := by
  cases b with
  | false => exact ⟨spM m L, (fun c fs h => by cases h), by simp [dn_law_s14, h9]⟩
  | true =>
    refine ⟨.frz (.lst ((spentN (m + 1) L).map .int)), fun c fs h => (by cases h), ?_⟩
    have hlen : ((spentN (m + 1) L).map D.int).length = m + 1 := by simp [spentN]
    have htk : (spentN (m + 1) L).take m = spentN m L := by
      unfold spentN
      rw [← List.map_take, List.take_range]
      simp
    have hcut : dCut (.lst ((spentN (m + 1) L).map D.int)) none (some (m : Int)) = some (.lst ((spentN m L).map .int)) := by
      unfold dCut
      simp only
      rw [cutD_take _ m (by rw [hlen]; omega), ← List.map_take, htk]
    have hc := compL_map (g := gN 15) (ft := eB (eOp2 dGt (eVar 15) (eVar 12))) (fe := eVar 15) (ρ := wipeE ρ [15]) (st := st ++ [.frz (.lst ((spentN (m + 1) L).map .int))]) D.int (fun x => decide ((U : Int) < x)) D.int (spentN m L) (by
      intro x hx
      have g12 : ((wipeE ρ [15]).set 15 (some (.p (.int x))))[12]? = some (some (.p (.int (U : Nat)))) := by (first | assumption | (((try simp only [At, wipeE]); (repeat rw [gset (by decide)])); first | assumption | (rw [gself (by (try simp only [List.length_set]); omega)])) | (simp only [wipeE, List.length_set]; omega))
      have g15 : ((wipeE ρ [15]).set 15 (some (.p (.int x))))[15]? = some (some (.p (.int x))) := by (first | assumption | (((try simp only [At, wipeE]); (repeat rw [gset (by decide)])); first | assumption | (rw [gself (by (try simp only [List.length_set]); omega)])) | (simp only [wipeE, List.length_set]; omega))
      exact ⟨_, rfl, by simp [g12, g15, dGt], fun _ => by simp [g15]⟩)
    have hs : m ≤ sizeLine := sz (by omega)
    have hlm : (spentN m L).length = m := by simp [spentN]
    have hcb : ((spentN m L).filter fun x => decide ((U : Int) < x)).isEmpty = cntB U m L := by
      rw [Bool.eq_iff_iff]
      unfold cntB
      rw [List.isEmpty_iff, List.filter_eq_nil_iff, List.all_eq_true]
      unfold spentN
      constructor
      · intro h p hp
        have := h _ (List.mem_map.mpr ⟨p, hp, rfl⟩)
        simp only [decide_eq_true_eq] at this ⊢
        omega
      · intro h x hx
        obtain ⟨p, hp, rfl⟩ := List.mem_map.mp hx
        have := h p hp
        simp only [decide_eq_true_eq] at this ⊢
        omega
    have he : ((((spentN m L).filter fun x => decide ((U : Int) < x)).map D.int).isEmpty) = cntB U m L := by rw [List.isEmpty_map]; exact hcb
    have hf := flats_ints (((spentN m L).filter fun x => decide ((U : Int) < x))) (n := 59)
    generalize ((spentN m L).filter fun x => decide ((U : Int) < x)).map D.int = ds at hc he hf
    simp [dn_law_s14, h9, h12, h13, h20, spM, thaw, hcut, itemsOf, hlm, hs, hc, dEq, hf, eqvs_nil, he]
theorem s15_ok {R W U m : Nat} {b : Bool} {rows : List (List Int)} {o : O} (hR : R ≤ 8) (hW : W ≤ 4) (hU : 1 ≤ U ∧ U ≤ 5) (hm : m ≤ 270) (hrows : Rows R W rows) (hb : schB U m rows = b) (h9 : At ρ 9 (.bl b)) (h10 : At ρ 10 (.int (R : Nat))) (h11 : At ρ 11 (.int (W : Nat))) (h12 : At ρ 12 (.int (U : Nat)))
    (h13 : At ρ 13 (.int (m : Nat))) (h14 : ρ[14]? = some (some (.r (rest.length + 1)))) :
    dn_law_s15 ρ (.lst row :: (rest ++ [.frz (.lst (rows.map tupI)), o])) = .next ρ (.lst row :: (rest ++ [.frz (.lst (rows.map tupI)), o])) := by
  have hg : (.lst row :: (rest ++ [.frz (.lst (rows.map tupI)), o]) : Sto)[rest.length + 1]? = some (.frz (.lst (rows.map tupI))) := by simp
  have e := is_schedule_rows (R := R) (W := W) (U := U) (m := m) (rows := rows) (by omega) (by omega) (by omega) hm hrows.1 fun l hl => (hrows.2 l hl).1
  rw [hb] at e
  have a := alike_bl 9 b b
  rw [beq_self_eq_true] at a
  have ht : thaw (.frz (.lst (rows.map tupI))) = some (.lst (rows.map tupI)) := rfl
  have e14 : eVarB 14 ρ (.lst row :: (rest ++ [.frz (.lst (rows.map tupI)), o])) = .ok (.lst (rows.map tupI)) (.lst row :: (rest ++ [.frz (.lst (rows.map tupI)), o])) := by
    simp only [eVarB, h14, hg, Option.bind_some, ht]
  simp [dn_law_s15, h9, h10, h11, h12, h13, e14, dTuple, e, a, -eVarB]
/-- one turn of the inner loop -/
structure TF (ns : List Int) (ρ : M.Env) (R W U F : Nat) : Prop where
  len : ρ.length = 23
  r1 : ρ[1]? = some (some (.r 0))
  a3 : At ρ 3 (.tup (schedL W F R))
  a4 : At ρ 4 (.int (F : Nat))
  a10 : At ρ 10 (.int (R : Nat))
  a11 : At ρ 11 (.int (W : Nat))
  a12 : At ρ 12 (.int (U : Nat))
abbrev slots : List Nat := [5, 13, 14, 19, 20, 9, 15, 21]
theorem TF.agr {R W U F : Nat} {ρ ρ' : M.Env} (t : TF ns ρ R W U F) (a : Agr slots ρ ρ') : TF ns ρ' R W U F :=
  ⟨a.1.trans t.len, (a.2 1 (by decide)).trans t.r1, (a.2 3 (by decide)).trans t.a3, (a.2 4 (by decide)).trans t.a4, (a.2 10 (by decide)).trans t.a10, (a.2 11 (by decide)).trans t.a11, (a.2 12 (by decide)).trans t.a12⟩
theorem b1_ok {R W U F k : Nat} (hR : R ≤ 8) (hW : W ≤ 4) (hU : 1 ≤ U ∧ U ≤ 5) (hF : F ≤ 200) (hWF : R ≠ 0 → W ≤ F) (hk : k ≤ 4) (t : TF ns ρ R W U F) (h5 : At ρ 5 (.int (k : Nat))) (hr : RowOk ns row) (hf : Flat rest) :
    ∃ (row' : List D) (rest' : Sto) (ρ' : M.Env), Agr slots ρ ρ' ∧ RowOk ns row' ∧ Flat rest' ∧ dn_law_b1 ρ (.lst row :: rest) = .next ρ' (.lst row' :: rest') := by
  obtain ⟨m, row1, hm, hr1, e5⟩ := s5_ok (ρ := ρ) t.r1 t.a4 hr hf
  have l0 := t.len
  have hrows : Rows R W (rowsN W F R) := ⟨by simp [rowsN], fun l hl => by
    obtain ⟨t, ht, rfl⟩ := List.mem_map.mp hl
    have := List.mem_range.mp ht
    exact ⟨row_length t, fun x hx => (row_range (hWF (by omega)) t x hx).1⟩⟩
  have r1 := t.r1
  have a3 := t.a3
  have a10 := t.a10
  have a11 := t.a11
  have a12 := t.a12
  obtain ⟨rows, row2, ρ2, hrows2, hr2, ag2, e8⟩ := s8_ok (ρ := (ρ.set 13 (some (.p (.int (m : Nat))))).set 14 (some (.r (rest.length + 1)))) (row := row1) (rest := rest) (R := R) (W := W) (m := m) (k := k) (rows := rowsN W F R) hR hW (by omega) hk (by (first | assumption | (((try simp only [At, wipeE]); (repeat rw [gset (by decide)])); first | assumption | (rw [gself (by (try simp only [List.length_set]); omega)])) | (simp only [wipeE, List.length_set]; omega))) (by (first | assumption | (((try simp only [At, wipeE]); (repeat rw [gset (by decide)])); first | assumption | (rw [gself (by (try simp only [List.length_set]); omega)])) | (simp only [wipeE, List.length_set]; omega))) (by (first | assumption | (((try simp only [At, wipeE]); (repeat rw [gset (by decide)])); first | assumption | (rw [gself (by (try simp only [List.length_set]); omega)])) | (simp only [wipeE, List.length_set]; omega))) (by (first | assumption | (((try simp only [At, wipeE]); (repeat rw [gset (by decide)])); first | assumption | (rw [gself (by (try simp only [List.length_set]); omega)])) | (simp only [wipeE, List.length_set]; omega))) (by (first | assumption | (((try simp only [At, wipeE]); (repeat rw [gset (by decide)])); first | assumption | (rw [gself (by (try simp only [List.length_set]); omega)])) | (simp only [wipeE, List.length_set]; omega))) (by (first | assumption | (((try simp only [At, wipeE]); (repeat rw [gset (by decide)])); first | assumption | (rw [gself (by (try simp only [List.length_set]); omega)])) | (simp only [wipeE, List.length_set]; omega))) (by (first | assumption | (((try simp only [At, wipeE]); (repeat rw [gset (by decide)])); first | assumption | (rw [gself (by (try simp only [List.length_set]); omega)])) | (simp only [wipeE, List.length_set]; omega))) hrows hr1 hf
  have agA : Agr slots ρ ρ2 := ((Agr.refl.set (by decide)).set (by decide)).trans (ag2.mono (by decide))
  have t2 := t.agr agA
  have k13 : At ρ2 13 (.int (m : Nat)) := (ag2.2 13 (by decide)).trans (by (first | assumption | (((try simp only [At, wipeE]); (repeat rw [gset (by decide)])); first | assumption | (rw [gself (by (try simp only [List.length_set]); omega)])) | (simp only [wipeE, List.length_set]; omega)))
  have k14 : ρ2[14]? = some (some (.r (rest.length + 1))) := (ag2.2 14 (by decide)).trans (by (first | assumption | (((try simp only [At, wipeE]); (repeat rw [gset (by decide)])); first | assumption | (rw [gself (by (try simp only [List.length_set]); omega)])) | (simp only [wipeE, List.length_set]; omega)))
  have e9 := s9_ok (ρ := ρ2) (m := m) (st := .lst row2 :: (rest ++ [.lst (rows.map tupI)])) (by omega) k13
  have hl2 : (.lst row2 :: (rest ++ [.lst (rows.map tupI)]) : Sto).length = rest.length + 2 := by simp
  rw [hl2] at e9
  have l2 := t2.len
  have c11 := t2.a11
  obtain ⟨ρ3, ag3, b9, e13⟩ := s13_ok (ρ := (ρ2.set 20 (some (.r (rest.length + 2)))).set 9 (some (.p (.bl true)))) (row := row2) (rest := rest) (R := R) (W := W) (m := m) (rows := rows) hW hrows2 (by (first | assumption | (((try simp only [At, wipeE]); (repeat rw [gset (by decide)])); first | assumption | (rw [gself (by (try simp only [List.length_set]); omega)])) | (simp only [wipeE, List.length_set]; omega))) (by (first | assumption | (((try simp only [At, wipeE]); (repeat rw [gset (by decide)])); first | assumption | (rw [gself (by (try simp only [List.length_set]); omega)])) | (simp only [wipeE, List.length_set]; omega))) (by (first | assumption | (((try simp only [At, wipeE]); (repeat rw [gset (by decide)])); first | assumption | (rw [gself (by (try simp only [List.length_set]); omega)])) | (simp only [wipeE, List.length_set]; omega))) (by (first | assumption | (((try simp only [At, wipeE]); (repeat rw [gset (by decide)])); first | assumption | (rw [gself (by (try simp only [List.length_set]); omega)])) | (simp only [wipeE, List.length_set]; omega))) (by (first | assumption | (((try simp only [At, wipeE]); (repeat rw [gset (by decide)])); first | assumption | (rw [gself (by (try simp only [List.length_set]); omega)])) | (simp only [wipeE, List.length_set]; omega))) (by (first | assumption | (((try simp only [At, wipeE]); (repeat rw [gset (by decide)])); first | assumption | (rw [gself (by (try simp only [List.length_set]); omega)])) | (simp only [wipeE, List.length_set]; omega)))
  have agB : Agr slots ρ ρ3 := agA.trans ((((Agr.refl.set (by decide)).set (by decide))).trans (ag3.mono (by decide)))
  have t3 := t.agr agB
  have d13 : At ρ3 13 (.int (m : Nat)) := (ag3.2 13 (by decide)).trans (by (first | assumption | (((try simp only [At, wipeE]); (repeat rw [gset (by decide)])); first | assumption | (rw [gself (by (try simp only [List.length_set]); omega)])) | (simp only [wipeE, List.length_set]; omega)))
  have d14 : ρ3[14]? = some (some (.r (rest.length + 1))) := (ag3.2 14 (by decide)).trans (by (first | assumption | (((try simp only [At, wipeE]); (repeat rw [gset (by decide)])); first | assumption | (rw [gself (by (try simp only [List.length_set]); omega)])) | (simp only [wipeE, List.length_set]; omega)))
  have d20 : ρ3[20]? = some (some (.r (.lst row2 :: (rest ++ [.frz (.lst (rows.map tupI))]) : Sto).length)) := (ag3.2 20 (by decide)).trans (by
    have : (.lst row2 :: (rest ++ [.frz (.lst (rows.map tupI))]) : Sto).length = rest.length + 2 := by simp
    rw [this]
    (first | assumption | (((try simp only [At, wipeE]); (repeat rw [gset (by decide)])); first | assumption | (rw [gself (by (try simp only [List.length_set]); omega)])) | (simp only [wipeE, List.length_set]; omega)))
  obtain ⟨o, ho, e14⟩ := s14_ok (ρ := ρ3) (U := U) (m := m) (b := rows.all (rowJ W m)) (L := rows.flatten.map (mn m)) (st := .lst row2 :: (rest ++ [.frz (.lst (rows.map tupI))])) (by omega) t3.len b9 t3.a12 d13 d20
  have l3 := t3.len
  have f10 := t3.a10
  have f11 := t3.a11
  have f12 := t3.a12
  have e15 := s15_ok (ρ := ρ3.set 9 (some (.p (.bl (rows.all (rowJ W m) && cntB U m (rows.flatten.map (mn m))))))) (row := row2) (rest := rest) (R := R) (W := W) (U := U) (m := m) (b := rows.all (rowJ W m) && cntB U m (rows.flatten.map (mn m))) (rows := rows) (o := o) hR hW hU (by omega) hrows2 (law_eq hrows2) (by (first | assumption | (((try simp only [At, wipeE]); (repeat rw [gset (by decide)])); first | assumption | (rw [gself (by (try simp only [List.length_set]); omega)])) | (simp only [wipeE, List.length_set]; omega))) (by (first | assumption | (((try simp only [At, wipeE]); (repeat rw [gset (by decide)])); first | assumption | (rw [gself (by (try simp only [List.length_set]); omega)])) | (simp only [wipeE, List.length_set]; omega))) (by (first | assumption | (((try simp only [At, wipeE]); (repeat rw [gset (by decide)])); first | assumption | (rw [gself (by (try simp only [List.length_set]); omega)])) | (simp only [wipeE, List.length_set]; omega))) (by (first | assumption | (((try simp only [At, wipeE]); (repeat rw [gset (by decide)])); first | assumption | (rw [gself (by (try simp only [List.length_set]); omega)])) | (simp only [wipeE, List.length_set]; omega))) (by (first | assumption | (((try simp only [At, wipeE]); (repeat rw [gset (by decide)])); first | assumption | (rw [gself (by (try simp only [List.length_set]); omega)])) | (simp only [wipeE, List.length_set]; omega))) (by (first | assumption | (((try simp only [At, wipeE]); (repeat rw [gset (by decide)])); first | assumption | (rw [gself (by (try simp only [List.length_set]); omega)])) | (simp only [wipeE, List.length_set]; omega)))
  refine ⟨row2, rest ++ [.frz (.lst (rows.map tupI)), o], ρ3.set 9 (some (.p (.bl (rows.all (rowJ W m) && cntB U m (rows.flatten.map (mn m)))))), agB.set (j := 9) (by decide), hr2, ?_, ?_⟩
  · intro x hx
    rcases List.mem_append.mp hx with hx | hx
    · exact hf x hx
    · simp only [List.mem_cons, List.not_mem_nil, or_false] at hx
      rcases hx with rfl | rfl
      · intro c fs h; cases h
      · exact ho
  · have ev : sNew 14 (nOf lstO (eVar 3)) (ρ.set 13 (some (.p (.int (m : Nat))))) (.lst row1 :: rest) = .next ((ρ.set 13 (some (.p (.int (m : Nat))))).set 14 (some (.r (rest.length + 1)))) (.lst row1 :: (rest ++ [.lst ((rowsN W F R).map tupI)])) := by
      have g3 : (ρ.set 13 (some (.p (.int (m : Nat)))))[3]? = some (some (.p (.tup (schedL W F R)))) := by (first | assumption | (((try simp only [At, wipeE]); (repeat rw [gset (by decide)])); first | assumption | (rw [gself (by (try simp only [List.length_set]); omega)])) | (simp only [wipeE, List.length_set]; omega))
      simp [g3, lstO, schedL]
    have s1 : ∀ x y, (.lst row2 :: (rest ++ [x]) : Sto) ++ [y] = .lst row2 :: (rest ++ [x, y]) := fun x y => by simp
    rw [s1] at e9 e14
    rw [s1] at e14
    unfold dn_law_b1
    rw [sSeq_next e5, sSeq_next ev, sSeq_next e8, sSeq_next e9, sSeq_next e13, sSeq_next e14, e15]
end
end Law
namespace Law
open PySem PySem.Spec L2 M
section
variable {R W U m : Nat}
theorem sch_start {v : D} {d : D} (hR : R ≤ 8) (hW : W ≤ 4) (hU : 1 ≤ U ∧ U ≤ 5) (hm : m ≤ 270)
    (h : (sSeq dn_is_schedule_s4 (sSeq dn_is_schedule_s7 dn_is_schedule_s8)) (es R W U m v none none none) [] = .ret d []) :
    dn_is_schedule [.p (.int (R : Nat)), .p (.int (W : Nat)), .p (.int (U : Nat)), .p (.int (m : Nat)), .p v] [] = .ok d [] := by
  have h1 := sch1 (R := R) (W := W) (U := U) (m := m) (v := v) (x5 := none) (x6 := none) (x7 := none) (by omega) (by omega) (by omega)
  have h3 := sch3 (R := R) (W := W) (U := U) (m := m) (v := v) (x5 := none) (x6 := none) (x7 := none) hm
  refine dFn_ret rfl (st' := []) ?_
  show (sSeq dn_is_schedule_s1 (sSeq dn_is_schedule_s3 (sSeq dn_is_schedule_s4 (sSeq dn_is_schedule_s7 dn_is_schedule_s8)))) (es R W U m v none none none) [] = _
  rw [sSeq_next h1, sSeq_next h3]
  exact h
theorem sch_no {v : D} (hR : R ≤ 8) (hW : W ≤ 4) (hU : 1 ≤ U ∧ U ≤ 5) (hm : m ≤ 270) (h : NoTup v) :
    dn_is_schedule [.p (.int (R : Nat)), .p (.int (W : Nat)), .p (.int (U : Nat)), .p (.int (m : Nat)), .p v] [] = .ok (.bl false) [] :=
  sch_start hR hW hU hm (sSeq_ret (sch4_no h))
theorem sch_len {xs : List D} (hR : R ≤ 8) (hW : W ≤ 4) (hU : 1 ≤ U ∧ U ≤ 5) (hm : m ≤ 270) (h : xs.length ≠ R) :
    dn_is_schedule [.p (.int (R : Nat)), .p (.int (W : Nat)), .p (.int (U : Nat)), .p (.int (m : Nat)), .p (.tup xs)] [] = .ok (.bl false) [] :=
  sch_start hR hW hU hm (sSeq_ret (sch4_len h))
theorem sch_row {xs : List D} (hR : R ≤ 8) (hW : W ≤ 4) (hU : 1 ≤ U ∧ U ≤ 5) (hm : m ≤ 270) (hl : xs.length = R) (hx : ∀ d ∈ xs, NoTup d ∨ ∃ l, d = .tup l) (h : xs.all (rowLen W) = false) :
    dn_is_schedule [.p (.int (R : Nat)), .p (.int (W : Nat)), .p (.int (U : Nat)), .p (.int (m : Nat)), .p (.tup xs)] [] = .ok (.bl false) [] := by
  have h4 := sch4 (R := R) (W := W) (U := U) (m := m) (x6 := none) (x7 := none) hl (by omega) hx
  rw [if_neg (by rw [h]; simp)] at h4
  exact sch_start hR hW hU hm (sSeq_ret h4)
theorem sch_first {l : List D} {xs : List D} (hR : R ≤ 8) (hW : W ≤ 4) (hU : 1 ≤ U ∧ U ≤ 5) (hm : m ≤ 270) (hl : xs.length + 1 = R) (hlW : l.length = W) (hx : ∀ d ∈ xs, ∃ l : List D, d = .tup l ∧ l.length = W) (hd : ∀ d ∈ l, d = .non ∨ ∃ i, d = .int i) (h : l.all (okP m) = false) :
    dn_is_schedule [.p (.int (R : Nat)), .p (.int (W : Nat)), .p (.int (U : Nat)), .p (.int (m : Nat)), .p (.tup (.tup l :: xs))] [] = .ok (.bl false) [] := by
  have h4 := sch4 (R := R) (W := W) (U := U) (m := m) (x6 := none) (x7 := none) (xs := .tup l :: xs) (by simpa using hl) (by omega) (by
    intro d hd
    rcases List.mem_cons.mp hd with rfl | hd
    · exact .inr ⟨_, rfl⟩
    · obtain ⟨l, rfl, _⟩ := hx d hd
      exact .inr ⟨_, rfl⟩)
  have ha : (D.tup l :: xs).all (rowLen W) = true := by
    rw [List.all_eq_true]
    intro d hd
    rcases List.mem_cons.mp hd with rfl | hd
    · simp [rowLen, hlW]
    · obtain ⟨l, rfl, e⟩ := hx d hd
      simp [rowLen, e]
  rw [if_pos ha] at h4
  have h5 := sch5 (R := R) (W := W) (U := U) (m := m) (v := .tup (.tup l :: xs)) (x7 := none) (l := l) (by omega) hd
  rw [if_neg (by rw [h]; simp)] at h5
  have h7 : dn_is_schedule_s7 (es R W U m (.tup (.tup l :: xs)) none none none) [] = .ret (.bl false) [] := by
    have hb : dn_is_schedule_b1 ((es R W U m (.tup (.tup l :: xs)) none none none).set 5 (some (.p (.tup l)))) [] = .ret (.bl false) [] := by
      unfold dn_is_schedule_b1
      exact sSeq_ret h5
    have hf := forL_ret (g := gN 5) (fb := dn_is_schedule_b1) (d := .tup l) (ds := xs) (ρ := es R W U m (.tup (.tup l :: xs)) none none none) (st := []) rfl hb
    have h4' : (es R W U m (.tup (.tup l :: xs)) none none none)[4]? = some (some (.p (.tup (.tup l :: xs)))) := rfl
    simp only [dn_is_schedule_s7, sFor, sOf, iSeq, eVar, h4', Res.bind, itemsOf]
    exact hf
  refine sch_start hR hW hU hm ?_
  rw [sSeq_next h4]
  exact sSeq_ret h7
end
section
variable {ns : List Int} {row : List D} {rest : Sto} {ρ : M.Env} {R W U F : Nat}
theorem odd_ok (hr : RowOk ns row) (hf : Flat rest) : ∃ (d : D) (row' : List D), NoTup d ∧ RowOk ns row' ∧ dn__law_odd [.r 0] (.lst row :: rest) = .ok d (.lst row' :: rest) := by
  have hp : (10 : Int) ^ (30 : Nat) = 1000000000000000000000000000000 := by decide
  obtain ⟨d, row1, hr1, hd, e1⟩ := pick_ok (ds := [.non, .bl true, .bl false, .int (-1), .int 1000000000000000000000000000000, .str "", .str "A", .str "a1", .str "abcdefghi", .lst [], .lst [.int 1], .dic [], .dic [(.str "a", .int 1)], .str "a b", .int 61, .str "-"]) hr hf (by simp) (by simp)
  refine ⟨d, row1, ?_, hr1, ?_⟩
  · simp only [List.mem_cons, List.not_mem_nil, or_false] at hd
    rcases hd with rfl | rfl | rfl | rfl | rfl | rfl | rfl | rfl | rfl | rfl | rfl | rfl | rfl | rfl | rfl | rfl <;> constructor
  · simp [dn__law_odd, szs, dNeg, dPow, hp, e1, hf.all]
/-- what is wrong of a schedule -/
def Wrg (R W U F : Nat) (d : D) : Prop := dn_is_schedule [.p (.int (R : Nat)), .p (.int (W : Nat)), .p (.int (U : Nat)), .p (.int (F : Nat)), .p d] [] = .ok (.bl false) []
theorem s17_ok (hR : R ≤ 8) (hW : W ≤ 4) (hU : 1 ≤ U ∧ U ≤ 5) (hF : F ≤ 200) (t : TF ns ρ R W U F) (hr : RowOk ns row) (hf : Flat rest) :
    ∃ (w : List D) (row' : List D), w.length = 4 ∧ (∀ d ∈ w, Wrg R W U F d) ∧ RowOk ns row' ∧ dn_law_s17 ρ (.lst row :: rest) = .next (ρ.set 6 (some (.p (.lst w)))) (.lst row' :: rest) := by
  obtain ⟨d, row1, hd, hr1, e1⟩ := odd_ok hr hf
  have hls : (schedL W F R).length = R := by simp [schedL, rowsN]
  have hs : R + 1 ≤ sizeLine := sz (by omega)
  refine ⟨[.lst (schedL W F R), .tup (schedL W F R ++ [.tup []]), .non, d], row1, rfl, ?_, hr1, ?_⟩
  · intro x hx
    simp only [List.mem_cons, List.not_mem_nil, or_false] at hx
    rcases hx with rfl | rfl | rfl | rfl
    · exact sch_no hR hW hU (by omega) (.lst _)
    · exact sch_len hR hW hU (by omega) (by simp [hls])
    · exact sch_no hR hW hU (by omega) .non
    · exact sch_no hR hW hU (by omega) hd
  · simp [dn_law_s17, t.a3, t.r1, dList, szs, dAdd, hls, hs, e1]
theorem ints_of {l : List Int} : ∀ d ∈ l.map D.int, d = .non ∨ ∃ i, d = .int i := fun d hd => by
  obtain ⟨i, _, rfl⟩ := List.mem_map.mp hd
  exact .inr ⟨i, rfl⟩
theorem s18_ok {w : List D} (hw : w.length = 4) (hwr : ∀ d ∈ w, Wrg R W U F d) (hR : R ≤ 8) (hW : W ≤ 4) (hU : 1 ≤ U ∧ U ≤ 5) (hF : F ≤ 200) (t : TF ns ρ R W U F) (h6 : At ρ 6 (.lst w)) {st : Sto} :
    ∃ (w' : List D), w'.length = 6 ∧ (∀ d ∈ w', Wrg R W U F d) ∧ dn_law_s18 ρ st = .next (ρ.set 6 (some (.p (.lst w')))) st := by
  have hls : (schedL W F R).length = R := by simp [schedL, rowsN]
  have hs6 : 6 ≤ sizeLine := sz (by omega)
  have hsR : small (R : Int) = true := small_of (by omega) (by omega)
  have hsz : R ≤ sizeLine := sz (by omega)
  have l0 := t.len
  have a10 := t.a10
  have a11 := t.a11
  have a3 := t.a3
  have hc := compL_all (g := gN 15) (fe := eOp1 dList (eVar 15)) (ρ := wipeE ρ [15]) (st := st) tupI (fun l => D.lst (l.map .int)) (rowsN W F R) (by
    intro l hl
    have g15 : ((wipeE ρ [15]).set 15 (some (.p (tupI l))))[15]? = some (some (.p (.tup (l.map .int)))) := by
      have : ((wipeE ρ [15]).set 15 (some (.p (tupI l))))[15]? = some (some (.p (tupI l))) := by (first | assumption | (((try simp only [At, wipeE]); (repeat rw [gset (by decide)])); first | assumption | (rw [gself (by (try simp only [List.length_set]); omega)])) | (simp only [wipeE, List.length_set]; omega))
      exact this
    exact ⟨_, rfl, by simp [g15, dList]⟩)
  change compL _ _ _ _ (schedL W F R) _ = _ at hc
  have hlen : (rowsN W F R).length = R := by simp [rowsN]
  by_cases h0 : 0 < R
  · have hB : Wrg R W U F (.tup ((rowsN W F R).map fun l => D.lst (l.map .int))) := by
      refine sch_row hR hW hU (by omega) (by simp [hlen]) ?_ ?_
      · intro d hd
        obtain ⟨l, _, rfl⟩ := List.mem_map.mp hd
        exact .inl (.lst _)
      · rw [List.all_map]
        obtain ⟨x, xs, e⟩ : ∃ x xs, rowsN W F R = x :: xs := by
          cases h : rowsN W F R with
          | nil => rw [h] at hlen; simp at hlen; omega
          | cons x xs => exact ⟨x, xs, rfl⟩
        rw [e]
        simp [rowLen]
    by_cases h1 : 0 < W
    · have hA : Wrg R W U F (.tup (List.replicate R (.tup (List.replicate W .non)))) := by
        obtain ⟨n, rfl⟩ : ∃ n, R = n + 1 := ⟨R - 1, by omega⟩
        obtain ⟨k, rfl⟩ : ∃ k, W = k + 1 := ⟨W - 1, by omega⟩
        rw [List.replicate_succ (n := n)]
        refine sch_first hR hW hU (by omega) (by simp) (by simp) ?_ ?_ ?_
        · intro d hd
          obtain ⟨_, rfl⟩ := List.mem_replicate.mp hd
          exact ⟨_, rfl, by simp⟩
        · intro d hd
          obtain ⟨_, rfl⟩ := List.mem_replicate.mp hd
          exact .inl rfl
        · rw [List.replicate_succ]
          simp [okP]
      refine ⟨w ++ [.tup (List.replicate R (.tup (List.replicate W .non))), .tup ((rowsN W F R).map fun l => D.lst (l.map .int))], by simp [hw], ?_, ?_⟩
      · intro d hd
        rcases List.mem_append.mp hd with hd | hd
        · exact hwr d hd
        · simp only [List.mem_cons, List.not_mem_nil, or_false] at hd
          rcases hd with rfl | rfl
          · exact hA
          · exact hB
      · have hp : (0 : Int) < (W : Int) * (R : Int) := Int.mul_pos (by omega) (by omega)
        have b1 : (W : Int) ≤ 1000 := by omega
        have b2 : (R : Int) ≤ 1000 := by omega
        simp [dn_law_s18, a10, a11, a3, h6, dMul, hsR, dGt, hp, szs, h0, b1, b2, itemsOf, hls, hsz, hc, dTuple, dAdd, hw, hs6]
    · have hW0 : W = 0 := by omega
      subst hW0
      refine ⟨w ++ [.int 1, .tup ((rowsN 0 F R).map fun l => D.lst (l.map .int))], by simp [hw], ?_, ?_⟩
      · intro d hd
        rcases List.mem_append.mp hd with hd | hd
        · exact hwr d hd
        · simp only [List.mem_cons, List.not_mem_nil, or_false] at hd
          rcases hd with rfl | rfl
          · exact sch_no hR hW hU (by omega) (.int _)
          · exact hB
      · simp [dn_law_s18, a10, a11, a3, h6, dMul, hsR, dGt, szs, h0, itemsOf, hls, hsz, hc, dTuple, dAdd, hw, hs6]
  · have hR0 : R = 0 := by omega
    subst hR0
    refine ⟨w ++ [.int 1, .int 1], by simp [hw], ?_, ?_⟩
    · intro d hd
      rcases List.mem_append.mp hd with hd | hd
      · exact hwr d hd
      · simp only [List.mem_cons, List.not_mem_nil, or_false] at hd
        rcases hd with rfl | rfl <;> exact sch_no hR hW hU (by omega) (.int _)
    · simp at hsR
      simp [dn_law_s18, a10, a11, a3, h6, dMul, hsR, dGt, szs, dAdd, hw, hs6]
theorem s19_ok {w : List D} (hw : w.length = 6) (hwr : ∀ d ∈ w, Wrg R W U F d) (hR : R ≤ 8) (hW : W ≤ 4) (hU : 1 ≤ U ∧ U ≤ 5) (hF : F ≤ 200) (t : TF ns ρ R W U F) (h6 : At ρ 6 (.lst w)) {st : Sto} :
    ∃ (w' : List D), w'.length = 7 ∧ (∀ d ∈ w', Wrg R W U F d) ∧ dn_law_s19 ρ st = .next (ρ.set 6 (some (.p (.lst w')))) st := by
  have hls : (schedL W F R).length = R := by simp [schedL, rowsN]
  have hs7 : 7 ≤ sizeLine := sz (by omega)
  have hsR : small (R : Int) = true := small_of (by omega) (by omega)
  have a10 := t.a10
  have a11 := t.a11
  have a3 := t.a3
  by_cases h : 0 < R ∧ 0 < W
  · obtain ⟨x, xs, e⟩ : ∃ x xs, rowsN W F R = x :: xs := by
      cases h : rowsN W F R with
      | nil => simp [schedL, h] at hls; omega
      | cons x xs => exact ⟨x, xs, rfl⟩
    have hall : ∀ l ∈ rowsN W F R, l.length = W := fun l hl => by
      obtain ⟨t, _, rfl⟩ := List.mem_map.mp hl
      exact row_length t
    rw [e] at hall
    have hx := hall x List.mem_cons_self
    have hsch : schedL W F R = tupI x :: xs.map tupI := by unfold schedL; rw [e]; rfl
    have hxs : xs.length + 1 = R := by rw [← hls, hsch]; simp
    obtain ⟨y, ys, rfl⟩ : ∃ y ys, x = y :: ys := by
      cases x with
      | nil => simp at hx; omega
      | cons y ys => exact ⟨y, ys, rfl⟩
    have hC : Wrg R W U F (.tup (.tup (.int (-1) :: ys.map .int) :: xs.map tupI)) := by
      refine sch_first hR hW hU (by omega) (by simpa using hxs) (by simpa using hx) ?_ ?_ ?_
      · intro d hd
        obtain ⟨l, hl, rfl⟩ := List.mem_map.mp hd
        exact ⟨_, rfl, by simpa using hall l (List.mem_cons_of_mem _ hl)⟩
      · intro d hd
        rcases List.mem_cons.mp hd with rfl | hd
        · exact .inr ⟨_, rfl⟩
        · exact ints_of d hd
      · simp [okP]
    refine ⟨w ++ [.tup (.tup (.int (-1) :: ys.map .int) :: xs.map tupI)], by simp [hw], ?_, ?_⟩
    · intro d hd
      rcases List.mem_append.mp hd with hd | hd
      · exact hwr d hd
      · obtain rfl := List.mem_singleton.mp hd
        exact hC
    · have hp : (0 : Int) < (W : Int) * (R : Int) := Int.mul_pos (by omega) (by omega)
      have z1 : 1 + ys.length ≤ sizeLine := sz (by simp at hx; omega)
      have z2 : 1 + xs.length ≤ sizeLine := sz (by omega)
      have a3' : ρ[3]? = some (some (.p (.tup (tupI (y :: ys) :: xs.map tupI)))) := by rw [← hsch]; exact a3
      have h0' : ∀ (a : D) (l : List D), atI (a :: l) 0 = some a := fun a l => by simp [atI, ixN]
      have z3 : ys.length + 1 ≤ sizeLine := by rw [Nat.add_comm]; exact z1
      have z4 : xs.length + 1 ≤ sizeLine := by rw [Nat.add_comm]; exact z2
      simp [dn_law_s19, a10, a11, a3', h6, dMul, hsR, dGt, hp, szs, dNeg, dIx, h0', tupI, dCut, cutD_tail, dAdd, z1, z2, z3, z4, hw, hs7]
  · have hz : ¬ (0 : Int) < (W : Int) * (R : Int) := by
      have : W = 0 ∨ R = 0 := by omega
      rcases this with rfl | rfl <;> simp
    refine ⟨w ++ [.int 1], by simp [hw], ?_, ?_⟩
    · intro d hd
      rcases List.mem_append.mp hd with hd | hd
      · exact hwr d hd
      · obtain rfl := List.mem_singleton.mp hd
        exact sch_no hR hW hU (by omega) (.int _)
    · simp [dn_law_s19, a10, a11, h6, dMul, hsR, dGt, hz, szs, dAdd, hw, hs7]
theorem s20_ok {w : List D} (hw : w.length = 7) (hwr : ∀ d ∈ w, Wrg R W U F d) (t : TF ns ρ R W U F) (h6 : At ρ 6 (.lst w)) {st : Sto} : dn_law_s20 ρ st = .next ρ st := by
  have l0 := t.len
  have a10 := t.a10
  have a11 := t.a11
  have a12 := t.a12
  have a4 := t.a4
  have hc := compL_map (g := gN 15) (ft := dn_law_t2) (fe := eVar 15) (ρ := wipeE ρ [15]) (st := st) (fun d : D => d) (fun _ => false) (fun d => d) w (by
    intro d hd
    have g15 : ((wipeE ρ [15]).set 15 (some (.p d)))[15]? = some (some (.p d)) := by (first | assumption | (((try simp only [At, wipeE]); (repeat rw [gset (by decide)])); first | assumption | (rw [gself (by (try simp only [List.length_set]); omega)])) | (simp only [wipeE, List.length_set]; omega))
    have g4 : ((wipeE ρ [15]).set 15 (some (.p d)))[4]? = some (some (.p (.int (F : Nat)))) := by (first | assumption | (((try simp only [At, wipeE]); (repeat rw [gset (by decide)])); first | assumption | (rw [gself (by (try simp only [List.length_set]); omega)])) | (simp only [wipeE, List.length_set]; omega))
    have g10 : ((wipeE ρ [15]).set 15 (some (.p d)))[10]? = some (some (.p (.int (R : Nat)))) := by (first | assumption | (((try simp only [At, wipeE]); (repeat rw [gset (by decide)])); first | assumption | (rw [gself (by (try simp only [List.length_set]); omega)])) | (simp only [wipeE, List.length_set]; omega))
    have g11 : ((wipeE ρ [15]).set 15 (some (.p d)))[11]? = some (some (.p (.int (W : Nat)))) := by (first | assumption | (((try simp only [At, wipeE]); (repeat rw [gset (by decide)])); first | assumption | (rw [gself (by (try simp only [List.length_set]); omega)])) | (simp only [wipeE, List.length_set]; omega))
    have g12 : ((wipeE ρ [15]).set 15 (some (.p d)))[12]? = some (some (.p (.int (U : Nat)))) := by (first | assumption | (((try simp only [At, wipeE]); (repeat rw [gset (by decide)])); first | assumption | (rw [gself (by (try simp only [List.length_set]); omega)])) | (simp only [wipeE, List.length_set]; omega))
    refine ⟨_, rfl, ?_, by simp⟩
    have := hwr d hd
    unfold Wrg at this
    simp [dn_law_t2, g4, g10, g11, g12, g15, this])
  have hs : 7 ≤ sizeLine := sz (by omega)
  have hf : w.filter (fun _ => false) = [] := by rw [List.filter_eq_nil_iff]; simp
  rw [List.map_id', hf] at hc
  simp [dn_law_s20, h6, itemsOf, hw, hs, hc, dNe]
end
end Law
namespace Law
open PySem PySem.Spec L2 M
abbrev T (v : D) : D := .tup [.str "BadNumber", v]
theorem plainE_at {ρ : M.Env} {i : Nat} {d : D} {l : M.Env} (h : At ρ i d) : (plainE ρ ++ l)[i]? = some (some (.p d)) := by
  have hi : i < ρ.length := (List.getElem?_eq_some_iff.mp h).1
  rw [List.getElem?_append_left (by unfold plainE; rw [List.length_map]; exact hi)]
  unfold plainE
  rw [List.getElem?_map, h]
  rfl
theorem told_bad {ρ : M.Env} {st : Sto} {fe : Den} {ds : List D} {v : D} (h : fe (plainE ρ ++ ds.map fun d => some (.p d)) [] = bad v) : eTold "told" (fun _ => some true) dn__law_refusal ds fe ρ st = .ok (T v) st := by
  unfold eTold
  rw [h]
  simp only
  rw [refusal_ok]
/-- a value that is refused, and whose repr fits -/
structure Bv (lo hi : Int) (v : D) : Prop where
  bad : BadN lo hi v
  rp : Rp 58 v 20
theorem rp_of {n w : Nat} {d : D} (h : (D.flat n d && d.py.showable && d.py.leavesShort 1000 && decide (d.py.weight ≤ w)) = true) : Rp n d w := by
  simp only [Bool.and_eq_true, decide_eq_true_eq] at h
  obtain ⟨⟨⟨h1, h2⟩, h3⟩, h4⟩ := h
  exact ⟨h1, h2, h3, h4⟩
theorem rps : Rp 58 (.int (-1)) 20 ∧ Rp 58 (.int 31) 20 ∧ Rp 58 .non 20 ∧ Rp 58 (.bl true) 20 ∧ Rp 58 (.int 10) 20 ∧ Rp 58 (.str "1") 20 ∧ Rp 58 (.int 0) 20 ∧ Rp 58 (.int 271) 20 ∧ Rp 58 (.str "BadNumber") 20 := by
  refine ⟨?_, ?_, ?_, ?_, ?_, ?_, ?_, ?_, ?_⟩ <;> exact rp_of (by decide +kernel)
theorem T_rp {v : D} (h : Rp 58 v 20) : Rp 59 (T v) 100 := by
  obtain ⟨_, _, _, _, _, _, _, _, hB⟩ := rps
  have := (Rps.cons hB (Rps.cons h Rps.nil)).tup
  exact ⟨this.flat, this.show_, this.short, by have := this.wt; show (D.tup [.str "BadNumber", v]).py.weight ≤ 100; omega⟩
section
variable {ns : List Int} {row : List D} {rest : Sto} {ρ : M.Env}
theorem s21_ok (hl : ρ.length = 23) (h1 : ρ[1]? = some (some (.r 0))) (hr : RowOk ns row) (hf : Flat rest) :
    ∃ (a b c : D) (row' : List D), Bv 0 30 a ∧ Bv 0 9 b ∧ Bv 1 30 c ∧ RowOk ns row' ∧ dn_law_s21 ρ (.lst row :: rest) = .next (((ρ.set 16 (some (.p a))).set 17 (some (.p b))).set 18 (some (.p c))) (.lst row' :: rest) := by
  obtain ⟨q1, q2, q3, q4, q5, q6, q7, q8, q9⟩ := rps
  obtain ⟨a, row1, hr1, ha, e1⟩ := pick_ok (ds := [.int (-1), .int 31, .non, .bl true]) hr hf (by simp) (by simp)
  obtain ⟨b, row2, hr2, hb, e2⟩ := pick_ok (ds := [.int (-1), .int 10, .non, .str "1"]) hr1 hf (by simp) (by simp)
  obtain ⟨c, row3, hr3, hc, e3⟩ := pick_ok (ds := [.int 0, .int 31, .non, .bl true]) hr2 hf (by simp) (by simp)
  refine ⟨a, b, c, row3, ?_, ?_, ?_, hr3, ?_⟩
  · simp only [List.mem_cons, List.not_mem_nil, or_false] at ha
    rcases ha with rfl | rfl | rfl | rfl
    · exact ⟨.int (by omega), q1⟩
    · exact ⟨.int (by omega), q2⟩
    · exact ⟨.non, q3⟩
    · exact ⟨.bl _, q4⟩
  · simp only [List.mem_cons, List.not_mem_nil, or_false] at hb
    rcases hb with rfl | rfl | rfl | rfl
    · exact ⟨.int (by omega), q1⟩
    · exact ⟨.int (by omega), q5⟩
    · exact ⟨.non, q3⟩
    · exact ⟨.str _, q6⟩
  · simp only [List.mem_cons, List.not_mem_nil, or_false] at hc
    rcases hc with rfl | rfl | rfl | rfl
    · exact ⟨.int (by omega), q7⟩
    · exact ⟨.int (by omega), q2⟩
    · exact ⟨.non, q3⟩
    · exact ⟨.bl _, q4⟩
  · simp [dn_law_s21, h1, szs, dNeg, e1, e2, e3, setAll]
theorem s22_ok (h1 : ρ[1]? = some (some (.r 0))) (hr : RowOk ns row) (hf : Flat rest) :
    ∃ (d : D) (row' : List D), Bv 0 270 d ∧ RowOk ns row' ∧ dn_law_s22 ρ (.lst row :: rest) = .next (ρ.set 7 (some (.p d))) (.lst row' :: rest) := by
  obtain ⟨q1, q2, q3, q4, q5, q6, q7, q8, q9⟩ := rps
  obtain ⟨a, row1, hr1, ha, e1⟩ := pick_ok (ds := [.int (-1), .int 271, .non, .bl true]) hr hf (by simp) (by simp)
  refine ⟨a, row1, ?_, hr1, ?_⟩
  · simp only [List.mem_cons, List.not_mem_nil, or_false] at ha
    rcases ha with rfl | rfl | rfl | rfl
    · exact ⟨.int (by omega), q1⟩
    · exact ⟨.int (by omega), q8⟩
    · exact ⟨.non, q3⟩
    · exact ⟨.bl _, q4⟩
  · simp [dn_law_s22, h1, szs, dNeg, e1]
theorem s23_ok {a b c d : D} {st : Sto} (ha : BadN 0 30 a) (hb : BadN 0 9 b) (hc : BadN 1 30 c) (hd : BadN 0 270 d) (h16 : At ρ 16 a) (h17 : At ρ 17 b) (h18 : At ρ 18 c) (h7 : At ρ 7 d) :
    dn_law_s23 ρ st = .next (ρ.set 8 (some (.p (.lst [T a, T b, T c, T d])))) st := by
  have e1 := told_bad (ρ := ρ) (st := st) (ds := []) (v := a) (fe := eCall 3 dn_fewest (eCons (eVar 16) (eCons (eOp1 dNeg (eC (.int 1))) (eCons (eC (.int 0)) eNil)))) (by
    have g := plainE_at (l := []) h16
    simp only [List.append_nil] at g
    simp [g, dNeg, fewest_x (require1 ha)])
  have e2 := told_bad (ρ := ρ) (st := st) (ds := [.int 0]) (v := b) (fe := eCall 3 dn_schedule (eCons (eC (.int 1)) (eCons (eVar 17) (eCons (eC (.int 0)) eNil)))) (by
    have g := plainE_at (l := [some (.p (.int 0))]) h17
    simp [g, schedule_x (require2 (r := 1) (u := .int 0) ⟨by omega, by omega⟩ hb)])
  have e3 := told_bad (ρ := ρ) (st := st) (ds := [.int 0]) (v := c) (fe := eCall 5 dn_is_schedule (eCons (eC (.int 1)) (eCons (eC (.int 1)) (eCons (eVar 18) (eCons (eOp1 dNeg (eC (.int 1))) (eCons (eC (.int 1)) eNil)))))) (by
    have g := plainE_at (l := [some (.p (.int 0))]) h18
    simp [g, dNeg, is_schedule_x (require3 (r := 1) (w := 1) ⟨by omega, by omega⟩ ⟨by omega, by omega⟩ hc)])
  have e4 := told_bad (ρ := ρ) (st := st) (ds := [.int 0]) (v := d) (fe := eCall 5 dn_is_schedule (eCons (eC (.int 1)) (eCons (eC (.int 1)) (eCons (eC (.int 1)) (eCons (eVar 7) (eCons (eC (.int 1)) eNil)))))) (by
    have g := plainE_at (l := [some (.p (.int 0))]) h7
    simp [g, is_schedule_m hd])
  simp only [dn_law_s23, sSet, sOf, eLst, eCons, e1, e2, e3, e4, eNil, Res.bind]
  simp [szs]
theorem s24_ok {b d : D} {w : List D} {st : Sto} (hb : BadN 0 9 b) (hd : BadN 0 270 d) (h17 : At ρ 17 b) (h7 : At ρ 7 d) (h8 : At ρ 8 (.lst w)) (hw : w.length = 4) :
    dn_law_s24 ρ st = .next (ρ.set 8 (some (.p (.lst (w ++ [T d, T b]))))) st := by
  have e1 := told_bad (ρ := ρ) (st := st) (ds := []) (v := d) (fe := eCall 3 dn_most_rounds (eCons (eVar 7) (eCons (eOp1 dNeg (eC (.int 1))) (eCons (eC (.int 0)) eNil)))) (by
    have g := plainE_at (l := []) h7
    simp only [List.append_nil] at g
    simp [g, dNeg, most_m hd])
  have e2 := told_bad (ρ := ρ) (st := st) (ds := [.int 0]) (v := b) (fe := eCall 3 dn_most_rounds (eCons (eC (.int 1)) (eCons (eVar 17) (eCons (eC (.int 0)) eNil)))) (by
    have g := plainE_at (l := [some (.p (.int 0))]) h17
    simp [g, most_w hb])
  have h8' : ρ[8]? = some (some (.p (.lst w))) := h8
  simp only [dn_law_s24, sSet, sOf, eOp2, eVar, h8', eLst, eCons, e1, e2, eNil, Res.bind]
  simp [szs, dAdd, hw]
theorem s25_ok {a d : D} {w : List D} {st : Sto} (ha : BadN 0 30 a) (hd : BadN 0 270 d) (h16 : At ρ 16 a) (h7 : At ρ 7 d) (h8 : At ρ 8 (.lst w)) (hw : w.length = 6) :
    dn_law_s25 ρ st = .next (ρ.set 8 (some (.p (.lst (w ++ [T a, T d]))))) st := by
  have e1 := told_bad (ρ := ρ) (st := st) (ds := [.int 0]) (v := a) (fe := eCall 3 dn_needed_uses (eCons (eVar 16) (eCons (eOp1 dNeg (eC (.int 1))) (eCons (eOp1 dNeg (eC (.int 1))) eNil)))) (by
    have g := plainE_at (l := [some (.p (.int 0))]) h16
    simp [g, dNeg, needed_r ha])
  have e2 := told_bad (ρ := ρ) (st := st) (ds := [.int 0]) (v := d) (fe := eCall 3 dn_needed_uses (eCons (eC (.int 1)) (eCons (eC (.int 1)) (eCons (eVar 7) eNil)))) (by
    have g := plainE_at (l := [some (.p (.int 0))]) h7
    simp [g, needed_m hd])
  have h8' : ρ[8]? = some (some (.p (.lst w))) := h8
  simp only [dn_law_s25, sSet, sOf, eOp2, eVar, h8', eLst, eCons, e1, e2, eNil, Res.bind]
  simp [szs, dAdd, hw]
theorem s26_ok {a b c d : D} {st : Sto} (h16 : At ρ 16 a) (h17 : At ρ 17 b) (h18 : At ρ 18 c) (h7 : At ρ 7 d) :
    dn_law_s26 ρ st = .next (ρ.set 9 (some (.p (.lst [T a, T b, T c, T d, T d, T b, T a, T d])))) st := by
  simp [dn_law_s26, h16, h17, h18, h7, szs]
theorem s27_ok {c : D} {w : List D} {st : Sto} (hc : BadN 1 30 c) (h18 : At ρ 18 c) (h8 : At ρ 8 (.lst w)) (h9 : At ρ 9 (.lst w)) (hw : w.length = 8) (hr : ∀ x ∈ w ++ [T c], Rp 59 x 100) :
    dn_law_s27 ρ st = .next ρ st := by
  have e1 := told_bad (ρ := ρ) (st := st) (ds := []) (v := c) (fe := eCall 3 dn_uses_left (eCons (eC (.int 1)) (eCons (eC (.int 1)) (eCons (eVar 18) eNil)))) (by
    have g := plainE_at (l := []) h18
    simp only [List.append_nil] at g
    simp [g, uses_left_x (require3 (r := 1) (w := 1) ⟨by omega, by omega⟩ ⟨by omega, by omega⟩ hc)])
  have h8' : ρ[8]? = some (some (.p (.lst w))) := h8
  have h9' : ρ[9]? = some (some (.p (.lst w))) := h9
  have h18' : ρ[18]? = some (some (.p c)) := h18
  have hs := same_ok (d := .lst (w ++ [T c])) (Rps.of hr).lst (by simp [hw])
  have z9 : 9 ≤ sizeLine := sz (by omega)
  have hd : dAdd (.lst w) (.lst [T c]) = some (.lst (w ++ [T c])) := by simp [dAdd, hw, z9]
  have z1 : [T c].length ≤ sizeLine := sz (by simp)
  have z2 : [D.str "BadNumber", c].length ≤ sizeLine := sz (by simp)
  simp only [dn_law_s27, sIf, sOf, eNot, eB, eCall, eOp2, eVar, h8', h9', h18', eLst, eTup, eC, eCons, e1, eNil, Res.bind, if_pos z1, if_pos z2, hd, List.length_cons, List.length_nil, List.map_cons, List.map_nil, if_true, hs]
  simp [szs, hd, hs]
end
end Law
namespace M
theorem sFor_range {n : Nat} {g : GD} {fb : SDen} {ρ : Env} {st : Sto} {r : SRes} (hn : n ≤ 1000000) (e : forL g fb ((List.range n).map fun i : Nat => D.int (i : Nat)) ρ st = r) : sFor (iRange1 (eC (.int (n : Nat)))) g fb ρ st = r := by
  have hb : bigR (n : Int) = true := bigR_of (by omega) (by omega)
  have h2 : ((n : Int) - 0).toNat = n := by omega
  simp only [sFor, sOf, iRange1, eC, Res.bind, hb, if_true]
  rw [← e, ← rngL0]
  try simp
end M
namespace Law
open PySem PySem.Spec L2 M
section
variable {ns : List Int} {row : List D} {rest : Sto} {ρ : M.Env}
theorem b2_ok (hl : ρ.length = 23) (h1 : ρ[1]? = some (some (.r 0))) (hr : RowOk ns row) (hf : Flat rest) :
    ∃ (row' : List D) (rest' : Sto) (ρ' : M.Env), ρ'.length = 23 ∧ ρ'[1]? = some (some (.r 0)) ∧ RowOk ns row' ∧ Flat rest' ∧ dn_law_b2 ρ (.lst row :: rest) = .next ρ' (.lst row' :: rest') := by
  obtain ⟨R, W, U, row1, hR, hW, hU, hr1, e2⟩ := s2_ok hl h1 hr hf
  have hFn := fewest_nn (r := R) (w := W) (u := U) (by omega) (by omega)
  obtain ⟨F, hF⟩ := Int.eq_ofNat_of_zero_le hFn
  have hF2 : F ≤ 200 := by
    have h1 : (R : Int) * W ≤ 8 * 4 := Int.mul_le_mul (by omega) (by omega) (by omega) (by omega)
    have h2 : fewest R W U ≤ 200 := by
      rw [enough_iff (by omega) (by omega) (by omega) (by omega)]
      right
      constructor
      · omega
      · omega
    omega
  have hen := (enough_iff (r := R) (w := W) (u := U) (m := F) (by omega) (by omega) (by omega) (by omega)).mp (by omega)
  have hWF : R ≠ 0 → W ≤ F := fun h => by rcases hen with h | ⟨h, _⟩ <;> omega
  generalize hρ1 : ((ρ.set 10 (some (.p (.int (R : Nat))))).set 11 (some (.p (.int (W : Nat))))).set 12 (some (.p (.int (U : Nat)))) = ρ1 at e2
  have b1 : ρ1.length = 23 := by rw [← hρ1]; (first | assumption | (((try simp only [At, wipeE]); (repeat rw [gset (by decide)])); first | assumption | (rw [gself (by (try simp only [List.length_set]); omega)])) | (simp only [wipeE, List.length_set]; omega))
  have b10 : At ρ1 10 (.int (R : Nat)) := by rw [← hρ1]; (first | assumption | (((try simp only [At, wipeE]); (repeat rw [gset (by decide)])); first | assumption | (rw [gself (by (try simp only [List.length_set]); omega)])) | (simp only [wipeE, List.length_set]; omega))
  have b11 : At ρ1 11 (.int (W : Nat)) := by rw [← hρ1]; (first | assumption | (((try simp only [At, wipeE]); (repeat rw [gset (by decide)])); first | assumption | (rw [gself (by (try simp only [List.length_set]); omega)])) | (simp only [wipeE, List.length_set]; omega))
  have b12 : At ρ1 12 (.int (U : Nat)) := by rw [← hρ1]; (first | assumption | (((try simp only [At, wipeE]); (repeat rw [gset (by decide)])); first | assumption | (rw [gself (by (try simp only [List.length_set]); omega)])) | (simp only [wipeE, List.length_set]; omega))
  have br1 : ρ1[1]? = some (some (.r 0)) := by rw [← hρ1]; (first | assumption | (((try simp only [At, wipeE]); (repeat rw [gset (by decide)])); first | assumption | (rw [gself (by (try simp only [List.length_set]); omega)])) | (simp only [wipeE, List.length_set]; omega))
  clear hρ1
  have e3 := s3_ok (ρ := ρ1) (st := .lst row1 :: rest) hR hW hU hF b10 b11 b12
  have e4 := s4_ok (ρ := ρ1.set 3 (some (.p (.tup (schedL W F R))))) (st := .lst row1 :: rest) hR hW hU hF (by (first | assumption | (((try simp only [At, wipeE]); (repeat rw [gset (by decide)])); first | assumption | (rw [gself (by (try simp only [List.length_set]); omega)])) | (simp only [wipeE, List.length_set]; omega))) (by (first | assumption | (((try simp only [At, wipeE]); (repeat rw [gset (by decide)])); first | assumption | (rw [gself (by (try simp only [List.length_set]); omega)])) | (simp only [wipeE, List.length_set]; omega))) (by (first | assumption | (((try simp only [At, wipeE]); (repeat rw [gset (by decide)])); first | assumption | (rw [gself (by (try simp only [List.length_set]); omega)])) | (simp only [wipeE, List.length_set]; omega)))
  have tt : TF ns ((ρ1.set 3 (some (.p (.tup (schedL W F R))))).set 4 (some (.p (.int (F : Nat))))) R W U F := ⟨by (first | assumption | (((try simp only [At, wipeE]); (repeat rw [gset (by decide)])); first | assumption | (rw [gself (by (try simp only [List.length_set]); omega)])) | (simp only [wipeE, List.length_set]; omega)), by (first | assumption | (((try simp only [At, wipeE]); (repeat rw [gset (by decide)])); first | assumption | (rw [gself (by (try simp only [List.length_set]); omega)])) | (simp only [wipeE, List.length_set]; omega)), by (first | assumption | (((try simp only [At, wipeE]); (repeat rw [gset (by decide)])); first | assumption | (rw [gself (by (try simp only [List.length_set]); omega)])) | (simp only [wipeE, List.length_set]; omega)), by (first | assumption | (((try simp only [At, wipeE]); (repeat rw [gset (by decide)])); first | assumption | (rw [gself (by (try simp only [List.length_set]); omega)])) | (simp only [wipeE, List.length_set]; omega)), by (first | assumption | (((try simp only [At, wipeE]); (repeat rw [gset (by decide)])); first | assumption | (rw [gself (by (try simp only [List.length_set]); omega)])) | (simp only [wipeE, List.length_set]; omega)), by (first | assumption | (((try simp only [At, wipeE]); (repeat rw [gset (by decide)])); first | assumption | (rw [gself (by (try simp only [List.length_set]); omega)])) | (simp only [wipeE, List.length_set]; omega)), by (first | assumption | (((try simp only [At, wipeE]); (repeat rw [gset (by decide)])); first | assumption | (rw [gself (by (try simp only [List.length_set]); omega)])) | (simp only [wipeE, List.length_set]; omega))⟩
  generalize (ρ1.set 3 (some (.p (.tup (schedL W F R))))).set 4 (some (.p (.int (F : Nat)))) = ρ2 at e4 tt
  obtain ⟨ρ3, st3, e16, tt3, row3, rest3, hr3, hf3, rfl⟩ := forL_ix (g := gN 5) (fb := dn_law_b1) (fun i : Nat => D.int (i : Nat)) (List.range 5) (fun _ ρ st => TF ns ρ R W U F ∧ ∃ row rest, RowOk ns row ∧ Flat rest ∧ st = .lst row :: rest) (ρ := ρ2) (st := .lst row1 :: rest)
    ⟨tt, row1, rest, hr1, hf, rfl⟩ (by
      rintro i k ρ st hx ⟨t, row, rest, hr, hf, rfl⟩
      have hk : k ≤ 4 := by
        have := List.mem_range.mp (List.mem_of_getElem? hx)
        omega
      have l0 := t.len
      have t' : TF ns (ρ.set 5 (some (.p (.int (k : Nat))))) R W U F := t.agr (Agr.refl.set (by decide))
      obtain ⟨row', rest', ρ', ag, hr', hf', e⟩ := b1_ok hR hW hU hF2 hWF hk t' (by (first | assumption | (((try simp only [At, wipeE]); (repeat rw [gset (by decide)])); first | assumption | (rw [gself (by (try simp only [List.length_set]); omega)])) | (simp only [wipeE, List.length_set]; omega))) hr hf
      exact ⟨_, ρ', _, rfl, .inl e, t'.agr ag, row', rest', hr', hf', rfl⟩)
  obtain ⟨w4, row4, w4l, w4w, hr4, e17⟩ := s17_ok hR hW hU hF2 tt3 hr3 hf3
  have l3 := tt3.len
  have T4 : TF ns (ρ3.set 6 (some (.p (.lst w4)))) R W U F := ⟨by (first | assumption | (((try simp only [At, wipeE]); (repeat rw [gset (by decide)])); first | assumption | (rw [gself (by (try simp only [List.length_set]); omega)])) | (simp only [wipeE, List.length_set]; omega)), (gset (by decide)).trans tt3.r1, (gset (by decide)).trans tt3.a3, (gset (by decide)).trans tt3.a4, (gset (by decide)).trans tt3.a10, (gset (by decide)).trans tt3.a11, (gset (by decide)).trans tt3.a12⟩
  obtain ⟨w6, w6l, w6w, e18⟩ := s18_ok (st := .lst row4 :: rest3) w4l w4w hR hW hU hF2 T4 (by (first | assumption | (((try simp only [At, wipeE]); (repeat rw [gset (by decide)])); first | assumption | (rw [gself (by (try simp only [List.length_set]); omega)])) | (simp only [wipeE, List.length_set]; omega)))
  have l4 := T4.len
  have T5 : TF ns ((ρ3.set 6 (some (.p (.lst w4)))).set 6 (some (.p (.lst w6)))) R W U F := ⟨by (first | assumption | (((try simp only [At, wipeE]); (repeat rw [gset (by decide)])); first | assumption | (rw [gself (by (try simp only [List.length_set]); omega)])) | (simp only [wipeE, List.length_set]; omega)), (gset (by decide)).trans T4.r1, (gset (by decide)).trans T4.a3, (gset (by decide)).trans T4.a4, (gset (by decide)).trans T4.a10, (gset (by decide)).trans T4.a11, (gset (by decide)).trans T4.a12⟩
  have h6 : At ((ρ3.set 6 (some (.p (.lst w4)))).set 6 (some (.p (.lst w6)))) 6 (.lst w6) := by (first | assumption | (((try simp only [At, wipeE]); (repeat rw [gset (by decide)])); first | assumption | (rw [gself (by (try simp only [List.length_set]); omega)])) | (simp only [wipeE, List.length_set]; omega))
  generalize (ρ3.set 6 (some (.p (.lst w4)))).set 6 (some (.p (.lst w6))) = ρ5 at e18 T5 h6
  have l5 := T5.len
  obtain ⟨w7, w7l, w7w, e19⟩ := s19_ok (st := .lst row4 :: rest3) w6l w6w hR hW hU hF2 T5 h6
  have T6 : TF ns (ρ5.set 6 (some (.p (.lst w7)))) R W U F := ⟨by (first | assumption | (((try simp only [At, wipeE]); (repeat rw [gset (by decide)])); first | assumption | (rw [gself (by (try simp only [List.length_set]); omega)])) | (simp only [wipeE, List.length_set]; omega)), (gset (by decide)).trans T5.r1, (gset (by decide)).trans T5.a3, (gset (by decide)).trans T5.a4, (gset (by decide)).trans T5.a10, (gset (by decide)).trans T5.a11, (gset (by decide)).trans T5.a12⟩
  have e20 := s20_ok (st := .lst row4 :: rest3) w7l w7w T6 (by (first | assumption | (((try simp only [At, wipeE]); (repeat rw [gset (by decide)])); first | assumption | (rw [gself (by (try simp only [List.length_set]); omega)])) | (simp only [wipeE, List.length_set]; omega)))
  generalize ρ5.set 6 (some (.p (.lst w7))) = ρ6 at e19 e20 T6
  have l6 := T6.len
  have r6 := T6.r1
  obtain ⟨a, b, c, row5, ha, hb, hc, hr5, e21⟩ := s21_ok l6 r6 hr4 hf3
  have r7 : (((ρ6.set 16 (some (.p a))).set 17 (some (.p b))).set 18 (some (.p c)))[1]? = some (some (.r 0)) := by (first | assumption | (((try simp only [At, wipeE]); (repeat rw [gset (by decide)])); first | assumption | (rw [gself (by (try simp only [List.length_set]); omega)])) | (simp only [wipeE, List.length_set]; omega))
  obtain ⟨d, row6, hd, hr6, e22⟩ := s22_ok r7 hr5 hf3
  have g16 : At ((((ρ6.set 16 (some (.p a))).set 17 (some (.p b))).set 18 (some (.p c))).set 7 (some (.p d))) 16 a := by (first | assumption | (((try simp only [At, wipeE]); (repeat rw [gset (by decide)])); first | assumption | (rw [gself (by (try simp only [List.length_set]); omega)])) | (simp only [wipeE, List.length_set]; omega))
  have g17 : At ((((ρ6.set 16 (some (.p a))).set 17 (some (.p b))).set 18 (some (.p c))).set 7 (some (.p d))) 17 b := by (first | assumption | (((try simp only [At, wipeE]); (repeat rw [gset (by decide)])); first | assumption | (rw [gself (by (try simp only [List.length_set]); omega)])) | (simp only [wipeE, List.length_set]; omega))
  have g18 : At ((((ρ6.set 16 (some (.p a))).set 17 (some (.p b))).set 18 (some (.p c))).set 7 (some (.p d))) 18 c := by (first | assumption | (((try simp only [At, wipeE]); (repeat rw [gset (by decide)])); first | assumption | (rw [gself (by (try simp only [List.length_set]); omega)])) | (simp only [wipeE, List.length_set]; omega))
  have g7 : At ((((ρ6.set 16 (some (.p a))).set 17 (some (.p b))).set 18 (some (.p c))).set 7 (some (.p d))) 7 d := by (first | assumption | (((try simp only [At, wipeE]); (repeat rw [gset (by decide)])); first | assumption | (rw [gself (by (try simp only [List.length_set]); omega)])) | (simp only [wipeE, List.length_set]; omega))
  have gl : ((((ρ6.set 16 (some (.p a))).set 17 (some (.p b))).set 18 (some (.p c))).set 7 (some (.p d))).length = 23 := by (first | assumption | (((try simp only [At, wipeE]); (repeat rw [gset (by decide)])); first | assumption | (rw [gself (by (try simp only [List.length_set]); omega)])) | (simp only [wipeE, List.length_set]; omega))
  have gr : ((((ρ6.set 16 (some (.p a))).set 17 (some (.p b))).set 18 (some (.p c))).set 7 (some (.p d)))[1]? = some (some (.r 0)) := by (first | assumption | (((try simp only [At, wipeE]); (repeat rw [gset (by decide)])); first | assumption | (rw [gself (by (try simp only [List.length_set]); omega)])) | (simp only [wipeE, List.length_set]; omega))
  generalize (((ρ6.set 16 (some (.p a))).set 17 (some (.p b))).set 18 (some (.p c))).set 7 (some (.p d)) = ρ7 at e22 g16 g17 g18 g7 gl gr
  have e23 := s23_ok (st := .lst row6 :: rest3) ha.bad hb.bad hc.bad hd.bad g16 g17 g18 g7
  have e24 := s24_ok (ρ := ρ7.set 8 (some (.p (.lst [T a, T b, T c, T d])))) (st := .lst row6 :: rest3) (w := [T a, T b, T c, T d]) hb.bad hd.bad (by (first | assumption | (((try simp only [At, wipeE]); (repeat rw [gset (by decide)])); first | assumption | (rw [gself (by (try simp only [List.length_set]); omega)])) | (simp only [wipeE, List.length_set]; omega))) (by (first | assumption | (((try simp only [At, wipeE]); (repeat rw [gset (by decide)])); first | assumption | (rw [gself (by (try simp only [List.length_set]); omega)])) | (simp only [wipeE, List.length_set]; omega))) (by (first | assumption | (((try simp only [At, wipeE]); (repeat rw [gset (by decide)])); first | assumption | (rw [gself (by (try simp only [List.length_set]); omega)])) | (simp only [wipeE, List.length_set]; omega))) rfl
  have e25 := s25_ok (ρ := (ρ7.set 8 (some (.p (.lst [T a, T b, T c, T d])))).set 8 (some (.p (.lst ([T a, T b, T c, T d] ++ [T d, T b]))))) (st := .lst row6 :: rest3) (w := [T a, T b, T c, T d] ++ [T d, T b]) ha.bad hd.bad (by (first | assumption | (((try simp only [At, wipeE]); (repeat rw [gset (by decide)])); first | assumption | (rw [gself (by (try simp only [List.length_set]); omega)])) | (simp only [wipeE, List.length_set]; omega))) (by (first | assumption | (((try simp only [At, wipeE]); (repeat rw [gset (by decide)])); first | assumption | (rw [gself (by (try simp only [List.length_set]); omega)])) | (simp only [wipeE, List.length_set]; omega))) (by (first | assumption | (((try simp only [At, wipeE]); (repeat rw [gset (by decide)])); first | assumption | (rw [gself (by (try simp only [List.length_set]); omega)])) | (simp only [wipeE, List.length_set]; omega))) rfl
  have e26 := s26_ok (ρ := ((ρ7.set 8 (some (.p (.lst [T a, T b, T c, T d])))).set 8 (some (.p (.lst ([T a, T b, T c, T d] ++ [T d, T b]))))).set 8 (some (.p (.lst ([T a, T b, T c, T d] ++ [T d, T b] ++ [T a, T d]))))) (st := .lst row6 :: rest3) (a := a) (b := b) (c := c) (d := d) (by (first | assumption | (((try simp only [At, wipeE]); (repeat rw [gset (by decide)])); first | assumption | (rw [gself (by (try simp only [List.length_set]); omega)])) | (simp only [wipeE, List.length_set]; omega))) (by (first | assumption | (((try simp only [At, wipeE]); (repeat rw [gset (by decide)])); first | assumption | (rw [gself (by (try simp only [List.length_set]); omega)])) | (simp only [wipeE, List.length_set]; omega))) (by (first | assumption | (((try simp only [At, wipeE]); (repeat rw [gset (by decide)])); first | assumption | (rw [gself (by (try simp only [List.length_set]); omega)])) | (simp only [wipeE, List.length_set]; omega))) (by (first | assumption | (((try simp only [At, wipeE]); (repeat rw [gset (by decide)])); first | assumption | (rw [gself (by (try simp only [List.length_set]); omega)])) | (simp only [wipeE, List.length_set]; omega)))
  have e27 := s27_ok (ρ := (((ρ7.set 8 (some (.p (.lst [T a, T b, T c, T d])))).set 8 (some (.p (.lst ([T a, T b, T c, T d] ++ [T d, T b]))))).set 8 (some (.p (.lst ([T a, T b, T c, T d] ++ [T d, T b] ++ [T a, T d]))))).set 9 (some (.p (.lst [T a, T b, T c, T d, T d, T b, T a, T d])))) (st := .lst row6 :: rest3) (c := c) (w := [T a, T b, T c, T d, T d, T b, T a, T d]) hc.bad (by (first | assumption | (((try simp only [At, wipeE]); (repeat rw [gset (by decide)])); first | assumption | (rw [gself (by (try simp only [List.length_set]); omega)])) | (simp only [wipeE, List.length_set]; omega))) (by (first | assumption | (((try simp only [At, wipeE]); (repeat rw [gset (by decide)])); first | assumption | (rw [gself (by (try simp only [List.length_set]); omega)])) | (simp only [wipeE, List.length_set]; omega)); rfl) (by (first | assumption | (((try simp only [At, wipeE]); (repeat rw [gset (by decide)])); first | assumption | (rw [gself (by (try simp only [List.length_set]); omega)])) | (simp only [wipeE, List.length_set]; omega))) rfl (by
    intro x hx
    simp only [List.cons_append, List.nil_append, List.mem_cons, List.not_mem_nil, or_false] at hx
    rcases hx with rfl | rfl | rfl | rfl | rfl | rfl | rfl | rfl | rfl
    · exact T_rp ha.rp
    · exact T_rp hb.rp
    · exact T_rp hc.rp
    · exact T_rp hd.rp
    · exact T_rp hd.rp
    · exact T_rp hb.rp
    · exact T_rp ha.rp
    · exact T_rp hd.rp
    · exact T_rp hc.rp)
  refine ⟨row6, rest3, (((ρ7.set 8 (some (.p (.lst [T a, T b, T c, T d])))).set 8 (some (.p (.lst ([T a, T b, T c, T d] ++ [T d, T b]))))).set 8 (some (.p (.lst ([T a, T b, T c, T d] ++ [T d, T b] ++ [T a, T d]))))).set 9 (some (.p (.lst [T a, T b, T c, T d, T d, T b, T a, T d]))), by (first | assumption | (((try simp only [At, wipeE]); (repeat rw [gset (by decide)])); first | assumption | (rw [gself (by (try simp only [List.length_set]); omega)])) | (simp only [wipeE, List.length_set]; omega)), by (first | assumption | (((try simp only [At, wipeE]); (repeat rw [gset (by decide)])); first | assumption | (rw [gself (by (try simp only [List.length_set]); omega)])) | (simp only [wipeE, List.length_set]; omega)), hr6, hf3, ?_⟩
  have z5 : 5 ≤ sizeLine := sz (by omega)
  have es16 : dn_law_s16 ρ2 (.lst row1 :: rest) = .next ρ3 (.lst row3 :: rest3) := sFor_range (n := 5) (by omega) e16
  unfold dn_law_b2
  rw [sSeq_next e2, sSeq_next e3, sSeq_next e4, sSeq_next es16, sSeq_next e17, sSeq_next e18, sSeq_next e19, sSeq_next e20, sSeq_next e21, sSeq_next e22, sSeq_next e23, sSeq_next e24, sSeq_next e25, sSeq_next e26, e27]
end
theorem main (ns : List Int) (hl : ns.length ≤ 63) (hb : ∀ z ∈ ns, Builtin.Int.intBits z ≤ 1048576) : dn_law [.p (.scr ns)] [] = .ok (.bl true) [] := by
  have h4 : 4 ≤ sizeLine := sz (by omega)
  obtain ⟨ρ', st', e, _⟩ := forL_ix (g := gN 2) (fb := dn_law_b2) (fun i : Nat => D.int (i : Nat)) (List.range 5) (fun _ ρ st => (ρ.length = 23 ∧ ρ[1]? = some (some (.r 0))) ∧ ∃ row rest, RowOk ns row ∧ Flat rest ∧ st = .lst row :: rest)
    (ρ := [some (.p (.scr ns)), some (.r 0), none, none, none, none, none, none, none, none, none, none, none, none, none, none, none, none, none, none, none, none, none]) (st := [.lst [.scr ns, .int 0, .int 5201, .int 0]])
    ⟨⟨rfl, rfl⟩, _, [], ⟨0, 5201, 0, rfl, by omega, by omega, by omega, by omega⟩, (fun o ho => by cases ho), rfl⟩ (by
      rintro i x ρ st hx ⟨⟨l0, r1⟩, row, rest, hr, hf, rfl⟩
      obtain ⟨row', rest', ρ', l', r', hr', hf', e⟩ := b2_ok (ρ := ρ.set 2 (some (.p (.int (x : Nat))))) (by (first | assumption | (((try simp only [At, wipeE]); (repeat rw [gset (by decide)])); first | assumption | (rw [gself (by (try simp only [List.length_set]); omega)])) | (simp only [wipeE, List.length_set]; omega))) (by (first | assumption | (((try simp only [At, wipeE]); (repeat rw [gset (by decide)])); first | assumption | (rw [gself (by (try simp only [List.length_set]); omega)])) | (simp only [wipeE, List.length_set]; omega))) hr hf
      exact ⟨_, ρ', _, rfl, .inl e, ⟨l', r'⟩, row', rest', hr', hf', rfl⟩)
  have hb5 : bigR 5 = true := bigR_of (by omega) (by omega)
  have hr5 : rngL 0 5 = (List.range 5).map fun i : Nat => D.int (i : Nat) := rngL0 5
  have s1 : dn_law_s1 [some (.p (.scr ns)), none, none, none, none, none, none, none, none, none, none, none, none, none, none, none, none, none, none, none, none, none, none] [] = .next [some (.p (.scr ns)), some (.r 0), none, none, none, none, none, none, none, none, none, none, none, none, none, none, none, none, none, none, none, none, none] [.lst [.scr ns, .int 0, .int 5201, .int 0]] := by
    simp [dn_law_s1, h4]
  have s28 : dn_law_s28 [some (.p (.scr ns)), some (.r 0), none, none, none, none, none, none, none, none, none, none, none, none, none, none, none, none, none, none, none, none, none] [.lst [.scr ns, .int 0, .int 5201, .int 0]] = .next ρ' st' := by
    exact sFor_range (n := 5) (by omega) e
  refine dFn_ret rfl (st' := st') ?_
  show sSeq dn_law_s1 (sSeq dn_law_s28 _) [some (.p (.scr ns)), none, none, none, none, none, none, none, none, none, none, none, none, none, none, none, none, none, none, none, none, none, none] [] = _
  rw [sSeq_next s1, sSeq_next s28]
  simp
end Law
open PySem PySem.W PyProof.Rows
set_option maxRecDepth 100000 in
set_option maxHeartbeats 0 in
theorem PySem.Challenge.cw_craterounds_k20_schedules_judged_holds : PySem.Challenge.rw_craterounds_k20_schedules_judged.Holds := by
  w_on; o_law; k_head; (case hw => w_witness2)
  k_fill
  first | refine Law.walk (l := PySem.Challenge.rw_craterounds_k20_schedules_judged) rfl rfl (fun w h Y => PySem.W.kIn_of Y) ?F | refine Law.walk (l := PySem.Challenge.rw_craterounds_k20_schedules_judged) rfl rfl (fun w h Y => PySem.W.km_in_of Y) ?F
  case F =>
    intro w mg mb mean fa h T KX hmg
    refine' Law.all_mk Law.main T KX hmg ?z_ValueError ?z_all ?z_bool ?z_int ?z_isinstance ?z_len ?z_list ?z_max ?z_min ?z_range ?z_repr ?z_sorted ?z_str ?z_tuple ?z_zip ?q_MOST_ROUNDS ?q_MOST_USES ?q_MOST_WANTED ?a_CrateError ?a_BadPlan ?a_BadNumber ?a_UnknownKind ?a_UnknownHouse ?a_TooMany ?a_BadCourse ?a_BadOrder ?a_BadTimes ?a_BadNeeds ?a_BadRows ?a_BadCounts ?a_BadMoves ?a_BadSuspects ?a_BadSigns ?a_BadText ?a_BadLine ?a_NotPossible ?a_NotAgreed ?a_BadClaim ?a_NothingDone ?z_super ?o_BadNumber ?ic_BadNumber ?l_BadNumber ?lc_BadNumber ?ce_BadNumber ?fi_BadNumber ?fe_BadNumber ?v_BadNumber ?b_BadNumber ?htop ?kt_NothingDone ?kt_BadClaim ?kt_NotAgreed ?kt_NotPossible ?kt_BadLine ?kt_BadText ?kt_BadSigns ?kt_BadSuspects ?kt_BadMoves ?kt_BadCounts ?kt_BadRows ?kt_BadNeeds ?kt_BadTimes ?kt_BadCourse ?kt_TooMany ?kt_UnknownHouse ?kt_UnknownKind ?kt_BadOrder ?kt_BadNumber ?kt_BadPlan ?kt_ValueError ?ex_all ?em_CrateError ?nf_limit ?nf_line ?nf_name ?nf_part ?nf_place ?nf_value ?a_is_whole ?l_is_whole ?c_is_whole ?k_is_whole ?a_is_within ?l_is_within ?c_is_within ?k_is_within ?a_require_wear ?l_require_wear ?c_require_wear ?k_require_wear ?a_fewest ?l_fewest ?c_fewest ?k_fewest ?a_schedule ?l_schedule ?c_schedule ?k_schedule ?a__law_taken ?l__law_taken ?c__law_taken ?k__law_taken ?a__law_pick ?l__law_pick ?c__law_pick ?k__law_pick ?a__law_odd ?l__law_odd ?c__law_odd ?k__law_odd ?a__law_refusal ?l__law_refusal ?c__law_refusal ?k__law_refusal ?a__law_told ?l__law_told ?c__law_told ?k__law_told ?a__law_same ?l__law_same ?c__law_same ?k__law_same ?a__law_alike ?l__law_alike ?c__law_alike ?k__law_alike ?a_is_row ?l_is_row ?c_is_row ?k_is_row ?a_used ?l_used ?c_used ?k_used ?a_is_schedule ?l_is_schedule ?c_is_schedule ?k_is_schedule ?a_most_rounds ?l_most_rounds ?c_most_rounds ?k_most_rounds ?a_needed_uses ?l_needed_uses ?c_needed_uses ?k_needed_uses ?a_uses_left ?l_uses_left ?c_uses_left ?k_uses_left ?a_law ?l_law ?c_law ?k_law ?tb_law ?re_law ?no_tabs
    (case z_ValueError => k_is)
    (case z_all => k_is)
    (case z_bool => k_is)
    (case z_int => k_is)
    (case z_isinstance => k_is)
    (case z_len => k_is)
    (case z_list => k_is)
    (case z_max => k_is)
    (case z_min => k_is)
    (case z_range => k_is)
    (case z_repr => k_is)
    (case z_sorted => k_is)
    (case z_str => k_is)
    (case z_tuple => k_is)
    (case z_zip => k_is)
    (case q_MOST_ROUNDS => k_is)
    (case q_MOST_USES => k_is)
    (case q_MOST_WANTED => k_is)
    (case a_CrateError => k_is)
    (case a_BadPlan => k_is)
    (case a_BadNumber => k_is)
    (case a_UnknownKind => k_is)
    (case a_UnknownHouse => k_is)
    (case a_TooMany => k_is)
    (case a_BadCourse => k_is)
    (case a_BadOrder => k_is)
    (case a_BadTimes => k_is)
    (case a_BadNeeds => k_is)
    (case a_BadRows => k_is)
    (case a_BadCounts => k_is)
    (case a_BadMoves => k_is)
    (case a_BadSuspects => k_is)
    (case a_BadSigns => k_is)
    (case a_BadText => k_is)
    (case a_BadLine => k_is)
    (case a_NotPossible => k_is)
    (case a_NotAgreed => k_is)
    (case a_BadClaim => k_is)
    (case a_NothingDone => k_is)
    (case z_super => k_is)
    (case o_BadNumber => k_is)
    (case ic_BadNumber => k_is)
    (case l_BadNumber => k_is)
    (case lc_BadNumber => k_is)
    (case ce_BadNumber => k_is)
    (case fi_BadNumber => exact rfl)
    (case fe_BadNumber => kernel_rfl)
    (case v_BadNumber => kernel_rfl)
    (case b_BadNumber => kernel_rfl)
    (case htop => kernel_rfl)
    (case kt_NothingDone => kernel_rfl)
    (case kt_BadClaim => kernel_rfl)
    (case kt_NotAgreed => kernel_rfl)
    (case kt_NotPossible => kernel_rfl)
    (case kt_BadLine => kernel_rfl)
    (case kt_BadText => kernel_rfl)
    (case kt_BadSigns => kernel_rfl)
    (case kt_BadSuspects => kernel_rfl)
    (case kt_BadMoves => kernel_rfl)
    (case kt_BadCounts => kernel_rfl)
    (case kt_BadRows => kernel_rfl)
    (case kt_BadNeeds => kernel_rfl)
    (case kt_BadTimes => kernel_rfl)
    (case kt_BadCourse => kernel_rfl)
    (case kt_TooMany => kernel_rfl)
    (case kt_UnknownHouse => kernel_rfl)
    (case kt_UnknownKind => kernel_rfl)
    (case kt_BadOrder => kernel_rfl)
    (case kt_BadNumber => kernel_rfl)
    (case kt_BadPlan => kernel_rfl)
    (case kt_ValueError => kernel_rfl)
    (case ex_all => kernel_rfl)
    (case em_CrateError => kernel_rfl)
    (case nf_limit => kernel_rfl)
    (case nf_line => kernel_rfl)
    (case nf_name => kernel_rfl)
    (case nf_part => kernel_rfl)
    (case nf_place => kernel_rfl)
    (case nf_value => kernel_rfl)
    (case a_is_whole => k_is)
    (case l_is_whole => k_is)
    (case c_is_whole => k_is)
    (case k_is_whole => k_is)
    (case a_is_within => k_is)
    (case l_is_within => k_is)
    (case c_is_within => k_is)
    (case k_is_within => k_is)
    (case a_require_wear => k_is)
    (case l_require_wear => k_is)
    (case c_require_wear => k_is)
    (case k_require_wear => k_is)
    (case a_fewest => k_is)
    (case l_fewest => k_is)
    (case c_fewest => k_is)
    (case k_fewest => k_is)
    (case a_schedule => k_is)
    (case l_schedule => k_is)
    (case c_schedule => k_is)
    (case k_schedule => k_is)
    (case a__law_taken => k_is)
    (case l__law_taken => k_is)
    (case c__law_taken => k_is)
    (case k__law_taken => k_is)
    (case a__law_pick => k_is)
    (case l__law_pick => k_is)
    (case c__law_pick => k_is)
    (case k__law_pick => k_is)
    (case a__law_odd => k_is)
    (case l__law_odd => k_is)
    (case c__law_odd => k_is)
    (case k__law_odd => k_is)
    (case a__law_refusal => k_is)
    (case l__law_refusal => k_is)
    (case c__law_refusal => k_is)
    (case k__law_refusal => k_is)
    (case a__law_told => k_is)
    (case l__law_told => k_is)
    (case c__law_told => k_is)
    (case k__law_told => k_is)
    (case a__law_same => k_is)
    (case l__law_same => k_is)
    (case c__law_same => k_is)
    (case k__law_same => k_is)
    (case a__law_alike => k_is)
    (case l__law_alike => k_is)
    (case c__law_alike => k_is)
    (case k__law_alike => k_is)
    (case a_is_row => k_is)
    (case l_is_row => k_is)
    (case c_is_row => k_is)
    (case k_is_row => k_is)
    (case a_used => k_is)
    (case l_used => k_is)
    (case c_used => k_is)
    (case k_used => k_is)
    (case a_is_schedule => k_is)
    (case l_is_schedule => k_is)
    (case c_is_schedule => k_is)
    (case k_is_schedule => k_is)
    (case a_most_rounds => k_is)
    (case l_most_rounds => k_is)
    (case c_most_rounds => k_is)
    (case k_most_rounds => k_is)
    (case a_needed_uses => k_is)
    (case l_needed_uses => k_is)
    (case c_needed_uses => k_is)
    (case k_needed_uses => k_is)
    (case a_uses_left => k_is)
    (case l_uses_left => k_is)
    (case c_uses_left => k_is)
    (case k_uses_left => k_is)
    (case a_law => k_is)
    (case l_law => k_is)
    (case c_law => k_is)
    (case k_law => k_is)
    (case tb_law => exact rfl)
    (case re_law => kernel_rfl)
    (case no_tabs => kernel_rfl)
