import PyProof.Rows.All
import Wide.All
import OpenK.AllK
import Wide.FinOn
import PySem.Challenge.RW_craterounds_k19_whole_wear
import HandS.ForMost
import HandS.ForExc
import HandS.TupAny
import HandS.Zip
import HandS.IsInst
import HandS.Steps
import HandS.Deep
import KE.KTupSum
import HandS.SortInts
import HandS.Style
import HandS.WordsDict
set_option Elab.async false
set_option linter.all false
set_option maxRecDepth 100000
set_option maxHeartbeats 8000000
namespace M
open PySem PySem.Spec L2
/-! what the kernel shall not decide by counting -/
noncomputable instance (priority := high) undSz (n : Nat) : Decidable (n ≤ sizeLine) := Classical.propDecidable _
noncomputable instance (priority := high) undSzLt (n : Nat) : Decidable (n < sizeLine) := Classical.propDecidable _
noncomputable instance (priority := high) undB1 (i : Int) : Decidable (i < 4611686018427387904) := Classical.propDecidable _
noncomputable instance (priority := high) undB2 (i : Int) : Decidable (-4611686018427387904 ≤ i) := Classical.propDecidable _
noncomputable instance (priority := high) undB3 (i : Int) : Decidable (-4611686018427387904 < i) := Classical.propDecidable _

/-! ### data, store, results -/
inductive D where
  | non | bl (b : Bool) | int (i : Int) | str (x : Str) | tup (xs : List D) | lst (xs : List D) | dic (kvs : List (D × D))
  | ins (c : Str) (fs : List (Str × D)) | fn (x : Str) | scr (ns : List Int)
inductive S where
  | p (d : D) | r (n : Nat)
inductive O where
  | lst (ds : List D) | dic (kvs : List (D × D)) | ins (c : Str) (fs : List (Str × S)) | frz (d : D) | dead
@[simp] def O.live : O → Bool
  | .lst _ => true | .dic _ => true | .ins _ _ => true | _ => false
abbrev Sto := List O
abbrev Env := List (Option S)
inductive Res (α : Type) where
  | ok (a : α) (st : Sto) | exc (c : Str) (fs : List (Str × D)) (st : Sto) | stuck
inductive SRes where
  | next (ρ : Env) (st : Sto) | ret (d : D) (st : Sto) | brk (ρ : Env) (st : Sto) | cont (ρ : Env) (st : Sto)
  | exc (c : Str) (fs : List (Str × D)) (ρ : Env) (st : Sto) | stuck
abbrev Den := Env → Sto → Res D
abbrev DenB := Env → Sto → Res Bool
abbrev DenL := Env → Sto → Res (List D)
abbrev SDen := Env → Sto → SRes
abbrev FDen := List D → Sto → Res D
@[simp] def Res.bind {α β : Type} (r : Res α) (k : α → Sto → Res β) : Res β := match r with
  | .ok a st => k a st
  | .exc c fs st => .exc c fs st
  | .stuck => .stuck

/-! ### what stands for what -/
structure Wd where
  K : PySem.W.Frag
  cls : Str → Option Addr
  fn : Str → Option Addr

abbrev Zone := Addr → Prop
def KTup (K : PySem.W.Frag) (a : Addr) (xs : List V) : Prop :=
  ∃ (o : Obj) (its : Array Value) (n : Nat), K.lookup a = some o ∧ o.cls = .type "tuple" ∧ o.data = .seq its n ∧ its.size ≤ sizeLine ∧ Vals xs its.toList
def KLst (K : PySem.W.Frag) (a : Addr) (xs : List V) : Prop :=
  ∃ (o : Obj) (its : Array Value) (n : Nat), K.lookup a = some o ∧ o.cls = .type "list" ∧ o.dict = none ∧ o.data = .seq its n ∧ its.size ≤ sizeLine ∧ Vals xs its.toList
mutual
inductive Rep (G : Wd) (Z : Zone) (H : Hp) : D → V → Prop
  | non : Rep G Z H .non .non
  | bl (b : Bool) : Rep G Z H (.bl b) (.bl b)
  | int (i : Int) : Rep G Z H (.int i) (.int i)
  | str (x : Str) : Rep G Z H (.str x) (.str x)
  | tup {a : Addr} {vs : List V} {ds : List D} : Rd H a (.tup vs) → ¬ Z a → Reps G Z H ds vs → Rep G Z H (.tup ds) (.ref a)
  | tupK {a : Addr} {vs : List V} {ds : List D} : KTup G.K a vs → Reps G Z H ds vs → Rep G Z H (.tup ds) (.ref a)
  | lst {a : Addr} {vs : List V} {ds : List D} : Rd H a (.lst vs) → ¬ Z a → Reps G Z H ds vs → Rep G Z H (.lst ds) (.ref a)
  | dK {a : Addr} {kvs : List (Key × V)} {ds : List (D × D)} : Rd H a (.dK kvs) → ¬ Z a → RepK G Z H ds kvs → Rep G Z H (.dic ds) (.ref a)
  | dT {a : Addr} {kvs : List (List Key × V)} {ds : List (D × D)} : Rd H a (.dT kvs) → ¬ Z a → RepT G Z H ds kvs → Rep G Z H (.dic ds) (.ref a)
  | ins {a C dx : Addr} {c : Str} {vfs : List (Str × V)} {fs : List (Str × D)} : H a = some (.ins C dx vfs) → ¬ Z a → G.cls c = some C → RepF G Z H fs vfs → Rep G Z H (.ins c fs) (.ref a)
  | fn {a : Addr} {x : Str} : G.fn x = some a → Rep G Z H (.fn x) (.ref a)
  | scr {a : Addr} {ns : List Int} : Rd H a (.lst (ns.map V.int)) → ¬ Z a → Rep G Z H (.scr ns) (.ref a)
  | scrK {a : Addr} {ns : List Int} : KLst G.K a (ns.map V.int) → Rep G Z H (.scr ns) (.ref a)
inductive Reps (G : Wd) (Z : Zone) (H : Hp) : List D → List V → Prop
  | nil : Reps G Z H [] []
  | cons {d : D} {v : V} {ds : List D} {vs : List V} : Rep G Z H d v → Reps G Z H ds vs → Reps G Z H (d :: ds) (v :: vs)
inductive RepK (G : Wd) (Z : Zone) (H : Hp) : List (D × D) → List (Key × V) → Prop
  | nil : RepK G Z H [] []
  | int {i : Int} {d : D} {v : V} {ds : List (D × D)} {vs : List (Key × V)} : Rep G Z H d v → RepK G Z H ds vs → RepK G Z H ((.int i, d) :: ds) ((.inl i, v) :: vs)
  | str {x : Str} {d : D} {v : V} {ds : List (D × D)} {vs : List (Key × V)} : Rep G Z H d v → RepK G Z H ds vs → RepK G Z H ((.str x, d) :: ds) ((.inr x, v) :: vs)
inductive RepT (G : Wd) (Z : Zone) (H : Hp) : List (D × D) → List (List Key × V) → Prop
  | nil : RepT G Z H [] []
  | cons {ks : List Key} {es : List D} {d : D} {v : V} {ds : List (D × D)} {vs : List (List Key × V)} : Reps G Z H es (ks.map kV) → Rep G Z H d v → RepT G Z H ds vs → RepT G Z H ((.tup es, d) :: ds) ((ks, v) :: vs)
inductive RepF (G : Wd) (Z : Zone) (H : Hp) : List (Str × D) → List (Str × V) → Prop
  | nil : RepF G Z H [] []
  | cons {x : Str} {d : D} {v : V} {ds : List (Str × D)} {vs : List (Str × V)} : Rep G Z H d v → RepF G Z H ds vs → RepF G Z H ((x, d) :: ds) ((x, v) :: vs)
end

/-- an object, but for the lock of a dict that a loop walks -/
def core : HO → HO
  | .frz _ (.dK k) => .dK k | .frz _ (.dT k) => .dT k | o => o
def KeepAt (H' : Hp) (a : Addr) (o : HO) : Prop := ∃ o', H' a = some o' ∧ core o' = core o
theorem KeepAt.of {H' : Hp} {a : Addr} {o : HO} (h : H' a = some o) : KeepAt H' a o := ⟨o, h, rfl⟩
theorem KeepAt.ins {H' : Hp} {a C dx : Addr} {fs : List (Str × V)} (k : KeepAt H' a (.ins C dx fs)) : H' a = some (.ins C dx fs) := by
  obtain ⟨o', h, e⟩ := k
  have e2 : core o' = .ins C dx fs := e
  unfold core at e2
  split at e2 <;> first | (cases e2; done) | exact (by rw [h, e2])
theorem KeepAt.rd {H H' : Hp} {a : Addr} {u : HO} (r : Rd H a u) (k : ∀ o, H a = some o → KeepAt H' a o) : (∃ xs, u = .lst xs) ∨ (∃ xs, u = .tup xs) ∨ (∃ xs, u = .dK xs) ∨ (∃ xs, u = .dT xs) → Rd H' a u := by
  intro hu
  have go : ∀ o, H a = some o → (o = u ∨ ∃ ob, o = .frz ob u) → Rd H' a u := fun o ho hc => by
    obtain ⟨o', h', e⟩ := k o ho
    rcases hu with ⟨xs, rfl⟩ | ⟨xs, rfl⟩ | ⟨xs, rfl⟩ | ⟨xs, rfl⟩
    · rcases hc with rfl | ⟨ob, rfl⟩
      · have e2 : core o' = .lst xs := e
        unfold core at e2
        split at e2 <;> first | (cases e2; done) | exact .inl (by rw [h', e2])
      · have e2 : core o' = .frz ob (.lst xs) := e
        unfold core at e2
        split at e2 <;> first | (cases e2; done) | exact .inr ⟨ob, by rw [h', e2]⟩
    · rcases hc with rfl | ⟨ob, rfl⟩
      · have e2 : core o' = .tup xs := e
        unfold core at e2
        split at e2 <;> first | (cases e2; done) | exact .inl (by rw [h', e2])
      · have e2 : core o' = .frz ob (.tup xs) := e
        unfold core at e2
        split at e2 <;> first | (cases e2; done) | exact .inr ⟨ob, by rw [h', e2]⟩
    · have e2 : core o' = .dK xs := by
        rcases hc with rfl | ⟨ob, rfl⟩ <;> exact e
      unfold core at e2
      split at e2
      · cases e2
        exact .inr ⟨_, h'⟩
      · cases e2
      · exact .inl (by rw [h', e2])
    · have e2 : core o' = .dT xs := by
        rcases hc with rfl | ⟨ob, rfl⟩ <;> exact e
      unfold core at e2
      split at e2
      · cases e2
      · cases e2
        exact .inr ⟨_, h'⟩
      · exact .inl (by rw [h', e2])
  rcases r with r | ⟨o, r⟩
  · exact go _ r (.inl rfl)
  · exact go _ r (.inr ⟨o, rfl⟩)
/-- what is read as u at an address that may be leant on is so in the other heap and zone -/
def Keeps (Z Z' : Zone) (H H' : Hp) : Prop := ∀ a o, H a = some o → ¬ Z a → KeepAt H' a o ∧ ¬ Z' a
theorem Keeps.rd {Z Z' : Zone} {H H' : Hp} (k : Keeps Z Z' H H') {a : Addr} {u : HO} (r : Rd H a u) (z : ¬ Z a) (hu : (∃ xs, u = .lst xs) ∨ (∃ xs, u = .tup xs) ∨ (∃ xs, u = .dK xs) ∨ (∃ xs, u = .dT xs)) : Rd H' a u ∧ ¬ Z' a := by
  refine ⟨KeepAt.rd r (fun o h => (k a o h z).1) hu, ?_⟩
  rcases r with r | ⟨o, r⟩
  · exact (k _ _ r z).2
  · exact (k _ _ r z).2
section
variable {G : Wd} {Z Z' : Zone} {H H' : Hp}
mutual
theorem Rep.mono (k : Keeps Z Z' H H') : ∀ {d : D} {v : V}, Rep G Z H d v → Rep G Z' H' d v
  | _, _, .non => .non
  | _, _, .bl b => .bl b
  | _, _, .int i => .int i
  | _, _, .str x => .str x
  | _, _, .tup r z h => .tup (k.rd r z (.inr (.inl ⟨_, rfl⟩))).1 (k.rd r z (.inr (.inl ⟨_, rfl⟩))).2 (Reps.mono k h)
  | _, _, .tupK r h => .tupK r (Reps.mono k h)
  | _, _, .lst r z h => .lst (k.rd r z (.inl ⟨_, rfl⟩)).1 (k.rd r z (.inl ⟨_, rfl⟩)).2 (Reps.mono k h)
  | _, _, .dK r z h => .dK (k.rd r z (.inr (.inr (.inl ⟨_, rfl⟩)))).1 (k.rd r z (.inr (.inr (.inl ⟨_, rfl⟩)))).2 (RepK.mono k h)
  | _, _, .dT r z h => .dT (k.rd r z (.inr (.inr (.inr ⟨_, rfl⟩)))).1 (k.rd r z (.inr (.inr (.inr ⟨_, rfl⟩)))).2 (RepT.mono k h)
  | _, _, .ins e z c h => .ins (k _ _ e z).1.ins (k _ _ e z).2 c (RepF.mono k h)
  | _, _, .fn e => .fn e
  | _, _, .scr r z => .scr (k.rd r z (.inl ⟨_, rfl⟩)).1 (k.rd r z (.inl ⟨_, rfl⟩)).2
  | _, _, .scrK h => .scrK h
theorem Reps.mono (k : Keeps Z Z' H H') : ∀ {d : List D} {v : List V}, Reps G Z H d v → Reps G Z' H' d v
  | _, _, .nil => .nil
  | _, _, .cons h t => .cons (Rep.mono k h) (Reps.mono k t)
theorem RepK.mono (k : Keeps Z Z' H H') : ∀ {d : List (D × D)} {v : List (Key × V)}, RepK G Z H d v → RepK G Z' H' d v
  | _, _, .nil => .nil
  | _, _, .int h t => .int (Rep.mono k h) (RepK.mono k t)
  | _, _, .str h t => .str (Rep.mono k h) (RepK.mono k t)
theorem RepT.mono (k : Keeps Z Z' H H') : ∀ {d : List (D × D)} {v : List (List Key × V)}, RepT G Z H d v → RepT G Z' H' d v
  | _, _, .nil => .nil
  | _, _, .cons e h t => .cons (Reps.mono k e) (Rep.mono k h) (RepT.mono k t)
theorem RepF.mono (k : Keeps Z Z' H H') : ∀ {d : List (Str × D)} {v : List (Str × V)}, RepF G Z H d v → RepF G Z' H' d v
  | _, _, .nil => .nil
  | _, _, .cons h t => .cons (Rep.mono k h) (RepF.mono k t)
end
theorem Reps.length : ∀ {ds : List D} {vs : List V}, Reps G Z H ds vs → ds.length = vs.length
  | _, _, .nil => rfl
  | _, _, .cons _ t => congrArg (· + 1) t.length
theorem Reps.get : ∀ {ds : List D} {vs : List V} {i : Nat} {d : D}, Reps G Z H ds vs → ds[i]? = some d → ∃ v, vs[i]? = some v ∧ Rep G Z H d v
  | _, _, _, _, .nil, e => by simp at e
  | _, _, 0, _, .cons r _, e => by simp at e; subst e; exact ⟨_, rfl, r⟩
  | _, _, i + 1, d, .cons _ t, e => by
    obtain ⟨v, h1, h2⟩ := Reps.get (i := i) (d := d) t (by simpa using e)
    exact ⟨v, by simpa using h1, h2⟩
theorem Reps.getV : ∀ {ds : List D} {vs : List V} {i : Nat} {v : V}, Reps G Z H ds vs → vs[i]? = some v → ∃ d, ds[i]? = some d ∧ Rep G Z H d v
  | _, _, _, _, .nil, e => by simp at e
  | _, _, 0, _, .cons r _, e => by simp at e; subst e; exact ⟨_, rfl, r⟩
  | _, _, i + 1, d, .cons _ t, e => by
    obtain ⟨v, h1, h2⟩ := Reps.getV (i := i) (v := d) t (by simpa using e)
    exact ⟨v, by simpa using h1, h2⟩
theorem Reps.append : ∀ {ds es : List D} {vs ws : List V}, Reps G Z H ds vs → Reps G Z H es ws → Reps G Z H (ds ++ es) (vs ++ ws)
  | _, _, _, _, .nil, s => s
  | _, _, _, _, .cons r t, s => .cons r (Reps.append t s)
theorem Reps.take : ∀ {ds : List D} {vs : List V} (n : Nat), Reps G Z H ds vs → Reps G Z H (ds.take n) (vs.take n)
  | _, _, 0, _ => .nil
  | _, _, _ + 1, .nil => .nil
  | _, _, n + 1, .cons r t => .cons r (Reps.take n t)
theorem Reps.drop : ∀ {ds : List D} {vs : List V} (n : Nat), Reps G Z H ds vs → Reps G Z H (ds.drop n) (vs.drop n)
  | _, _, 0, r => r
  | _, _, _ + 1, .nil => .nil
  | _, _, n + 1, .cons _ t => Reps.drop n t
theorem Reps.set {d : D} {v : V} (r : Rep G Z H d v) : ∀ {ds : List D} {vs : List V} (i : Nat), Reps G Z H ds vs → Reps G Z H (ds.set i d) (vs.set i v)
  | _, _, _, .nil => .nil
  | _, _, 0, .cons _ t => .cons r t
  | _, _, i + 1, .cons q t => .cons q (Reps.set r i t)
theorem Reps.one {d : D} {v : V} (r : Rep G Z H d v) : Reps G Z H [d] [v] := .cons r .nil
theorem Reps.none_of {ds : List D} {vs : List V} {i : Nat} (r : Reps G Z H ds vs) (e : ds[i]? = none) : vs[i]? = none := by
  rw [List.getElem?_eq_none_iff] at *
  have := r.length; omega
end

/-! ### the store -/
def Live (L : List Addr) (st : Sto) (a : Addr) : Prop := ∃ (n : Nat) (o : O), L[n]? = some a ∧ st[n]? = some o ∧ o.live = true
def Zof (Z : Zone) (L : List Addr) (st : Sto) : Zone := fun a => Z a ∨ Live L st a
inductive SRep (G : Wd) (Z : Zone) (H : Hp) (L : List Addr) : S → V → Prop
  | p {d : D} {v : V} : Rep G Z H d v → SRep G Z H L (.p d) v
  | r {n : Nat} {a : Addr} : L[n]? = some a → SRep G Z H L (.r n) (.ref a)
inductive SRepF (G : Wd) (Z : Zone) (H : Hp) (L : List Addr) : List (Str × S) → List (Str × V) → Prop
  | nil : SRepF G Z H L [] []
  | cons {x : Str} {d : S} {v : V} {ds : List (Str × S)} {vs : List (Str × V)} : SRep G Z H L d v → SRepF G Z H L ds vs → SRepF G Z H L ((x, d) :: ds) ((x, v) :: vs)
def OOk (G : Wd) (Z : Zone) (H : Hp) (L : List Addr) (a : Addr) : O → Prop
  | .lst ds => ∃ vs, H a = some (.lst vs) ∧ Reps G Z H ds vs
  | .dic ds => (∃ kvs, H a = some (.dK kvs) ∧ RepK G Z H ds kvs) ∨ ∃ kvs, H a = some (.dT kvs) ∧ RepT G Z H ds kvs
  | .ins c fs => ∃ C dx vfs, G.cls c = some C ∧ H a = some (.ins C dx vfs) ∧ SRepF G Z H L fs vfs
  | .frz d => Rep G Z H d (.ref a)
  | .dead => True
structure StOk (G : Wd) (Z : Zone) (L : List Addr) (st : Sto) (H : Hp) : Prop where
  len : L.length = st.length
  nd : L.Nodup
  obj : ∀ (n : Nat) (a : Addr) (o : O), L[n]? = some a → st[n]? = some o → OOk G (Zof Z L st) H L a o
  z0 : ∀ a, Z a → H a ≠ none
  zl : ∀ a ∈ L, ¬ Z a
  lh : ∀ a ∈ L, H a ≠ none
/-- from one state to a later one -/
structure Fw (Z : Zone) (L : List Addr) (st : Sto) (H : Hp) (L' : List Addr) (st' : Sto) (H' : Hp) : Prop where
  pre : ∃ M, L' = L ++ M ∧ ∀ a ∈ M, H a = none
  keep : ∀ a o, H a = some o → ¬ Live L st a → KeepAt H' a o
  there : ∀ a, H a ≠ none → H' a ≠ none
  zk : ∀ a o, Z a → H a = some o → H' a = some o
  live : ∀ (n : Nat) (o' : O), n < L.length → st'[n]? = some o' → o'.live = true → ∃ o, st[n]? = some o ∧ o.live = true
def EnvOk (G : Wd) (Z : Zone) (H : Hp) (L : List Addr) (ρ : Env) (σ : St) : Prop :=
  ρ.length = σ.length ∧ ∀ (i : Nat) (s : S), ρ[i]? = some (some s) → ∃ v, σ[i]? = some (some v) ∧ SRep G Z H L s v
section
variable {G : Wd} {Z : Zone} {L L' L2 : List Addr} {st st' st2 : Sto} {H H' H2 : Hp}
theorem Fw.refl : Fw Z L st H L st H := ⟨⟨[], by simp, by simp⟩, fun _ _ e _ => .of e, fun _ h => h, fun _ _ _ e => e, fun n o' _ e l => ⟨o', e, l⟩⟩
theorem Fw.live_of (f : Fw Z L st H L' st' H') {a : Addr} (h : Live L' st' a) : Live L st a ∨ H a = none := by
  obtain ⟨n, o', e1, e2, l⟩ := h
  obtain ⟨M, rfl, hM⟩ := f.pre
  by_cases hn : n < L.length
  · obtain ⟨o, e3, l3⟩ := f.live n o' hn e2 l
    rw [List.getElem?_append_left hn] at e1
    exact .inl ⟨n, o, e1, e3, l3⟩
  · rw [List.getElem?_append_right (by omega)] at e1
    exact .inr (hM a (List.mem_of_getElem? e1))
theorem Fw.keeps (f : Fw Z L st H L' st' H') : Keeps (Zof Z L st) (Zof Z L' st') H H' := fun a o e z => by
  have nl : ¬ Live L st a := fun q => z (.inr q)
  refine ⟨f.keep a o e nl, fun q => ?_⟩
  rcases q with q | q
  · exact z (.inl q)
  · rcases f.live_of q with q | q
    · exact nl q
    · rw [e] at q; cases q
theorem Fw.trans (f : Fw Z L st H L' st' H') (g : Fw Z L' st' H' L2 st2 H2) : Fw Z L st H L2 st2 H2 := by
  refine ⟨?_, fun a o e nl => ?_, fun a h => g.there a (f.there a h), fun a o z e => g.zk a o z (f.zk a o z e), fun n o2 hn e l => ?_⟩
  · obtain ⟨M, rfl, hM⟩ := f.pre
    obtain ⟨M2, rfl, hM2⟩ := g.pre
    refine ⟨M ++ M2, by simp, fun a ha => ?_⟩
    rcases List.mem_append.mp ha with ha | ha
    · exact hM a ha
    · cases q : H a with
      | none => rfl
      | some o => exact absurd (hM2 a ha) (f.there a (by rw [q]; simp))
  · obtain ⟨o1, e1, c1⟩ := f.keep a o e nl
    have nl1 : ¬ Live L' st' a := fun q => by
      rcases f.live_of q with q | q
      · exact nl q
      · rw [e] at q; cases q
    obtain ⟨o2, e2, c2⟩ := g.keep a o1 e1 nl1
    exact ⟨o2, e2, c2.trans c1⟩
  · obtain ⟨M, rfl, hM⟩ := f.pre
    obtain ⟨o1, e1, l1⟩ := g.live n o2 (by simp; omega) e l
    exact f.live n o1 hn e1 l1
theorem Fw.get (f : Fw Z L st H L' st' H') {n : Nat} {a : Addr} (e : L[n]? = some a) : L'[n]? = some a := by
  obtain ⟨M, rfl, _⟩ := f.pre
  rw [List.getElem?_append_left (List.getElem?_eq_some_iff.mp e).1]
  exact e
theorem SRep.mono (f : Fw Z L st H L' st' H') {s : S} {v : V} (h : SRep G (Zof Z L st) H L s v) : SRep G (Zof Z L' st') H' L' s v := by
  cases h with
  | p r => exact .p (r.mono f.keeps)
  | r e => exact .r (f.get e)
theorem EnvOk.mono (f : Fw Z L st H L' st' H') {ρ : Env} {σ : St} (h : EnvOk G (Zof Z L st) H L ρ σ) : EnvOk G (Zof Z L' st') H' L' ρ σ :=
  ⟨h.1, fun i s e => let ⟨v, e2, r⟩ := h.2 i s e; ⟨v, e2, r.mono f⟩⟩
/-- only new objects -/
theorem Fw.same (e : Same H H') : Fw Z L st H L st H' := ⟨⟨[], by simp, by simp⟩, fun a o h _ => .of (e a o h), fun a h q => h (by
  cases r : H a with
  | none => rfl
  | some o => rw [e a o r] at q; cases q), fun a o _ h => e a o h, fun n o' _ e l => ⟨o', e, l⟩⟩
theorem SRepF.mono (f : Fw Z L st H L' st' H') : ∀ {ds : List (Str × S)} {vs : List (Str × V)}, SRepF G (Zof Z L st) H L ds vs → SRepF G (Zof Z L' st') H' L' ds vs
  | _, _, .nil => .nil
  | _, _, .cons h t => .cons (h.mono f) (SRepF.mono f t)
theorem OOk.same (e : Same H H') {a : Addr} : ∀ {o : O}, OOk G (Zof Z L st) H L a o → OOk G (Zof Z L st) H' L a o
  | .lst ds, ⟨vs, h, r⟩ => ⟨vs, e _ _ h, r.mono (Fw.same e).keeps⟩
  | .dic ds, .inl ⟨vs, h, r⟩ => .inl ⟨vs, e _ _ h, r.mono (Fw.same e).keeps⟩
  | .dic ds, .inr ⟨vs, h, r⟩ => .inr ⟨vs, e _ _ h, r.mono (Fw.same e).keeps⟩
  | .ins c fs, ⟨C, dx, vfs, hc, h, r⟩ => ⟨C, dx, vfs, hc, e _ _ h, r.mono (Fw.same e)⟩
  | .frz d, h => Rep.mono (Fw.same e).keeps h
  | .dead, _ => trivial
theorem some_of_same (e : Same H H') {a : Addr} (h : H a ≠ none) : H' a ≠ none := (Fw.same (Z := fun _ => False) (L := []) (st := []) e).there a h
theorem StOk.same (e : Same H H') (h : StOk G Z L st H) : StOk G Z L st H' :=
  ⟨h.len, h.nd, fun n a o e1 e2 => (h.obj n a o e1 e2).same e, fun a z => some_of_same e (h.z0 a z), h.zl, fun a m => some_of_same e (h.lh a m)⟩
theorem same_new {H : Hp} {p : Addr} {o : HO} (h : H p = none) : Same H (upd H p o) := fun b x e => by
  rw [upd_ne (ne_of_none e h)]
  exact e
end

/-! ### the judgements -/
structure Stt (G : Wd) (Z : Zone) (ρ : Env) (st : Sto) (L : List Addr) (σ : St) (H : Hp) : Prop where
  ok : StOk G Z L st H
  env : EnvOk G (Zof Z L st) H L ρ σ
section
variable {G : Wd} {Z : Zone} {ρ : Env} {st st' : Sto} {L L' : List Addr} {σ : St} {H H' : Hp}
theorem Stt.to (S : Stt G Z ρ st L σ H) (f : Fw Z L st H L' st' H') (o : StOk G Z L' st' H') : Stt G Z ρ st' L' σ H' := ⟨o, S.env.mono f⟩
end
/-- an exception that leaves -/
def ExP (G : Wd) (Z : Zone) (L : List Addr) (st : Sto) (H : Hp) (c : Str) (fs : List (Str × D)) (st' : Sto) (P : Value → Option Addr → Hp → Prop) : Prop :=
  ∀ H' L' C dd vfs, Fw Z L st H L' st' H' → StOk G Z L' st' H' → G.cls c = some C → H' dd = some (.xd vfs) → RepF G (Zof Z L' st') H' fs vfs → P (.ref C) (some dd) H'
def PostR {α β : Type} (G : Wd) (Z : Zone) (W : WX) (R : Zone → Hp → α → β → Prop) (σ : St) (L : List Addr) (st : Sto) (H : Hp) (r : Res α) (Q : β → Hp → Prop) : Prop := match r with
  | .ok d st' => ∀ v H' L', Fw Z L st H L' st' H' → StOk G Z L' st' H' → R (Zof Z L' st') H' d v → Q v H'
  | .exc c fs st' => ExP G Z L st H c fs st' fun cv dd H' => W cv dd σ H'
  | .stuck => False
abbrev RB : Zone → Hp → Bool → Bool → Prop := fun _ _ a b => a = b
def tM (G : Wd) (W : WX) (f : Den) : TE := fun σ H Q => ∃ Z ρ st L, Stt G Z ρ st L σ H ∧ PostR G Z W (fun Z H => Rep G Z H) σ L st H (f ρ st) Q
def tMB (G : Wd) (W : WX) (f : DenB) : TT := fun σ H Q => ∃ Z ρ st L, Stt G Z ρ st L σ H ∧ PostR G Z W RB σ L st H (f ρ st) Q
def tMA (G : Wd) (W : WX) (f : DenL) : TA := fun σ H Q => ∃ Z ρ st L, Stt G Z ρ st L σ H ∧ PostR G Z W (fun Z H => Reps G Z H) σ L st H (f ρ st) Q
/-- an expression that hands back a new list | dict | .. of its own (C: how its content lies) -/
structure FwN (G : Wd) (Z : Zone) (L : List Addr) (st : Sto) (H : Hp) (L' : List Addr) (st' : Sto) (H' : Hp) (p : Addr) : Prop where
  fr : Fw Z L st H L' st' H'
  ok : StOk G (fun a => Z a ∨ a = p) L' st' H'
  new : H p = none
def tMN (G : Wd) (W : WX) (f : Env → Sto → Res O) : TE := fun σ H Q => ∃ Z ρ st L, Stt G Z ρ st L σ H ∧ (match f ρ st with
  | .ok o st' => ∀ p H' L', FwN G Z L st H L' st' H' p → OOk G (Zof (fun a => Z a ∨ a = p) L' st') H' L' p o → Q (.ref p) H'
  | .exc c fs st' => ExP G Z L st H c fs st' fun cv dd H' => W cv dd σ H'
  | .stuck => False)
def PostS (G : Wd) (Z : Zone) (W : WX) (L : List Addr) (st : Sto) (H : Hp) (r : SRes) (E : Ends) : Prop := match r with
  | .next ρ' st' => ∀ σ' H' L', Fw Z L st H L' st' H' → Stt G Z ρ' st' L' σ' H' → E.nx σ' H'
  | .ret d st' => ∀ v H' L', Fw Z L st H L' st' H' → StOk G Z L' st' H' → Rep G (Zof Z L' st') H' d v → E.rt v H'
  | .brk ρ' st' => ∀ σ' H' L', Fw Z L st H L' st' H' → Stt G Z ρ' st' L' σ' H' → E.bk σ' H'
  | .cont ρ' st' => ∀ σ' H' L', Fw Z L st H L' st' H' → Stt G Z ρ' st' L' σ' H' → E.ct σ' H'
  | .exc c fs ρ' st' => ∀ σ' H' L' C dd vfs, Fw Z L st H L' st' H' → Stt G Z ρ' st' L' σ' H' → G.cls c = some C → H' dd = some (.xd vfs) → RepF G (Zof Z L' st') H' fs vfs → W (.ref C) (some dd) σ' H'
  | .stuck => False
def tMS (G : Wd) (W : WX) (f : SDen) : TS := fun E σ H => ∃ Z ρ st L, Stt G Z ρ st L σ H ∧ PostS G Z W L st H (f ρ st) E
abbrev ME (G : Wd) (W : WX) (X : Cx) (e : Expr) (f : Den) : Prop := PE X e (tM G W f)
abbrev MT (G : Wd) (W : WX) (X : Cx) (e : Expr) (f : DenB) : Prop := PT X e (tMB G W f)
abbrev MW (G : Wd) (W : WX) (X : Cx) (e : Expr) (f : DenB) : Prop := PW X e (tMB G W f)
abbrev MA (G : Wd) (W : WX) (X : Cx) (es : List Expr) (f : DenL) : Prop := PA X es (tMA G W f)
abbrev MN (G : Wd) (W : WX) (X : Cx) (e : Expr) (f : Env → Sto → Res O) : Prop := PE X e (tMN G W f)
abbrev MS (G : Wd) (W : WX) (X : Cx) (s : Stmt) (f : SDen) : Prop := PS X s (tMS G W f)
abbrev MSs (G : Wd) (W : WX) (X : Cx) (s : List Stmt) (f : SDen) : Prop := PSs X s (tMS G W f)
section
variable {X : Cx} {e : Expr} {es : List Expr}
theorem PE.imp {t t' : TE} (h : PE X e t) (i : ∀ σ H Q, t' σ H Q → t σ H Q) : PE X e t' := ⟨fun pins s σ H Q I q => h.run pins s σ H Q I (i σ H Q q)⟩
theorem PT.imp {t t' : TT} (h : PT X e t) (i : ∀ σ H Q, t' σ H Q → t σ H Q) : PT X e t' := ⟨fun pins s σ H Q I q => h.run pins s σ H Q I (i σ H Q q)⟩
theorem PW.imp {t t' : TT} (h : PW X e t) (i : ∀ σ H Q, t' σ H Q → t σ H Q) : PW X e t' := ⟨fun wh pins s σ H Q I q => h.run wh pins s σ H Q I (i σ H Q q)⟩
theorem PA.imp {t t' : TA} (h : PA X es t) (i : ∀ σ H Q, t' σ H Q → t σ H Q) : PA X es t' := ⟨fun pos pins s σ H Q I q => h.run pos pins s σ H Q I (i σ H Q q)⟩
theorem PS.imp {s : Stmt} {t t' : TS} (h : PS X s t) (i : ∀ D σ H, t' D σ H → t D σ H) : PS X s t' := ⟨fun pins sh σ H D I q => h.run pins sh σ H D I (i D σ H q)⟩
theorem PSs.imp {s : List Stmt} {t t' : TS} (h : PSs X s t) (i : ∀ D σ H, t' D σ H → t D σ H) : PSs X s t' := ⟨fun pins sh σ H D I q => h.run pins sh σ H D I (i D σ H q)⟩
end
/-- an exception further on -/
theorem ExP.on {G : Wd} {Z : Zone} {L L' : List Addr} {st st' st2 : Sto} {H H' : Hp} {c : Str} {fs : List (Str × D)} {P : Value → Option Addr → Hp → Prop} (f : Fw Z L st H L' st' H') (h : ExP G Z L st H c fs st2 P) : ExP G Z L' st' H' c fs st2 P :=
  fun H2 L2 C dd vfs g => h H2 L2 C dd vfs (f.trans g)
/-- the step of a sequence: from the first part's end to the whole -/
theorem PostR.bind {α β α' β' : Type} {G : Wd} {Z : Zone} {W : WX} {R : Zone → Hp → α → β → Prop} {R' : Zone → Hp → α' → β' → Prop} {σ : St} {L : List Addr} {st : Sto} {H : Hp} {r : Res α} {k : α → Sto → Res α'} {Q' : β' → Hp → Prop} {Q : β → Hp → Prop}
    (h : PostR G Z W R' σ L st H (r.bind k) Q')
    (hk : ∀ d st1 v H1 L1, r = .ok d st1 → Fw Z L st H L1 st1 H1 → StOk G Z L1 st1 H1 → R (Zof Z L1 st1) H1 d v → PostR G Z W R' σ L1 st1 H1 (k d st1) Q' → Q v H1) : PostR G Z W R σ L st H r Q := by
  cases r with
  | ok d st1 =>
    intro v H1 L1 f o rv
    refine hk d st1 v H1 L1 rfl f o rv ?_
    have h' : PostR G Z W R' σ L st H (k d st1) Q' := h
    revert h'
    cases k d st1 with
    | ok d2 st2 => exact fun h' v2 H2 L2 f2 o2 r2 => h' v2 H2 L2 (f.trans f2) o2 r2
    | exc c fs st2 => exact fun h' => ExP.on (P := fun cv dd H' => W cv dd σ H') f h'
    | stuck => exact fun h' => h'
  | exc c fs st1 => exact h
  | stuck => exact h
end M
namespace M
open PySem PySem.Spec L2

/-! ### views: what may be read, though its container be live -/
inductive View (G : Wd) (Z : Zone) (H : Hp) : D → V → Prop
  | rep {d : D} {v : V} : Rep G Z H d v → View G Z H d v
  | lst {a : Addr} {vs : List V} {ds : List D} : Rd H a (.lst vs) → Reps G Z H ds vs → View G Z H (.lst ds) (.ref a)
  | dK {a : Addr} {kvs : List (Key × V)} {ds : List (D × D)} : Rd H a (.dK kvs) → RepK G Z H ds kvs → View G Z H (.dic ds) (.ref a)
  | dT {a : Addr} {kvs : List (List Key × V)} {ds : List (D × D)} : Rd H a (.dT kvs) → RepT G Z H ds kvs → View G Z H (.dic ds) (.ref a)
def tMV (G : Wd) (W : WX) (f : Den) : TE := fun σ H Q => ∃ Z ρ st L, Stt G Z ρ st L σ H ∧ PostR G Z W (fun Z H => View G Z H) σ L st H (f ρ st) Q
abbrev MV (G : Wd) (W : WX) (X : Cx) (e : Expr) (f : Den) : Prop := PE X e (tMV G W f)
section
variable {G : Wd} {W : WX} {X : Cx} {Z Z' : Zone} {H H' : Hp}
theorem View.tup {ds : List D} {v : V} (h : View G Z H (.tup ds) v) : ∃ a vs, v = .ref a ∧ SqT G.K H a vs ∧ Reps G Z H ds vs := by
  cases h with
  | rep h => cases h with
    | tup r z h => exact ⟨_, _, rfl, .inl r, h⟩
    | tupK r h => exact ⟨_, _, rfl, .inr r, h⟩
theorem View.list {ds : List D} {v : V} (h : View G Z H (.lst ds) v) : ∃ a vs, v = .ref a ∧ Rd H a (.lst vs) ∧ Reps G Z H ds vs := by
  cases h with
  | rep h => cases h with
    | lst r z h => exact ⟨_, _, rfl, r, h⟩
  | lst r h => exact ⟨_, _, rfl, r, h⟩
theorem Rep.tup' {ds : List D} {v : V} (h : Rep G Z H (.tup ds) v) : ∃ a vs, v = .ref a ∧ SqT G.K H a vs ∧ Reps G Z H ds vs := View.tup (.rep h)
theorem Rep.list' {ds : List D} {v : V} (h : Rep G Z H (.lst ds) v) : ∃ a vs, v = .ref a ∧ Rd H a (.lst vs) ∧ Reps G Z H ds vs := View.list (.rep h)
theorem Rep.int' {i : Int} {v : V} (h : Rep G Z H (.int i) v) : v = .int i := by cases h; rfl
theorem Rep.bl' {i : Bool} {v : V} (h : Rep G Z H (.bl i) v) : v = .bl i := by cases h; rfl
theorem Rep.str' {i : Str} {v : V} (h : Rep G Z H (.str i) v) : v = .str i := by cases h; rfl
theorem Rep.non' {v : V} (h : Rep G Z H .non v) : v = .non := by cases h; rfl
theorem View.int' {i : Int} {v : V} (h : View G Z H (.int i) v) : v = .int i := by cases h with | rep h => exact h.int'
theorem View.bl' {i : Bool} {v : V} (h : View G Z H (.bl i) v) : v = .bl i := by cases h with | rep h => exact h.bl'
theorem View.str' {i : Str} {v : V} (h : View G Z H (.str i) v) : v = .str i := by cases h with | rep h => exact h.str'
theorem View.mono (k : Keeps Z Z' H H') (kl : ∀ a u, Rd H a u → Rd H' a u) {d : D} {v : V} (h : View G Z H d v) : View G Z' H' d v := by
  cases h with
  | rep h => exact .rep (h.mono k)
  | lst r h => exact .lst (kl _ _ r) (h.mono k)
  | dK r h => exact .dK (kl _ _ r) (h.mono k)
  | dT r h => exact .dT (kl _ _ r) (h.mono k)
theorem Same.rd (e : Same H H') (a : Addr) (u : HO) (h : Rd H a u) : Rd H' a u := by
  rcases h with h | ⟨o, h⟩
  · exact .inl (e _ _ h)
  · exact .inr ⟨o, e _ _ h⟩
/-- the zone lies within what is tracked -/
def In (Z : Zone) (H : Hp) : Prop := ∀ a, Z a → H a ≠ none
theorem Same.keeps (e : Same H H') : Keeps Z Z H H' := fun a o h z => ⟨.of (e a o h), z⟩
theorem In.same (i : In Z H) (e : Same H H') : In Z H' := fun a z => some_of_same e (i a z)
theorem In.not (i : In Z H) {p : Addr} (h : H p = none) : ¬ Z p := fun z => i p z h
theorem Reps.new {ds : List D} {vs : List V} {p : Addr} {o : HO} (r : Reps G Z H ds vs) (h : H p = none) : Reps G Z (upd H p o) ds vs := r.mono (Same.keeps (same_new h))
theorem new_tup {ds : List D} {vs : List V} {p : Addr} (i : In Z H) (r : Reps G Z H ds vs) (h : H p = none) : Rep G Z (upd H p (.tup vs)) (.tup ds) (.ref p) :=
  .tup (.inl upd_same) (i.not h) (r.new h)
theorem new_lst {ds : List D} {vs : List V} {p : Addr} (i : In Z H) (r : Reps G Z H ds vs) (h : H p = none) : Rep G Z (upd H p (.lst vs)) (.lst ds) (.ref p) :=
  .lst (.inl upd_same) (i.not h) (r.new h)
theorem StOk.inn {L : List Addr} {st : Sto} (S : StOk G Z L st H) : In (Zof Z L st) H := fun a z => by
  rcases z with z | ⟨n, o, e, _, _⟩
  · exact S.z0 a z
  · exact S.lh a (List.mem_of_getElem? e)
end

/-! ### names, constants -/
@[simp] def eC (d : D) : Den := fun _ st => .ok d st
@[simp] def thaw : O → Option D
  | .frz d => some d | .lst ds => some (.lst ds) | .dic kvs => some (.dic kvs) | _ => none
@[simp] def eVar (i : Nat) : Den := fun ρ st => match ρ[i]? with
  | some (some (.p d)) => .ok d st
  | some (some (.r n)) => match (st[n]?).bind thaw with
    | some d => .ok d (st.set n (.frz d))
    | none => .stuck
  | _ => .stuck
/-- a name read within an operation that lets nothing of it go -/
@[simp] def eVarB (i : Nat) : Den := fun ρ st => match ρ[i]? with
  | some (some (.p d)) => .ok d st
  | some (some (.r n)) => match (st[n]?).bind thaw with
    | some d => .ok d st
    | none => .stuck
  | _ => .stuck
section
variable {G : Wd} {W : WX} {X : Cx} {Z Z' : Zone} {H H' : Hp} {L : List Addr} {st : Sto}
theorem PostR.pure {α β : Type} {R : Zone → Hp → α → β → Prop} {σ : St} {d : α} {v : β} {Q : β → Hp → Prop} (S : StOk G Z L st H) (h : PostR G Z W R σ L st H (.ok d st) Q) (r : R (Zof Z L st) H d v) : Q v H :=
  h v H L Fw.refl S r
theorem me_c {e : Expr} {d : D} {v : V} (h : PE X e (tC v)) (r : ∀ Z H, Rep G Z H d v) : ME G W X e (eC d) :=
  PE.imp h fun σ H Q q => by
    obtain ⟨Z, ρ, st, L, S, h⟩ := q
    exact PostR.pure (W := W) (R := fun Z H => Rep G Z H) S.ok h (r _ _)
theorem me_int {i : Int} {j pos} : ME G W X (.Constant (.int i) j pos) (eC (.int i)) := me_c pe_int fun _ _ => .int i
theorem me_bl {b : Bool} {j pos} : ME G W X (.Constant (.bool b) j pos) (eC (.bl b)) := me_c pe_bl fun _ _ => .bl b
theorem me_non {j pos} : ME G W X (.Constant .none j pos) (eC .non) := me_c pe_non fun _ _ => .non
theorem me_str {x : Str} {j pos} : ME G W X (.Constant (.str x) j pos) (eC (.str x)) := me_c pe_str fun _ _ => .str x
theorem OOk.thaw {a : Addr} {o : O} {d : D} (zl : ¬ Z a) (h : OOk G (Zof Z L st) H L a o) (e : M.thaw o = some d) : View G (Zof Z L st) H d (.ref a) := by
  cases o with
  | lst ds =>
    obtain ⟨vs, h1, h2⟩ := h
    cases e
    exact .lst (.inl h1) h2
  | dic ds =>
    cases e
    rcases h with ⟨kvs, h1, h2⟩ | ⟨kvs, h1, h2⟩
    · exact .dK (.inl h1) h2
    · exact .dT (.inl h1) h2
  | frz d =>
    cases e
    exact .rep h
  | ins c fs => cases e
  | dead => cases e
theorem getElem?_set_cases {α : Type} {l : List α} {n m : Nat} {x y : α} (h : (l.set n x)[m]? = some y) : (m = n ∧ y = x ∧ n < l.length) ∨ (m ≠ n ∧ l[m]? = some y) := by
  by_cases e : m = n
  · subst e
    by_cases hl : m < l.length
    · rw [List.getElem?_set_self hl] at h
      exact .inl ⟨rfl, (Option.some.inj h).symm, hl⟩
    · rw [List.getElem?_eq_none (by simpa using hl)] at h
      cases h
  · rw [List.getElem?_set_ne (Ne.symm e)] at h
    exact .inr ⟨e, h⟩
theorem nodup_at {l : List Addr} (nd : l.Nodup) {i j : Nat} {a : Addr} (h : l[i]? = some a) (h' : l[j]? = some a) : i = j := by
  obtain ⟨hi, ei⟩ := List.getElem?_eq_some_iff.mp h
  obtain ⟨hj, ej⟩ := List.getElem?_eq_some_iff.mp h'
  exact (List.getElem_inj (h₀ := hi) (h₁ := hj) nd).mp (by rw [ei, ej])
/-- a store object written at n: the state behind -/
theorem Fw.setN (S : StOk G Z L st H) {n : Nat} {o o' : O} (e : st[n]? = some o) (lv : o'.live = true → o.live = true) : Fw Z L st H L (st.set n o') H :=
  ⟨⟨[], by simp, by simp⟩, fun _ _ h _ => .of h, fun _ h => h, fun _ _ _ h => h, fun m o2 hm e2 l2 => by
    rcases getElem?_set_cases e2 with ⟨rfl, rfl, _⟩ | ⟨_, h⟩
    · exact ⟨o, e, lv l2⟩
    · exact ⟨o2, h, l2⟩⟩
theorem OOk.mono {L' : List Addr} {st' : Sto} (f : Fw Z L st H L' st' H') {a : Addr} (k : H' a = H a) : ∀ {o : O}, OOk G (Zof Z L st) H L a o → OOk G (Zof Z L' st') H' L' a o
  | .lst ds, ⟨vs, h, r⟩ => ⟨vs, k.trans h, r.mono f.keeps⟩
  | .dic ds, .inl ⟨vs, h, r⟩ => .inl ⟨vs, k.trans h, r.mono f.keeps⟩
  | .dic ds, .inr ⟨vs, h, r⟩ => .inr ⟨vs, k.trans h, r.mono f.keeps⟩
  | .ins c fs, ⟨C, dx, vfs, hc, h, r⟩ => ⟨C, dx, vfs, hc, k.trans h, r.mono f⟩
  | .frz d, h => Rep.mono f.keeps h
  | .dead, _ => trivial
theorem StOk.freeze (S : StOk G Z L st H) {n : Nat} {o : O} {d : D} (e : st[n]? = some o) (t : M.thaw o = some d) : StOk G Z L (st.set n (.frz d)) H := by
  have f : Fw Z L st H L (st.set n (.frz d)) H := Fw.setN S e fun z => nomatch z
  refine ⟨by simpa using S.len, S.nd, fun m a o' e1 e2 => ?_, S.z0, S.zl, S.lh⟩
  rcases getElem?_set_cases e2 with ⟨rfl, rfl, hl⟩ | ⟨_, h⟩
  · have ok := S.obj m a o e1 e
    have za : ¬ Zof Z L (st.set m (.frz d)) a := fun z => by
      rcases z with z | ⟨j, u, j1, j2, j3⟩
      · exact S.zl a (List.mem_of_getElem? e1) z
      · have := nodup_at S.nd j1 e1
        subst this
        rw [List.getElem?_set_self hl] at j2
        cases j2
        cases j3
    cases o with
    | lst ds =>
      obtain ⟨vs, h1, h2⟩ := ok
      cases t
      exact .lst (.inl h1) za (h2.mono f.keeps)
    | dic ds =>
      cases t
      rcases ok with ⟨kvs, h1, h2⟩ | ⟨kvs, h1, h2⟩
      · exact .dK (.inl h1) za (h2.mono f.keeps)
      · exact .dT (.inl h1) za (h2.mono f.keeps)
    | frz d' =>
      cases t
      exact Rep.mono f.keeps ok
    | ins c fs => cases t
    | dead => cases t
  · exact (S.obj m a o' e1 h).mono f rfl
theorem me_var (i : Nat) {x : Str} {pos : Pos} (h : PE X (.Name x pos) (tVar i)) : ME G W X (.Name x pos) (eVar i) :=
  PE.imp h fun σ H Q q => by
    obtain ⟨Z, ρ, st, L, S, h⟩ := q
    unfold eVar at h
    split at h
    · rename_i d e
      obtain ⟨v, ev, r⟩ := S.env.2 i _ e
      cases r with
      | p r => exact ⟨v, ev, PostR.pure (W := W) (R := fun Z H => Rep G Z H) S.ok h r⟩
    · rename_i n e
      obtain ⟨v, ev, r⟩ := S.env.2 i _ e
      cases r with
      | r r =>
        rename_i a
        split at h
        · rename_i d ed
          obtain ⟨o, eo, et⟩ := Option.bind_eq_some_iff.mp ed
          have f : Fw Z L st H L (st.set n (.frz d)) H := Fw.setN S.ok eo fun z => nomatch z
          have S2 := S.ok.freeze eo et
          refine ⟨_, ev, h _ H L f S2 ?_⟩
          exact S2.obj n a (.frz d) r (List.getElem?_set_self (List.getElem?_eq_some_iff.mp eo).1)
        · exact h.elim
    · exact h.elim
theorem mv_var (i : Nat) {x : Str} {pos : Pos} (h : PE X (.Name x pos) (tVar i)) : MV G W X (.Name x pos) (eVarB i) :=
  PE.imp h fun σ H Q q => by
    obtain ⟨Z, ρ, st, L, S, h⟩ := q
    unfold eVarB at h
    split at h
    · rename_i d e
      obtain ⟨v, ev, r⟩ := S.env.2 i _ e
      cases r with
      | p r => exact ⟨v, ev, PostR.pure (W := W) (R := fun Z H => View G Z H) S.ok h (.rep r)⟩
    · rename_i n e
      obtain ⟨v, ev, r⟩ := S.env.2 i _ e
      cases r with
      | r r =>
        rename_i a
        split at h
        · rename_i d ed
          obtain ⟨o, eo, et⟩ := Option.bind_eq_some_iff.mp ed
          exact ⟨_, ev, PostR.pure (W := W) (R := fun Z H => View G Z H) S.ok h ((S.ok.obj n a o r eo).thaw (S.ok.zl a (List.mem_of_getElem? r)) et)⟩
        · exact h.elim
    · exact h.elim
theorem mv_of {e : Expr} {f : Den} (h : ME G W X e f) : MV G W X e f :=
  PE.imp h fun σ H Q q => by
    obtain ⟨Z, ρ, st, L, S, h⟩ := q
    refine ⟨Z, ρ, st, L, S, ?_⟩
    cases e : f ρ st with
    | ok d st' =>
      rw [e] at h
      exact fun v H' L' f o r => h v H' L' f o (.rep r)
    | exc c fs st' => rw [e] at h; exact h
    | stuck => rw [e] at h; exact h
end

/-! ### operations by values -/
@[simp] def eOp1 (g : D → Option D) (f : Den) : Den := fun ρ st => (f ρ st).bind fun d st => match g d with | some z => .ok z st | none => .stuck
@[simp] def eOp2 (g : D → D → Option D) (f h : Den) : Den := fun ρ st => (f ρ st).bind fun d st => (h ρ st).bind fun e st => match g d e with | some z => .ok z st | none => .stuck
/-- what an operation's reading r asks is had from g -/
def Sim1 (G : Wd) (g : D → Option D) (r : V → Hp → VK → Prop) : Prop := ∀ Z H d x z Q, In Z H → View G Z H d x → g d = some z → (∀ v H', Same H H' → Rep G Z H' z v → Q v H') → r x H Q
def Sim2 (G : Wd) (g : D → D → Option D) (r : R2) : Prop := ∀ Z H d e x y z Q, In Z H → View G Z H d x → View G Z H e y → g d e = some z → (∀ v H', Same H H' → Rep G Z H' z v → Q v H') → r x y H Q
section
variable {G : Wd} {W : WX} {X : Cx}
theorem me_un {op : UnaryOp} {r : V → Hp → VK → Prop} {a : Expr} {f : Den} {pos : Pos} {g : D → Option D} (ho : UnR X (unaryOp op) r) (s : Sim1 G g r) (ha : MV G W X a f) : ME G W X (.UnaryOp op a pos) (eOp1 g f) :=
  PE.imp (pe_un ho ha) fun σ H Q q => by
    obtain ⟨Z, ρ, st, L, S, h⟩ := q
    refine ⟨Z, ρ, st, L, S, PostR.bind h fun d st1 v H1 L1 e f1 o1 r1 h1 => ?_⟩
    split at h1
    · rename_i z ez
      exact s _ _ _ _ z _ o1.inn r1 ez fun v' H' e' r' => h1 v' H' L1 (Fw.same e') (o1.same e') r'
    · exact h1.elim
/-- two parts, then what they give -/
theorem two {f h : Den} {g : D → D → Option D} {r : R2} (s : Sim2 G g r) {σ : St} {H : Hp} {Q : VK} (q : tM G W (eOp2 g f h) σ H Q) : tM G W f σ H fun x H1 => tMV G W h σ H1 fun y H2 => r x y H2 Q := by
  obtain ⟨Z, ρ, st, L, S, q⟩ := q
  refine ⟨Z, ρ, st, L, S, PostR.bind q fun d st1 x H1 L1 e f1 o1 r1 q1 => ?_⟩
  refine ⟨Z, ρ, st1, L1, S.to f1 o1, PostR.bind q1 fun d2 st2 y H2 L2 e2 f2 o2 r2 q2 => ?_⟩
  split at q2
  · rename_i z ez
    exact s _ _ _ _ _ _ z _ o2.inn (.rep (r1.mono f2.keeps)) r2 ez fun v' H' e' r' => q2 v' H' L2 (Fw.same e') (o2.same e') r'
  · exact q2.elim
/-- .. the first a name whose content is looked at last -/
@[simp] def eOp2P (g : D → D → Option D) (i : Nat) (h : Den) : Den := fun ρ st => (eVarB i ρ st).bind fun _ st => (h ρ st).bind fun e st => (eVarB i ρ st).bind fun d st => match g d e with | some z => .ok z st | none => .stuck
theorem varB {Z : Zone} {ρ : Env} {st : Sto} {L : List Addr} {σ : St} {H : Hp} (S : Stt G Z ρ st L σ H) {i : Nat} {d : D} {st' : Sto} (e : eVarB i ρ st = .ok d st') : st' = st ∧ ∃ v, σ[i]? = some (some v) ∧ View G (Zof Z L st) H d v := by
  unfold eVarB at e
  split at e
  · rename_i d' ed
    obtain ⟨v, ev, r⟩ := S.env.2 i _ ed
    cases e
    cases r with
    | p r => exact ⟨rfl, v, ev, .rep r⟩
  · rename_i n ed
    obtain ⟨v, ev, r⟩ := S.env.2 i _ ed
    cases r with
    | r r =>
      rename_i a
      split at e
      · rename_i d' et
        cases e
        obtain ⟨o, eo, et⟩ := Option.bind_eq_some_iff.mp et
        exact ⟨rfl, _, ev, (S.ok.obj n a o r eo).thaw (S.ok.zl a (List.mem_of_getElem? r)) et⟩
      · cases e
  · cases e
theorem varB_exc {ρ : Env} {st : Sto} {i : Nat} {c : Str} {fs : List (Str × D)} {st' : Sto} (e : eVarB i ρ st = .exc c fs st') : False := by
  unfold eVarB at e
  split at e
  · cases e
  · split at e <;> cases e
  · cases e
theorem two_p {h : Den} {i : Nat} {g : D → D → Option D} {r : R2} (s : Sim2 G g r) {σ : St} {H : Hp} {Q : VK} (q : tM G W (eOp2P g i h) σ H Q) : tVar i σ H fun x H1 => tMV G W h σ H1 fun y H2 => r x y H2 Q := by
  obtain ⟨Z, ρ, st, L, S, q⟩ := q
  unfold eOp2P at q
  cases e0 : eVarB i ρ st with
  | stuck => rw [e0] at q; exact q.elim
  | exc c fs st3 => exact (varB_exc e0).elim
  | ok d0 st0 =>
    rw [e0] at q
    obtain ⟨rfl, v, ev, w⟩ := varB S e0
    refine ⟨v, ev, Z, ρ, _, L, S, PostR.bind q fun d2 st2 y H2 L2 e2 f2 o2 r2 q2 => ?_⟩
    cases e1 : eVarB i ρ st2 with
    | stuck => rw [e1] at q2; exact q2.elim
    | exc c fs st3 => exact (varB_exc e1).elim
    | ok d st3 =>
      rw [e1] at q2
      obtain ⟨rfl, v', ev', w⟩ := varB (S.to f2 o2) e1
      rw [ev] at ev'
      cases ev'
      have q2 : PostR G Z W (fun Z H => Rep G Z H) σ L2 _ H2 (match g d d2 with | some z => Res.ok z _ | none => .stuck) Q := q2
      split at q2
      · rename_i z ez
        exact s _ _ _ _ _ _ z _ o2.inn w r2 ez fun v' H' e' r' => q2 v' H' L2 (Fw.same e') (o2.same e') r'
      · exact q2.elim
theorem me_bin {op : Operator} {r : R2} {a b : Expr} {f h : Den} {pos : Pos} {g : D → D → Option D} (ho : OpR X (binaryOp op) r) (s : Sim2 G g r) (ha : ME G W X a f) (hb : MV G W X b h) : ME G W X (.BinOp a op b pos) (eOp2 g f h) :=
  PE.imp (pe_op ho ha hb) fun σ H Q q => two s q
theorem me_cmp {op : CmpOp} {r : R2} {a b : Expr} {f h : Den} {pos : Pos} {g : D → D → Option D} (ho : OpR X (compareOp op) r) (s : Sim2 G g r) (ha : ME G W X a f) (hb : MV G W X b h) (hm : behindInMarks op b = false) : ME G W X (.Compare a [op] [b] pos) (eOp2 g f h) :=
  PE.imp (pe_cmpR ho ha hb hm) fun σ H Q q => two s q
theorem me_cmpP {op : CmpOp} {r : R2} {x : Str} {i : Nat} {b : Expr} {h : Den} {pos p : Pos} {g : D → D → Option D} (ho : OpR X (compareOp op) r) (s : Sim2 G g r) (ha : PE X (.Name x p) (tVar i)) (hb : MV G W X b h) (hm : behindInMarks op b = false) : ME G W X (.Compare (.Name x p) [op] [b] pos) (eOp2P g i h) :=
  PE.imp (pe_cmpR ho ha hb hm) fun σ H Q q => two_p s q
theorem me_ix {r : R2} {a b : Expr} {f h : Den} {pos : Pos} {g : D → D → Option D} (ho : IxR X r) (s : Sim2 G g r) (ha : ME G W X a f) (hb : MV G W X b h) (hs : PlainIx b) : ME G W X (.Subscript a b pos) (eOp2 g f h) :=
  PE.imp (pe_ix ho ha hb hs) fun σ H Q q => two s q
theorem me_ixP {r : R2} {x : Str} {i : Nat} {b : Expr} {h : Den} {pos p : Pos} {g : D → D → Option D} (ho : IxR X r) (s : Sim2 G g r) (ha : PE X (.Name x p) (tVar i)) (hb : MV G W X b h) (hs : PlainIx b) : ME G W X (.Subscript (.Name x p) b pos) (eOp2P g i h) :=
  PE.imp (pe_ix ho ha hb hs) fun σ H Q q => two_p s q
end

/-! ### tests -/
@[simp] def eB (f : Den) : DenB := fun ρ st => (f ρ st).bind fun d st => match d with | .bl b => .ok b st | _ => .stuck
@[simp] def eAnd (f h : DenB) : DenB := fun ρ st => (f ρ st).bind fun b st => if b = true then h ρ st else .ok false st
@[simp] def eOr (f h : DenB) : DenB := fun ρ st => (f ρ st).bind fun b st => if b = true then .ok true st else h ρ st
@[simp] def eNot (f : DenB) : DenB := fun ρ st => (f ρ st).bind fun b st => .ok (!b) st
@[simp] def eBV (f : DenB) : Den := fun ρ st => (f ρ st).bind fun b st => .ok (.bl b) st
@[simp] def eIf {α : Type} (c : DenB) (f h : Env → Sto → Res α) : Env → Sto → Res α := fun ρ st => (c ρ st).bind fun b st => if b = true then f ρ st else h ρ st
section
variable {G : Wd} {W : WX} {X : Cx}
theorem toB {f : Den} {σ : St} {H : Hp} {Q : Bool → Hp → Prop} (q : tMB G W (eB f) σ H Q) : tM G W f σ H fun x H' => ∃ k, x = .bl k ∧ Q k H' := by
  obtain ⟨Z, ρ, st, L, S, q⟩ := q
  refine ⟨Z, ρ, st, L, S, PostR.bind q fun d st1 x H1 L1 e f1 o1 r1 q1 => ?_⟩
  split at q1
  · rename_i b
    exact ⟨b, r1.bl', PostR.pure (W := W) (R := RB) o1 q1 rfl⟩
  · exact q1.elim
theorem mt_val {e : Expr} {f : Den} (h : ME G W X e f) (he : ∀ whole, isTrue e X.env whole = (do let v ← whole; standAt e.pos; holding [v] (truthy v)) := by intro _; rfl) : MT G W X e (eB f) :=
  PT.imp (pt_val h he) fun σ H Q q => by
    obtain ⟨Z, ρ, st, L, S, r⟩ := toB q
    exact ⟨Z, ρ, st, L, S, r⟩
theorem mt_cmp {op : CmpOp} {r : R2} {a b : Expr} {f h : Den} {pos : Pos} {g : D → D → Option D} (ho : OpR X (compareOp op) r) (s : Sim2 G g r) (ha : ME G W X a f) (hb : MV G W X b h) (hm : behindInMarks op b = false) : MT G W X (.Compare a [op] [b] pos) (eB (eOp2 g f h)) :=
  PT.imp (pt_cmpR ho ha hb hm) fun σ H Q q => two s (toB q)
theorem mt_cmpP {op : CmpOp} {r : R2} {x : Str} {i : Nat} {b : Expr} {h : Den} {pos p : Pos} {g : D → D → Option D} (ho : OpR X (compareOp op) r) (s : Sim2 G g r) (ha : PE X (.Name x p) (tVar i)) (hb : MV G W X b h) (hm : behindInMarks op b = false) : MT G W X (.Compare (.Name x p) [op] [b] pos) (eB (eOp2P g i h)) :=
  PT.imp (pt_cmpR ho ha hb hm) fun σ H Q q => two_p s (toB q)
theorem mt_not {a : Expr} {pos : Pos} {f : DenB} (h : MT G W X a f) : MT G W X (.UnaryOp .Not a pos) (eNot f) :=
  PT.imp (pt_not h) fun σ H Q q => by
    obtain ⟨Z, ρ, st, L, S, q⟩ := q
    refine ⟨Z, ρ, st, L, S, PostR.bind q fun d st1 x H1 L1 e f1 o1 r1 q1 => ?_⟩
    subst r1
    exact PostR.pure (W := W) (R := RB) o1 q1 rfl
theorem mw_and1 {a : Expr} {pos : Pos} {f : DenB} (h : MT G W X a f) : MW G W X (.BoolOp .And [a] pos) f := pw_and1 h
theorem mw_or1 {a : Expr} {pos : Pos} {f : DenB} (h : MT G W X a f) : MW G W X (.BoolOp .Or [a] pos) f := pw_or1 h
theorem mw_and {a b : Expr} {rest : List Expr} {pos : Pos} {f h : DenB} (ha : MT G W X a f) (hb : MW G W X (.BoolOp .And (b :: rest) pos) h) : MW G W X (.BoolOp .And (a :: b :: rest) pos) (eAnd f h) :=
  PW.imp (pw_and ha hb) fun σ H Q q => by
    obtain ⟨Z, ρ, st, L, S, q⟩ := q
    refine ⟨Z, ρ, st, L, S, PostR.bind q fun d st1 x H1 L1 e f1 o1 r1 q1 => ?_⟩
    subst r1
    cases d with
    | true => exact ⟨Z, ρ, st1, L1, S.to f1 o1, q1⟩
    | false => exact PostR.pure (W := W) (R := RB) o1 q1 rfl
theorem mw_or {a b : Expr} {rest : List Expr} {pos : Pos} {f h : DenB} (ha : MT G W X a f) (hb : MW G W X (.BoolOp .Or (b :: rest) pos) h) : MW G W X (.BoolOp .Or (a :: b :: rest) pos) (eOr f h) :=
  PW.imp (pw_or ha hb) fun σ H Q q => by
    obtain ⟨Z, ρ, st, L, S, q⟩ := q
    refine ⟨Z, ρ, st, L, S, PostR.bind q fun d st1 x H1 L1 e f1 o1 r1 q1 => ?_⟩
    subst r1
    cases d with
    | true => exact PostR.pure (W := W) (R := RB) o1 q1 rfl
    | false => exact ⟨Z, ρ, st1, L1, S.to f1 o1, q1⟩
theorem mt_w {e : Expr} {f : DenB} (h : MW G W X e f) : MT G W X e f := h.pt
/-- .. as values -/
theorem fromB {f : DenB} {σ : St} {H : Hp} {Q : VK} (q : tM G W (eBV f) σ H Q) : tMB G W f σ H fun b H' => Q (.bl b) H' := by
  obtain ⟨Z, ρ, st, L, S, q⟩ := q
  refine ⟨Z, ρ, st, L, S, PostR.bind q fun d st1 x H1 L1 e f1 o1 r1 q1 => ?_⟩
  subst r1
  exact PostR.pure (W := W) (R := fun Z H => Rep G Z H) o1 q1 (.bl _)
/-- a and b, a or b, not a as values: the parts bools -/
@[simp] def eAndV (f h : Den) : Den := fun ρ st => (f ρ st).bind fun d st => match d with | .bl b => (if b = true then h ρ st else .ok (.bl false) st) | _ => .stuck
@[simp] def eOrV (f h : Den) : Den := fun ρ st => (f ρ st).bind fun d st => match d with | .bl b => (if b = true then .ok (.bl true) st else h ρ st) | _ => .stuck
@[simp] def eNotV (f : Den) : Den := fun ρ st => (f ρ st).bind fun d st => match d with | .bl b => .ok (.bl (!b)) st | _ => .stuck
abbrev RD (G : Wd) : Zone → Hp → D → V → Prop := fun Z H => Rep G Z H
theorem me_one {a : Expr} {op} {pos : Pos} {f : Den} (h : ME G W X a f) : ME G W X (.BoolOp op [a] pos) f := pe_one h
theorem me_and {a b : Expr} {rest : List Expr} {pos : Pos} {f h : Den} (ha : ME G W X a f) (hb : ME G W X (.BoolOp .And (b :: rest) pos) h) : ME G W X (.BoolOp .And (a :: b :: rest) pos) (eAndV f h) :=
  PE.imp (pe_and ha hb) fun σ H Q q => by
    obtain ⟨Z, ρ, st, L, S, q⟩ := q
    refine ⟨Z, ρ, st, L, S, PostR.bind q fun d st1 x H1 L1 e f1 o1 r1 q1 => ?_⟩
    cases d with
    | bl b =>
      refine ⟨b, r1.bl', ?_⟩
      cases b with
      | true => exact ⟨Z, ρ, st1, L1, S.to f1 o1, q1⟩
      | false => exact PostR.pure (W := W) (R := RD G) o1 q1 (.bl _)
    | _ => exact q1.elim
theorem me_or {a b : Expr} {rest : List Expr} {pos : Pos} {f h : Den} (ha : ME G W X a f) (hb : ME G W X (.BoolOp .Or (b :: rest) pos) h) : ME G W X (.BoolOp .Or (a :: b :: rest) pos) (eOrV f h) :=
  PE.imp (pe_or ha hb) fun σ H Q q => by
    obtain ⟨Z, ρ, st, L, S, q⟩ := q
    refine ⟨Z, ρ, st, L, S, PostR.bind q fun d st1 x H1 L1 e f1 o1 r1 q1 => ?_⟩
    cases d with
    | bl b =>
      refine ⟨b, r1.bl', ?_⟩
      cases b with
      | true => exact PostR.pure (W := W) (R := RD G) o1 q1 (.bl _)
      | false => exact ⟨Z, ρ, st1, L1, S.to f1 o1, q1⟩
    | _ => exact q1.elim
theorem me_not {a : Expr} {pos : Pos} {f : Den} (ha : ME G W X a f) : ME G W X (.UnaryOp .Not a pos) (eNotV f) :=
  PE.imp (pe_not ha) fun σ H Q q => by
    obtain ⟨Z, ρ, st, L, S, q⟩ := q
    refine ⟨Z, ρ, st, L, S, PostR.bind q fun d st1 x H1 L1 e f1 o1 r1 q1 => ?_⟩
    cases d with
    | bl b => exact ⟨b, r1.bl', PostR.pure (W := W) (R := RD G) o1 q1 (.bl _)⟩
    | _ => exact q1.elim
theorem me_if {c a b : Expr} {pos : Pos} {fc : DenB} {f h : Den} (hc : MT G W X c fc) (ha : ME G W X a f) (hb : ME G W X b h) : ME G W X (.IfExp c a b pos) (eIf fc f h) :=
  PE.imp (pe_ifExp hc ha hb) fun σ H Q q => by
    obtain ⟨Z, ρ, st, L, S, q⟩ := q
    refine ⟨Z, ρ, st, L, S, PostR.bind q fun d st1 x H1 L1 e f1 o1 r1 q1 => ?_⟩
    subst r1
    cases d with
    | true => exact ⟨Z, ρ, st1, L1, S.to f1 o1, q1⟩
    | false => exact ⟨Z, ρ, st1, L1, S.to f1 o1, q1⟩
/-- a < b < c -/
@[simp] def eChain (g1 g2 : D → D → Option D) (f h k : Den) : Den := fun ρ st => (f ρ st).bind fun d st => (h ρ st).bind fun e st => match g1 d e with
  | some (.bl b) => if b = true then (k ρ st).bind fun c st => (match g2 e c with | some z => .ok z st | none => .stuck) else .ok (.bl false) st
  | _ => .stuck
theorem chain {g1 g2 : D → D → Option D} {f h k : Den} {r r' : R2} (s1 : Sim2 G g1 r) (s2 : Sim2 G g2 r') {σ : St} {H : Hp} {Q : VK} (q : tM G W (eChain g1 g2 f h k) σ H Q) : tChain r r' (tM G W f) (tM G W h) (tM G W k) σ H Q := by
  obtain ⟨Z, ρ, st, L, S, q⟩ := q
  refine ⟨Z, ρ, st, L, S, PostR.bind q fun d st1 x H1 L1 e f1 o1 r1 q1 => ?_⟩
  refine ⟨Z, ρ, st1, L1, S.to f1 o1, PostR.bind q1 fun d2 st2 y H2 L2 e2 f2 o2 r2 q2 => ?_⟩
  split at q2
  · rename_i b eb
    refine s1 _ _ _ _ _ _ _ _ o2.inn (.rep (r1.mono f2.keeps)) (.rep r2) eb fun v H3 e3 r3 => ⟨b, r3.bl', ?_⟩
    have f3 : Fw Z L2 st2 H2 L2 st2 H3 := Fw.same e3
    have o3 := o2.same e3
    cases b with
    | false => exact q2 _ _ L2 f3 o3 (.bl _)
    | true =>
      refine ⟨Z, ρ, st2, L2, (S.to (f1.trans (f2.trans f3)) o3), PostR.bind (Q' := Q) (Z := Z) (W := W) (R' := RD G) (k := fun c st => (match g2 d2 c with | some z => .ok z st | none => .stuck)) ?_ fun d4 st4 w' H4 L4 e4 f4 o4 r4 q4 => ?_⟩
      · have q2' : PostR G Z W (RD G) σ L2 st2 H2 ((k ρ st2).bind fun c st => (match g2 d2 c with | some z => .ok z st | none => .stuck)) Q := q2
        revert q2'
        cases ((k ρ st2).bind fun c st => (match g2 d2 c with | some z => .ok z st | none => .stuck) : Res D) with
        | ok d st5 => exact fun q v' H' L' f' => q v' H' L' (f3.trans f')
        | exc c fs st5 => exact fun q => ExP.on (P := fun cv dd H' => W cv dd σ H') f3 q
        | stuck => exact fun q => q
      · split at q4
        · rename_i z ez
          exact s2 _ _ _ _ _ _ z _ o4.inn (.rep (r2.mono (f3.trans f4).keeps)) (.rep r4) ez fun v' H' e' r' => q4 v' H' L4 (Fw.same e') (o4.same e') r'
        · exact q4.elim
  · exact q2.elim
theorem me_chain {op op' : CmpOp} {r r' : R2} {a b c : Expr} {f h k : Den} {pos : Pos} {g1 g2 : D → D → Option D} (ho : OpR X (compareOp op) r) (ho' : OpR X (compareOp op') r') (s1 : Sim2 G g1 r) (s2 : Sim2 G g2 r') (ha : ME G W X a f) (hb : ME G W X b h) (hc : ME G W X c k)
    (hm : lastMarks [op, op'] [b, c] = false := by with_unfolding_all rfl) : ME G W X (.Compare a [op, op'] [b, c] pos) (eChain g1 g2 f h k) :=
  PE.imp (pe_chain ho ho' ha hb hc hm) fun σ H Q q => chain s1 s2 q
theorem mt_chain {op op' : CmpOp} {r r' : R2} {a b c : Expr} {f h k : Den} {pos : Pos} {g1 g2 : D → D → Option D} (ho : OpR X (compareOp op) r) (ho' : OpR X (compareOp op') r') (s1 : Sim2 G g1 r) (s2 : Sim2 G g2 r') (ha : ME G W X a f) (hb : ME G W X b h) (hc : ME G W X c k)
    (hm : lastMarks [op, op'] [b, c] = false := by with_unfolding_all rfl) : MT G W X (.Compare a [op, op'] [b, c] pos) (eB (eChain g1 g2 f h k)) :=
  PT.imp (pt_chain ho ho' ha hb hc hm) fun σ H Q q => chain s1 s2 (toB q)
end

/-! ### argument lists, displays, calls of built-ins -/
@[simp] def eNil : DenL := fun _ st => .ok [] st
@[simp] def eCons (f : Den) (h : DenL) : DenL := fun ρ st => (f ρ st).bind fun d st => (h ρ st).bind fun ds st => .ok (d :: ds) st
@[simp] noncomputable def eTup (f : DenL) : Den := fun ρ st => (f ρ st).bind fun ds st => if ds.length ≤ sizeLine then .ok (.tup ds) st else .stuck
@[simp] noncomputable def eLst (f : DenL) : Den := fun ρ st => (f ρ st).bind fun ds st => if ds.length ≤ sizeLine then .ok (.lst ds) st else .stuck
@[simp] def eOpN (g : List D → Option D) (f : DenL) : Den := fun ρ st => (f ρ st).bind fun ds st => match g ds with | some z => .ok z st | none => .stuck
def SimN (G : Wd) (g : List D → Option D) (r : List V → Hp → VK → Prop) : Prop := ∀ Z H ds xs z Q, In Z H → Reps G Z H ds xs → g ds = some z → (∀ v H', Same H H' → Rep G Z H' z v → Q v H') → r xs H Q
/-- one argument, its container perhaps live -/
def SimC (G : Wd) (g : D → Option D) (r : List V → Hp → VK → Prop) : Prop := ∀ Z H d x z Q, In Z H → View G Z H d x → g d = some z → (∀ v H', Same H H' → Rep G Z H' z v → Q v H') → r [x] H Q
section
variable {G : Wd} {W : WX} {X : Cx} {e : Expr} {es : List Expr} {pos p : Pos}
abbrev RDs (G : Wd) : Zone → Hp → List D → List V → Prop := fun Z H => Reps G Z H
theorem ma_nil : MA G W X [] eNil := PA.imp pa_nil fun σ H Q q => by
  obtain ⟨Z, ρ, st, L, S, q⟩ := q
  exact PostR.pure (W := W) (R := RDs G) S.ok q .nil
theorem ma_cons {f : Den} {h : DenL} (ha : ME G W X e f) (hr : MA G W X es h) (hs : starEach (e :: es) X.env = (false, eval e X.env) :: starEach es X.env := by rfl) : MA G W X (e :: es) (eCons f h) := PA.imp (pa_cons ha hr hs) fun σ H Q q => by
  obtain ⟨Z, ρ, st, L, S, q⟩ := q
  refine ⟨Z, ρ, st, L, S, PostR.bind q fun d st1 x H1 L1 e f1 o1 r1 q1 => ?_⟩
  refine ⟨Z, ρ, st1, L1, S.to f1 o1, PostR.bind q1 fun d2 st2 y H2 L2 e2 f2 o2 r2 q2 => ?_⟩
  exact PostR.pure (W := W) (R := RDs G) o2 q2 (.cons (r1.mono f2.keeps) r2)
theorem me_tup {f : DenL} {k : Nat} (h : MA G W X es f) : ME G W X (.Tuple es k pos) (eTup f) := PE.imp (pe_tup h) fun σ H Q q => by
  obtain ⟨Z, ρ, st, L, S, q⟩ := q
  refine ⟨Z, ρ, st, L, S, PostR.bind q fun d st1 x H1 L1 e f1 o1 r1 q1 => ?_⟩
  split at q1
  · rename_i hz
    exact ⟨by rw [← r1.length]; exact hz, fun p hp => q1 _ _ L1 (Fw.same (same_new hp)) (o1.same (same_new hp)) (new_tup o1.inn r1 hp)⟩
  · exact q1.elim
theorem me_lst {f : DenL} (h : MA G W X es f) : ME G W X (.List es pos) (eLst f) := PE.imp (pe_lst h) fun σ H Q q => by
  obtain ⟨Z, ρ, st, L, S, q⟩ := q
  refine ⟨Z, ρ, st, L, S, PostR.bind q fun d st1 x H1 L1 e f1 o1 r1 q1 => ?_⟩
  split at q1
  · rename_i hz
    exact ⟨by rw [← r1.length]; exact hz, fun p hp => q1 _ _ L1 (Fw.same (same_new hp)) (o1.same (same_new hp)) (new_lst o1.inn r1 hp)⟩
  · exact q1.elim
theorem argsN {g : List D → Option D} {r : List V → Hp → VK → Prop} {f : DenL} (s : SimN G g r) {σ : St} {H : Hp} {Q : VK} (q : tM G W (eOpN g f) σ H Q) : tMA G W f σ H fun xs H1 => r xs H1 Q := by
  obtain ⟨Z, ρ, st, L, S, q⟩ := q
  refine ⟨Z, ρ, st, L, S, PostR.bind q fun d st1 x H1 L1 e f1 o1 r1 q1 => ?_⟩
  split at q1
  · rename_i z ez
    exact s _ _ _ _ z _ o1.inn r1 ez fun v' H' e' r' => q1 v' H' L1 (Fw.same e') (o1.same e') r'
  · exact q1.elim
theorem argC {g : D → Option D} {r : List V → Hp → VK → Prop} {f : Den} (s : SimC G g r) {σ : St} {H : Hp} {Q : VK} (q : tM G W (eOp1 g f) σ H Q) : tCons (tMV G W f) tNil σ H fun xs H1 => r xs H1 Q := by
  obtain ⟨Z, ρ, st, L, S, q⟩ := q
  refine ⟨Z, ρ, st, L, S, PostR.bind q fun d st1 x H1 L1 e f1 o1 r1 q1 => ?_⟩
  split at q1
  · rename_i z ez
    exact s _ _ _ _ z _ o1.inn r1 ez fun v' H' e' r' => q1 v' H' L1 (Fw.same e') (o1.same e') r'
  · exact q1.elim
end
end M
namespace M
open PySem PySem.Spec L2

/-! ### data as PyData, for == -/
mutual
def D.py : D → PyData
  | .non => .none | .bl b => .bool b | .int i => .int i | .str x => .str x
  | .tup xs => .tuple (D.pys xs) | .lst xs => .list (D.pys xs) | _ => .none
def D.pys : List D → List PyData
  | [] => [] | x :: xs => D.py x :: D.pys xs
end
mutual
/-- nothing but None, dBools, dInts, texts, tuples, lists, nested at most so deep -/
def D.flat : Nat → D → Bool
  | _, .non => true | _, .bl _ => true | _, .int _ => true | _, .str x => PyData.strOk x
  | n + 1, .tup xs => D.flats n xs | n + 1, .lst xs => D.flats n xs
  | _, _ => false
def D.flats : Nat → List D → Bool
  | _, [] => true | n, x :: xs => D.flat n x && D.flats n xs
end
def D.eqv (d e : D) : Bool := PyData.eqv d.py e.py
section
variable {G : Wd} {Z : Zone} {H : Hp}
mutual
theorem Rep.dp {H : Hp} : ∀ {n : Nat} {d : D} {v : V}, Rep G Z H d v → D.flat n d = true → Dp G.K H v d.py
  | _, _, _, .non, _ => by unfold D.py; exact .non
  | _, _, _, .bl b, _ => by unfold D.py; exact .bl b
  | _, _, _, .int i, _ => by unfold D.py; exact .int i
  | _, _, _, .str x, _ => by unfold D.py; exact .str x
  | n + 1, _, _, .tup r z h, f => by unfold D.py; exact .tup (.inl r) (Reps.dp h (by unfold D.flat at f; exact f))
  | n + 1, _, _, .tupK r h, f => by unfold D.py; exact .tup (.inr r) (Reps.dp h (by unfold D.flat at f; exact f))
  | n + 1, _, _, .lst r z h, f => by unfold D.py; exact .lst (.inl r) (Reps.dp h (by unfold D.flat at f; exact f))
  | 0, _, _, .tup r z h, f => by simp [D.flat] at f
  | 0, _, _, .tupK r h, f => by simp [D.flat] at f
  | 0, _, _, .lst r z h, f => by simp [D.flat] at f
  | 0, _, _, .dK r z h, f => by simp [D.flat] at f
  | n + 1, _, _, .dK r z h, f => by simp [D.flat] at f
  | 0, _, _, .dT r z h, f => by simp [D.flat] at f
  | n + 1, _, _, .dT r z h, f => by simp [D.flat] at f
  | 0, _, _, .ins e z c h, f => by simp [D.flat] at f
  | n + 1, _, _, .ins e z c h, f => by simp [D.flat] at f
  | 0, _, _, .fn e, f => by simp [D.flat] at f
  | n + 1, _, _, .fn e, f => by simp [D.flat] at f
  | 0, _, _, .scr _ _, f => by simp [D.flat] at f
  | n + 1, _, _, .scr _ _, f => by simp [D.flat] at f
  | 0, _, _, .scrK _, f => by simp [D.flat] at f
  | n + 1, _, _, .scrK _, f => by simp [D.flat] at f
theorem Reps.dp {H : Hp} : ∀ {n : Nat} {d : List D} {v : List V}, Reps G Z H d v → D.flats n d = true → DpAll G.K H v (D.pys d)
  | _, _, _, .nil, _ => by unfold D.pys; exact .nil
  | n, _, _, .cons h t, f => by
    unfold D.flats at f
    rw [Bool.and_eq_true] at f
    unfold D.pys
    exact .cons (Rep.dp h f.1) (Reps.dp t f.2)
end
mutual
theorem py_lay : ∀ (n : Nat) (d : D), D.flat n d = true → PyData.canLay0 d.py = true
  | _, .non, _ => by unfold D.py; rfl
  | _, .bl b, _ => by unfold D.py; rfl
  | _, .int i, _ => by unfold D.py; rfl
  | _, .str x, f => by unfold D.flat at f; unfold D.py; simp only [PyData.canLay0]; exact f
  | 0, .tup xs, f => by simp [D.flat] at f
  | n + 1, .tup xs, f => by unfold D.py; simp only [PyData.canLay0]; unfold D.flat at f; exact pys_lay n xs f
  | 0, .lst xs, f => by simp [D.flat] at f
  | n + 1, .lst xs, f => by unfold D.py; simp only [PyData.canLay0]; unfold D.flat at f; exact pys_lay n xs f
  | _, .dic _, _ => by simp only [D.py]; rfl
  | _, .ins _ _, _ => by simp only [D.py]; rfl
  | _, .fn _, _ => by simp only [D.py]; rfl
  | _, .scr _, _ => by simp only [D.py]; rfl
theorem pys_lay : ∀ (n : Nat) (d : List D), D.flats n d = true → PyData.canLayAll0 (D.pys d) = true
  | _, [], _ => by unfold D.pys; simp [PyData.canLayAll0]
  | n, x :: xs, f => by
    unfold D.flats at f
    rw [Bool.and_eq_true] at f
    unfold D.pys
    simp only [PyData.canLayAll0]
    rw [py_lay n x f.1, pys_lay n xs f.2]
    rfl
end
mutual
theorem py_depth : ∀ (n : Nat) (d : D), D.flat n d = true → d.py.depth ≤ n
  | _, .non, _ => by unfold D.py; simp [PyData.depth]
  | _, .bl b, _ => by unfold D.py; simp [PyData.depth]
  | _, .int i, _ => by unfold D.py; simp [PyData.depth]
  | _, .str x, _ => by unfold D.py; simp [PyData.depth]
  | 0, .tup xs, f => by simp [D.flat] at f
  | n + 1, .tup xs, f => by
    unfold D.flat at f
    have := pys_depth n xs f
    unfold D.py
    simp only [PyData.depth]
    omega
  | 0, .lst xs, f => by simp [D.flat] at f
  | n + 1, .lst xs, f => by
    unfold D.flat at f
    have := pys_depth n xs f
    unfold D.py
    simp only [PyData.depth]
    omega
  | 0, .dic _, f => by simp [D.flat] at f
  | 0, .ins _ _, f => by simp [D.flat] at f
  | 0, .fn _, f => by simp [D.flat] at f
  | 0, .scr _, f => by simp [D.flat] at f
  | n + 1, .scr _, f => by simp [D.flat] at f
  | n + 1, .dic _, f => by simp [D.flat] at f
  | n + 1, .ins _ _, f => by simp [D.flat] at f
  | n + 1, .fn _, f => by simp [D.flat] at f
theorem pys_depth : ∀ (n : Nat) (d : List D), D.flats n d = true → PyData.depthAll (D.pys d) ≤ n
  | _, [], _ => by unfold D.pys; simp [PyData.depthAll]
  | n, x :: xs, f => by
    unfold D.flats at f
    rw [Bool.and_eq_true] at f
    have h1 := py_depth n x f.1
    have h2 := pys_depth n xs f.2
    unfold D.pys
    simp only [PyData.depthAll]
    omega
end
theorem py_shaped {d : D} (f : D.flat 60 d = true) : SeqAt.shaped d.py = true := by
  unfold SeqAt.shaped
  rw [py_lay 60 d f, decide_eq_true (Nat.le_trans (py_depth 60 d f) (by decide))]
  rfl
theorem View.dp {d : D} {v : V} {n : Nat} (h : View G Z H d v) (f : D.flat n d = true) : Dp G.K H v d.py := by
  cases h with
  | rep h => exact h.dp f
  | lst r h =>
    cases n with
    | zero => simp [D.flat] at f
    | succ n =>
      unfold D.py
      exact .lst (.inl r) (Reps.dp h (by unfold D.flat at f; exact f))
  | dK r h => cases n <;> simp [D.flat] at f
  | dT r h => cases n <;> simp [D.flat] at f
end

/-! ### operations on data -/
def dEq (d e : D) : Option D := if (D.flat 60 d && D.flat 60 e) = true then some (.bl (D.eqv d e)) else none
def dNe (d e : D) : Option D := if (D.flat 60 d && D.flat 60 e) = true then some (.bl (!D.eqv d e)) else none
noncomputable def dAdd : D → D → Option D
  | .int i, .int j => some (.int (i + j))
  | .str x, .str y => if x.length + y.length ≤ sizeLine then some (.str (x ++ y)) else none
  | .tup xs, .tup ys => if xs.length + ys.length ≤ sizeLine then some (.tup (xs ++ ys)) else none
  | .lst xs, .lst ys => if xs.length + ys.length ≤ sizeLine then some (.lst (xs ++ ys)) else none
  | _, _ => none
def dSub : D → D → Option D
  | .int i, .int j => some (.int (i - j)) | _, _ => none
/-- undecided for the kernel, so that it never counts up to the bound -/
noncomputable def small (i : Int) : Bool := @decide (-18446744073709551616 < i ∧ i < 18446744073709551616) (Classical.propDecidable _)
theorem small_iff {i : Int} : small i = true ↔ -18446744073709551616 < i ∧ i < 18446744073709551616 := by unfold small; exact @decide_eq_true_iff _ (Classical.propDecidable _)
noncomputable def dMul : D → D → Option D
  | .int i, .int j => if (small i || small j) = true then some (.int (i * j)) else none
  | .lst xs, .int k => if k < 4611686018427387904 ∧ -4611686018427387904 < k ∧ xs.length * k.toNat ≤ sizeLine then some (.lst (List.replicate k.toNat xs).flatten) else none
  | _, _ => none
def dMod : D → D → Option D
  | .int i, .int j => if 0 < j then some (.int (i % j)) else none | _, _ => none
noncomputable def dFdiv : D → D → Option D
  | .int i, .int j => if 0 < j ∧ j < 1073741824 then some (.int (i / j)) else none | _, _ => none
noncomputable def dPow : D → D → Option D
  | .int i, .int j => if 0 ≤ j ∧ j ≤ 1000000 ∧ i.natAbs < 18446744073709551616 then some (.int (i ^ j.toNat)) else none | _, _ => none
def dNeg : D → Option D
  | .int i => some (.int (-i)) | _ => none
def dLt : D → D → Option D
  | .int i, .int j => some (.bl (decide (i < j))) | .str x, .str y => some (.bl (decide (x.cps.toList < y.cps.toList))) | _, _ => none
def dLe : D → D → Option D
  | .int i, .int j => some (.bl (decide (i ≤ j))) | _, _ => none
def dGt : D → D → Option D
  | .int i, .int j => some (.bl (decide (j < i))) | _, _ => none
def dGe : D → D → Option D
  | .int i, .int j => some (.bl (decide (j ≤ i))) | _, _ => none
def D.isNon : D → Bool
  | .non => true | _ => false
def dIs (d e : D) : Option D := match e with
  | .non => some (.bl d.isNon)
  | .bl c => (match d with | .bl b => some (.bl (decide (b = c))) | _ => none)
  | _ => none
def dIsNot (d e : D) : Option D := match e with
  | .non => some (.bl (!d.isNon))
  | .bl c => (match d with | .bl b => some (.bl (!decide (b = c))) | _ => none)
  | _ => none
def pysIn (x : D) (ds : List D) : Bool := ds.any fun z => D.eqv z x
def dIn (x c : D) : Option D := match c with
  | .lst ds => if (D.flat 60 x && D.flats 59 ds) = true then some (.bl (pysIn x ds)) else none
  | .tup ds => if (D.flat 60 x && D.flats 59 ds) = true then some (.bl (pysIn x ds)) else none
  | .str z => (match x with | .str y => some (.bl (!(Builtin.Str.occurrences z y 0 z.length 1).isEmpty)) | _ => none)
  | _ => none
def dNotIn (x c : D) : Option D := match dIn x c with
  | some (.bl b) => some (.bl (!b)) | _ => none
noncomputable def dIx (c i : D) : Option D := match c, i with
  | .lst ds, .int i => atI ds i
  | .tup ds, .int i => atI ds i
  | .scr ns, .int i => (atI ns i).map .int
  | .str z, .int i => if z.length ≤ sizeLine then (atI z.cps.toList i).map fun c => .str ⟨#[c]⟩ else none
  | _, _ => none
noncomputable def dLen : D → Option D
  | .lst ds => some (.int ds.length) | .tup ds => some (.int ds.length) | .str z => if z.length ≤ sizeLine then some (.int z.length) else none | .scr ns => some (.int ns.length) | _ => none
def dTuple : D → Option D
  | .lst ds => some (.tup ds) | .tup ds => some (.tup ds) | _ => none
def dList : D → Option D
  | .lst ds => some (.lst ds) | .tup ds => some (.lst ds) | _ => none
def dInts : List D → Option (List Int)
  | [] => some []
  | .int i :: r => (dInts r).map (i :: ·)
  | _ => none
def dBools : List D → Option (List Bool)
  | [] => some []
  | .bl i :: r => (dBools r).map (i :: ·)
  | _ => none
def dStrs : List D → Option (List Str)
  | [] => some []
  | .str i :: r => (dStrs r).map (i :: ·)
  | _ => none
def dSum : D → Option D
  | .lst ds => (dInts ds).map fun ns => .int ns.sum | .tup ds => (dInts ds).map fun ns => .int ns.sum | _ => none
def dAll : D → Option D
  | .lst ds => (dBools ds).map fun bs => .bl (bs.all id) | _ => none
def dAny : D → Option D
  | .lst ds => (dBools ds).map fun bs => .bl (bs.any id) | _ => none
def maxI (a : Int) (l : List Int) : Int := l.foldl max a
def minI (a : Int) (l : List Int) : Int := l.foldl min a
def dMax : D → Option D
  | .lst ds => (match dInts ds with | some (a :: l) => some (.int (maxI a l)) | _ => none) | _ => none
def dMin : D → Option D
  | .lst ds => (match dInts ds with | some (a :: l) => some (.int (minI a l)) | _ => none) | _ => none
def dMax2 : List D → Option D
  | [.int i, .int j] => some (.int (if j > i then j else i)) | _ => none
def dMin2 : List D → Option D
  | [.int i, .int j] => some (.int (if j < i then j else i)) | _ => none
def insI (x : Int) : List Int → List Int
  | [] => [x] | y :: r => if x ≤ y then x :: y :: r else y :: insI x r
def sortI : List Int → List Int
  | [] => [] | x :: r => insI x (sortI r)
def dSorted : D → Option D
  | .lst ds => (dInts ds).map fun ns => .lst ((sortI ns).map .int) | _ => none
def dAbs : D → Option D
  | .int i => some (.int (if i < 0 then -i else i)) | _ => none
def dInt : D → Option D
  | .int i => some (.int i) | .bl b => some (.int (if b then 1 else 0)) | _ => none
def tyName : D → Option String
  | .non => some "NoneType" | .bl _ => some "bool" | .int _ => some "int" | .str _ => some "str" | .tup _ => some "tuple" | .lst _ => some "list" | _ => none
/-- isinstance(x, T), T one of int, bool, str, tuple, list, dict -/
def dIsi (T : String) (d : D) : Option D := (tyName d).bind fun n => (kitB n T).map .bl

section
variable {G : Wd} {W : WX} {X : Cx}
theorem sim_eq (hK : G.K = X.K) : Sim2 G dEq (rEqD X.K) := fun Z H d e x y z Q i rx ry h q => by
  unfold dEq at h
  split at h
  · rename_i hf
    rw [Bool.and_eq_true] at hf
    cases h
    exact ⟨_, _, hK ▸ rx.dp hf.1, hK ▸ ry.dp hf.2, py_shaped hf.1, py_shaped hf.2, q _ H (Same.refl H) (.bl _)⟩
  · cases h
theorem sim_ne (hK : G.K = X.K) : Sim2 G dNe (rNeD X.K) := fun Z H d e x y z Q i rx ry h q => by
  unfold dNe at h
  split at h
  · rename_i hf
    rw [Bool.and_eq_true] at hf
    cases h
    exact ⟨_, _, hK ▸ rx.dp hf.1, hK ▸ ry.dp hf.2, py_shaped hf.1, py_shaped hf.2, q _ H (Same.refl H) (.bl _)⟩
  · cases h
/-- list + list, any two that are read -/
def rCatR : R2 := fun x y H Q => ∃ l b xs zs, x = .ref l ∧ y = .ref b ∧ Rd H l (.lst xs) ∧ Rd H b (.lst zs) ∧ xs.length + zs.length ≤ sizeLine ∧ ∀ p, H p = none → Q (.ref p) (upd H p (.lst (xs ++ zs)))
theorem op_catR : OpR X (binaryOp .Add) rCatR := by
  intro pins s σ H x y v u Q I rx ry h
  obtain ⟨l, b, xs, zs, rfl, rfl, hH, hB, hz, q⟩ := h
  cases rx
  cases ry
  obtain ⟨z, its, n, r, e⟩ := hH.ok I.hok
  obtain ⟨z2, its2, n2, r2, e2⟩ := hB.ok I.hok
  have hl := r.length
  have hl2 := r2.length
  refine PySem.P.add_list e e2 ?_ (by rw [List.size_toArray, List.size_toArray]; omega)
  have ea : its.toArray ++ its2.toArray = (its ++ its2).toArray := by simp
  rw [ea]
  exact ⟨.ref _, _, I.lnew (t' := s.toks) (r.append r2) (by rw [List.length_append]; omega), rfl, q _ I.fresh⟩
def rRepR : R2 := fun x y H Q => ∃ l k xs, x = .ref l ∧ y = .int k ∧ Rd H l (.lst xs) ∧ -(2 ^ 63) ≤ k ∧ k < 2 ^ 63 ∧ xs.length * k.toNat ≤ sizeLine ∧
  ∀ p, H p = none → Q (.ref p) (upd H p (.lst (List.replicate k.toNat xs).flatten))
theorem op_repR : OpR X (binaryOp .Mult) rRepR := by
  intro pins s σ H x y v u Q I rx ry h
  obtain ⟨l, k, xs, rfl, rfl, hH, h1, h2, hz, q⟩ := h
  cases rx
  obtain ⟨t, rfl⟩ := ry
  obtain ⟨z, its, n, r, e⟩ := hH.ok I.hok
  have hl := r.length
  have hlen : its.toArray.size * k.toNat ≤ sizeLine := by rw [List.size_toArray, ← hl]; exact hz
  have hcap : ¬ its.toArray.size * k.toNat > (2 ^ 63 - 1) / 8 := by
    have : (sizeLine : Nat) ≤ (2 ^ 63 - 1) / 8 := by decide
    omega
  have hfit : ¬ (!Builtin.List.listFitsIndex k) = true := by
    rw [fitsIndex_both h1 h2]
    exact Bool.false_ne_true
  have hlong : ¬ Builtin.List.listTooLong (its.toArray.size * k.toNat) = true := by
    rw [notLongL hlen]
    exact Bool.false_ne_true
  have hnew : List.foldl (fun x1 x2 => x1 ++ x2) #[] (List.replicate (if its.toArray.isEmpty = true then 0 else k.toNat) its.toArray) = (List.replicate k.toNat its).flatten.toArray := by
    have f0 : ∀ m : Nat, List.foldl (fun x1 x2 => x1 ++ x2) #[] (List.replicate m its.toArray) = (List.replicate m its).flatten.toArray := fun m => by
      have := foldl_rep its m []
      rw [List.nil_append] at this
      exact this
    rw [f0]
    cases its with
    | nil => simp
    | cons a r' => rw [if_neg (by simp)]
  refine wpAny_binaryOp_repeat_ref (T := "list") (U := "int") (by decide) ⟨_, e, rfl⟩ (fun s' => typeIs_int s' k t) noFill_list_mul F.fills_int_mul F.slot_int_rmul repeat_list F.slot_int_index.lookup
    (call_meets F.slot_int_rmul (typeIs_int s k t) F.entry_int_rmul (F.args_int_rmul_2 _ _) (int___rmul___int_list k t l its.toArray n)
      ⟨e, rfl, ⟨_, e, rfl⟩, call_meets F.slot_list_mul ⟨_, e, rfl⟩ F.entry_list_mul (F.args_list_mul_2 _ _) (AutoListH.list___mul___list_int_3 l its.toArray n k t hfit hcap hlong) ⟨e, ?_⟩⟩)
  rw [hnew]
  exact ⟨.ref _, _, I.lnew (t' := s.toks) (r.rep k.toNat) (by rw [PyProof.Rows.lm_len_rep_flat, Nat.mul_comm]; exact hz), rfl, q _ I.fresh⟩

theorem Sim2.imp {g : D → D → Option D} {r r' : R2} (s : Sim2 G g r) (h : ∀ x y H Q, r x y H Q → r' x y H Q) : Sim2 G g r' := fun Z H d e x y z Q i rx ry hg q => h _ _ _ _ (s Z H d e x y z Q i rx ry hg q)
theorem op_addM : OpR X (binaryOp .Add) (fun x y H Q => rI0 (fun i j => .int (i + j)) x y H Q ∨ (fun x y H Q => ∃ i j, x = .str i ∧ y = .str j ∧ i.length + j.length ≤ sizeLine ∧ Q (.str (i ++ j)) H) x y H Q ∨ rCatA X.K x y H Q ∨ rCatR x y H Q) := by
  intro pins s σ H x y v u Q I rx ry h
  rcases h with h | h | h | h
  · exact op_add pins s σ H x y v u Q I rx ry h
  · exact op_add_str pins s σ H x y v u Q I rx ry h
  · exact op_catA pins s σ H x y v u Q I rx ry h
  · exact op_catR pins s σ H x y v u Q I rx ry h
theorem View.tupR {Z : Zone} {H : Hp} {ds : List D} {v : V} (h : View G Z H (.tup ds) v) : Rep G Z H (.tup ds) v := by
  cases h with
  | rep h => exact h
theorem sim_add (hK : G.K = X.K) : Sim2 G dAdd (fun x y H Q => rI0 (fun i j => .int (i + j)) x y H Q ∨ (fun x y H Q => ∃ i j, x = .str i ∧ y = .str j ∧ i.length + j.length ≤ sizeLine ∧ Q (.str (i ++ j)) H) x y H Q ∨ rCatA X.K x y H Q ∨ rCatR x y H Q) := fun Z H d e x y z Q i rx ry h q => by
  unfold dAdd at h
  split at h
  · cases h
    exact .inl ⟨_, _, rx.int', ry.int', q _ H (Same.refl H) (.int _)⟩
  · split at h
    · cases h
      exact .inr (.inl ⟨_, _, rx.str', ry.str', by assumption, q _ H (Same.refl H) (.str _)⟩)
    · cases h
  · split at h
    · cases h
      rename_i xs ys hz
      have tx := rx.tupR
      have ty := ry.tupR
      obtain ⟨a, vs, rfl, ha, ra⟩ := rx.tup
      obtain ⟨b, ws, rfl, hb, rb⟩ := ry.tup
      have l1 := ra.length
      have l2 := rb.length
      refine .inr (.inr (.inl ⟨a, b, vs, ws, rfl, rfl, hK ▸ ha, hK ▸ hb, by omega, fun e1 => ?_, fun e1 e2 => ?_, fun e1 e2 p hp => ?_⟩))
      · subst e1
        cases ra
        exact q _ H (Same.refl H) ty
      · subst e2
        cases rb
        rw [List.append_nil] at q
        exact q _ H (Same.refl H) tx
      · exact q _ _ (same_new hp) (new_tup i (ra.append rb) hp)
    · cases h
  · split at h
    · cases h
      obtain ⟨a, vs, rfl, ha, ra⟩ := rx.list
      obtain ⟨b, ws, rfl, hb, rb⟩ := ry.list
      have l1 := ra.length
      have l2 := rb.length
      exact .inr (.inr (.inr ⟨a, b, vs, ws, rfl, rfl, ha, hb, by omega, fun p hp => q _ _ (same_new hp) (new_lst i (ra.append rb) hp)⟩))
    · cases h
  · cases h
theorem sim_sub : Sim2 G dSub (rI0 fun i j => .int (i - j)) := fun Z H d e x y z Q i rx ry h q => by
  unfold dSub at h
  split at h
  · cases h
    exact ⟨_, _, rx.int', ry.int', q _ H (Same.refl H) (.int _)⟩
  · cases h
theorem op_mulM : OpR X (binaryOp .Mult) (fun x y H Q => rI CMul (fun i j => .int (i * j)) x y H Q ∨ rRepR x y H Q) := by
  intro pins s σ H x y v u Q I rx ry h
  rcases h with h | h
  · exact op_mul pins s σ H x y v u Q I rx ry h
  · exact op_repR pins s σ H x y v u Q I rx ry h
theorem Reps.rep {Z : Zone} {H : Hp} {ds : List D} {vs : List V} (h : Reps G Z H ds vs) : ∀ k : Nat, Reps G Z H (List.replicate k ds).flatten (List.replicate k vs).flatten
  | 0 => by simp; exact .nil
  | k + 1 => by simp only [List.replicate_succ, List.flatten_cons]; exact h.append (Reps.rep h k)
theorem sim_mul : Sim2 G dMul (fun x y H Q => rI CMul (fun i j => .int (i * j)) x y H Q ∨ rRepR x y H Q) := fun Z H d e x y z Q i rx ry h q => by
  unfold dMul at h
  split at h
  · split at h
    · rename_i hs
      cases h
      refine .inl ⟨_, _, rx.int', ry.int', ?_, q _ H (Same.refl H) (.int _)⟩
      simp only [Bool.or_eq_true, small_iff] at hs
      unfold CMul
      omega
    · cases h
  · split at h
    · rename_i hs
      cases h
      obtain ⟨a, vs, rfl, ha, ra⟩ := rx.list
      have l1 := ra.length
      obtain ⟨h1, h2, h3⟩ := hs
      exact .inr ⟨a, _, vs, rfl, ry.int', ha, by omega, by omega, by rw [← l1]; exact h3, fun p hp => q _ _ (same_new hp) (new_lst i (ra.rep _) hp)⟩
    · cases h
  · cases h
theorem sim_mod : Sim2 G dMod (rI (fun _ j => 0 < j) fun i j => .int (i % j)) := fun Z H d e x y z Q i rx ry h q => by
  unfold dMod at h
  split at h
  · split at h
    · cases h
      exact ⟨_, _, rx.int', ry.int', by assumption, q _ H (Same.refl H) (.int _)⟩
    · cases h
  · cases h
theorem sim_fdiv : Sim2 G dFdiv (rI CDiv fun i j => .int (i / j)) := fun Z H d e x y z Q i rx ry h q => by
  unfold dFdiv at h
  split at h
  · split at h
    · cases h
      exact ⟨_, _, rx.int', ry.int', by assumption, q _ H (Same.refl H) (.int _)⟩
    · cases h
  · cases h
theorem sim_pow : Sim2 G dPow (rI CPow fun i j => .int (i ^ j.toNat)) := fun Z H d e x y z Q i rx ry h q => by
  unfold dPow at h
  split at h
  · split at h
    · cases h
      exact ⟨_, _, rx.int', ry.int', by assumption, q _ H (Same.refl H) (.int _)⟩
    · cases h
  · cases h
theorem sim_neg : Sim1 G dNeg (rU fun i => .int (-i)) := fun Z H d x z Q i rx h q => by
  unfold dNeg at h
  split at h
  · cases h
    exact ⟨_, rx.int', q _ H (Same.refl H) (.int _)⟩
  · cases h
theorem op_ltM : OpR X (compareOp .Lt) (fun x y H Q => rI0 (fun i j => .bl (decide (i < j))) x y H Q ∨ (∃ i j, x = .str i ∧ y = .str j ∧ Q (.bl (decide (i.cps.toList < j.cps.toList))) H)) := op_lt.or op_lt_str
theorem sim_lt : Sim2 G dLt (fun x y H Q => rI0 (fun i j => .bl (decide (i < j))) x y H Q ∨ (∃ i j, x = .str i ∧ y = .str j ∧ Q (.bl (decide (i.cps.toList < j.cps.toList))) H)) := fun Z H d e x y z Q i rx ry h q => by
  unfold dLt at h
  split at h
  · cases h
    exact .inl ⟨_, _, rx.int', ry.int', q _ H (Same.refl H) (.bl _)⟩
  · cases h
    exact .inr ⟨_, _, rx.str', ry.str', q _ H (Same.refl H) (.bl _)⟩
  · cases h
theorem sim_le : Sim2 G dLe (rI0 fun i j => .bl (decide (i ≤ j))) := fun Z H d e x y z Q i rx ry h q => by
  unfold dLe at h
  split at h
  · cases h
    exact ⟨_, _, rx.int', ry.int', q _ H (Same.refl H) (.bl _)⟩
  · cases h
theorem sim_gt : Sim2 G dGt (rI0 fun i j => .bl (decide (j < i))) := fun Z H d e x y z Q i rx ry h q => by
  unfold dGt at h
  split at h
  · cases h
    exact ⟨_, _, rx.int', ry.int', q _ H (Same.refl H) (.bl _)⟩
  · cases h
theorem sim_ge : Sim2 G dGe (rI0 fun i j => .bl (decide (j ≤ i))) := fun Z H d e x y z Q i rx ry h q => by
  unfold dGe at h
  split at h
  · cases h
    exact ⟨_, _, rx.int', ry.int', q _ H (Same.refl H) (.bl _)⟩
  · cases h
/-! ### is, in -/
theorem Rep.isNon {Z : Zone} {H : Hp} {d : D} {v : V} (h : Rep G Z H d v) : decide (v = .non) = d.isNon := by
  cases h <;> rfl
theorem View.isNon {Z : Zone} {H : Hp} {d : D} {v : V} (h : View G Z H d v) : decide (v = .non) = d.isNon := by
  cases h with
  | rep h => exact h.isNon
  | _ => rfl
theorem op_isM : OpR X (compareOp .Is) (fun x y H Q => (y = .non ∧ Q (.bl (decide (x = .non))) H) ∨ rIsB x y H Q) := op_isN.or op_isBl
theorem op_isNotM : OpR X (compareOp .IsNot) (fun x y H Q => (y = .non ∧ Q (.bl (!decide (x = .non))) H) ∨ rNotB x y H Q) := op_notN.or op_notBl
theorem sim_is : Sim2 G dIs (fun x y H Q => (y = .non ∧ Q (.bl (decide (x = .non))) H) ∨ rIsB x y H Q) := fun Z H d e x y z Q i rx ry h q => by
  unfold dIs at h
  split at h
  · cases h
    refine .inl ⟨?_, ?_⟩
    · cases ry with | rep h => exact h.non'
    · rw [rx.isNon]
      exact q _ H (Same.refl H) (.bl _)
  · split at h
    · cases h
      exact .inr ⟨_, _, rx.bl', ry.bl', q _ H (Same.refl H) (.bl _)⟩
    · cases h
  · cases h
theorem sim_isNot : Sim2 G dIsNot (fun x y H Q => (y = .non ∧ Q (.bl (!decide (x = .non))) H) ∨ rNotB x y H Q) := fun Z H d e x y z Q i rx ry h q => by
  unfold dIsNot at h
  split at h
  · cases h
    refine .inl ⟨?_, ?_⟩
    · cases ry with | rep h => exact h.non'
    · rw [rx.isNon]
      exact q _ H (Same.refl H) (.bl _)
  · split at h
    · cases h
      exact .inr ⟨_, _, rx.bl', ry.bl', q _ H (Same.refl H) (.bl _)⟩
    · cases h
  · cases h
/-- in, not in: a list, a tuple, a text -/
def rInM (K : PySem.W.Frag) (neg : Bool) : R2 := fun x y H Q => (∃ d ds, Dp K H x d ∧ (Dp K H y (.list ds) ∨ Dp K H y (.tuple ds)) ∧ SeqAt.shaped d = true ∧ SeqAt.shaped (.list ds) = true ∧ Q (.bl (if neg = true then !(ds.any fun z => PyData.eqv z d) else ds.any fun z => PyData.eqv z d)) H) ∨
  (∃ i j, x = .str i ∧ y = .str j ∧ Q (.bl (if neg = true then !(!(Builtin.Str.occurrences j i 0 j.length 1).isEmpty) else !(Builtin.Str.occurrences j i 0 j.length 1).isEmpty)) H)
theorem room_in {A : Around} {d : PyData} {ds : List PyData} (sd : SeqAt.shaped d = true) (hu : A.units + 65 < cLine) : A.units + 1 + min (PyData.depthAll ds) d.depth < cLine := PyProof.Rows.room_in_shaped sd hu
theorem op_inM (hu : X.A.units + 65 < cLine) : OpR X (compareOp .In) (rInM X.K false) := by
  intro pins s σ H x y v u Q I rx ry h
  rcases h with ⟨d, ds, hd, he, sd, se, q⟩ | h
  · obtain ⟨as, r1⟩ := Dp.reads I d x v hd rx
    rcases he with he | he
    · obtain ⟨bs, r2⟩ := Dp.reads I (.list ds) y u he ry
      exact SeqAt.in_list_reads r2 r1 (SeqAt.canLay_of_shaped se) (SeqAt.canLay_of_shaped sd) (PyProof.Rows.room_in_shaped sd hu) ⟨.bl _, H, I, rfl, q⟩
    · obtain ⟨bs, r2⟩ := Dp.reads I (.tuple ds) y u he ry
      exact SeqAt.in_tuple_reads r2 r1 (SeqAt.canLay_of_shaped se) (SeqAt.canLay_of_shaped sd) (PyProof.Rows.room_in_shaped sd hu) ⟨.bl _, H, I, rfl, q⟩
  · exact op_in_str pins s σ H x y v u Q I rx ry h
theorem op_notInM (hu : X.A.units + 65 < cLine) : OpR X (compareOp .NotIn) (rInM X.K true) := by
  intro pins s σ H x y v u Q I rx ry h
  rcases h with ⟨d, ds, hd, he, sd, se, q⟩ | h
  · obtain ⟨as, r1⟩ := Dp.reads I d x v hd rx
    rcases he with he | he
    · obtain ⟨bs, r2⟩ := Dp.reads I (.list ds) y u he ry
      exact SeqAt.notIn_list_reads r2 r1 (SeqAt.canLay_of_shaped se) (SeqAt.canLay_of_shaped sd) (PyProof.Rows.room_in_shaped sd hu) ⟨.bl _, H, I, rfl, q⟩
    · obtain ⟨bs, r2⟩ := Dp.reads I (.tuple ds) y u he ry
      exact SeqAt.notIn_tuple_reads r2 r1 (SeqAt.canLay_of_shaped se) (SeqAt.canLay_of_shaped sd) (PyProof.Rows.room_in_shaped sd hu) ⟨.bl _, H, I, rfl, q⟩
  · exact op_notin_str pins s σ H x y v u Q I rx ry h
theorem pys_any (x : D) : ∀ ds : List D, (D.pys ds).any (fun z => PyData.eqv z x.py) = pysIn x ds
  | [] => by unfold D.pys; rfl
  | y :: ds => by
    unfold D.pys pysIn D.eqv
    rw [List.any_cons, List.any_cons, pys_any x ds]
    rfl
theorem list_shaped {ds : List D} (f : D.flats 59 ds = true) : SeqAt.shaped (.list (D.pys ds)) = true := by
  have := py_shaped (d := .lst ds) (by unfold D.flat; exact f)
  unfold D.py at this
  exact this
theorem sim_in (hK : G.K = X.K) : Sim2 G dIn (rInM X.K false) := fun Z H d e x y z Q i rx ry h q => by
  unfold dIn at h
  split at h
  · split at h
    · rename_i hf
      rw [Bool.and_eq_true] at hf
      cases h
      refine .inl ⟨_, _, hK ▸ rx.dp hf.1, .inl ?_, py_shaped hf.1, list_shaped hf.2, ?_⟩
      · have := ry.dp (n := 60) (by unfold D.flat; exact hf.2)
        unfold D.py at this
        exact hK ▸ this
      · rw [pys_any]
        exact q _ H (Same.refl H) (.bl _)
    · cases h
  · split at h
    · rename_i hf
      rw [Bool.and_eq_true] at hf
      cases h
      refine .inl ⟨_, _, hK ▸ rx.dp hf.1, .inr ?_, py_shaped hf.1, list_shaped hf.2, ?_⟩
      · have := ry.dp (n := 60) (by unfold D.flat; exact hf.2)
        unfold D.py at this
        exact hK ▸ this
      · rw [pys_any]
        exact q _ H (Same.refl H) (.bl _)
    · cases h
  · split at h
    · cases h
      exact .inr ⟨_, _, rx.str', ry.str', q _ H (Same.refl H) (.bl _)⟩
    · cases h
  · cases h
theorem sim_notIn (hK : G.K = X.K) : Sim2 G dNotIn (rInM X.K true) := fun Z H d e x y z Q i rx ry h q => by
  unfold dNotIn at h
  split at h
  · rename_i b hb
    cases h
    have := sim_in (X := X) hK Z H d e x y (.bl b) (fun v H' => ∃ c, v = .bl c ∧ Q (.bl (!c)) H') i rx ry hb fun v H' e' r' => by
      rw [r'.bl']
      exact ⟨b, rfl, q _ H' e' (.bl _)⟩
    rcases this with ⟨d', ds, h1, h2, h3, h4, c, h5, h6⟩ | ⟨i', j, h1, h2, c, h5, h6⟩
    · refine .inl ⟨d', ds, h1, h2, h3, h4, ?_⟩
      have h5 : (ds.any fun z => PyData.eqv z d') = c := V.bl.inj h5
      rw [if_pos rfl, h5]
      exact h6
    · refine .inr ⟨i', j, h1, h2, ?_⟩
      have h5 : (!(Builtin.Str.occurrences j i' 0 j.length 1).isEmpty) = c := V.bl.inj h5
      rw [if_pos rfl, h5]
      exact h6
  · cases h
/-! ### subscripts -/
theorem Reps.atI {Z : Zone} {H : Hp} {ds : List D} {vs : List V} {i : Int} {d : D} (r : Reps G Z H ds vs) (h : atI ds i = some d) : ∃ v, L2.atI vs i = some v ∧ Rep G Z H d v := by
  unfold L2.atI at h ⊢
  obtain ⟨j, h1, h2⟩ := Option.bind_eq_some_iff.mp h
  obtain ⟨v, h3, h4⟩ := r.get h2
  exact ⟨v, by rw [← r.length, h1]; exact h3, h4⟩
theorem View.scr' {Z : Zone} {H : Hp} {ns : List Int} {v : V} (h : View G Z H (.scr ns) v) : ∃ a, v = .ref a ∧ SqL G.K H a (ns.map V.int) := by
  cases h with
  | rep h =>
    cases h with
    | scr r z => exact ⟨_, rfl, .inl r⟩
    | scrK h => exact ⟨_, rfl, .inr h⟩
theorem sim_ix (hK : G.K = X.K) : Sim2 G dIx (rIx X.K) := fun Z H d e x y z Q i rx ry h q => by
  unfold dIx at h
  split at h
  · obtain ⟨a, vs, rfl, ha, ra⟩ := rx.list
    obtain ⟨v, hv, rv⟩ := ra.atI h
    exact .inl ⟨a, vs, _, v, rfl, ry.int', .inl ha, hv, q _ H (Same.refl H) rv⟩
  · obtain ⟨a, vs, rfl, ha, ra⟩ := rx.tup
    obtain ⟨v, hv, rv⟩ := ra.atI h
    exact .inr (.inl ⟨a, vs, _, v, rfl, ry.int', hK ▸ ha, hv, q _ H (Same.refl H) rv⟩)
  · obtain ⟨m, h1, h2⟩ := Option.map_eq_some_iff.mp h
    cases h2
    obtain ⟨a, rfl, ha⟩ := rx.scr'
    refine .inl ⟨a, _, _, _, rfl, ry.int', hK ▸ ha, ?_, q _ H (Same.refl H) (.int m)⟩
    unfold L2.atI at h1 ⊢
    obtain ⟨j, h1, h2⟩ := Option.bind_eq_some_iff.mp h1
    rw [List.length_map, h1]
    show (_ : List V)[j]? = _
    rw [List.getElem?_map, h2]
    rfl
  · rename_i z' i'
    split at h
    · obtain ⟨c, h1, h2⟩ := Option.map_eq_some_iff.mp h
      cases h2
      exact .inr (.inr ⟨z', i', c, rx.str', ry.int', by assumption, h1, q _ H (Same.refl H) (.str _)⟩)
    · cases h
  · cases h
/-! ### built-ins -/
theorem sim_len (hK : G.K = X.K) : SimC G dLen (fun xs H Q => (∃ x n, xs = [x] ∧ LenV X.K x H n ∧ Q (.int n) H) ∨ ∃ a kvs, xs = [V.ref a] ∧ H a = some (.dK kvs) ∧ Q (.int kvs.length) H) := fun Z H d x z Q i rx h q => by
  unfold dLen at h
  split at h
  · cases h
    obtain ⟨a, vs, rfl, ha, ra⟩ := rx.list
    refine .inl ⟨_, _, rfl, .inl ⟨vs, .inl ha, rfl⟩, ?_⟩
    rw [← ra.length]
    exact q _ H (Same.refl H) (.int _)
  · cases h
    obtain ⟨a, vs, rfl, ha, ra⟩ := rx.tup
    refine .inl ⟨_, _, rfl, .inr ⟨vs, hK ▸ ha, rfl⟩, ?_⟩
    rw [← ra.length]
    exact q _ H (Same.refl H) (.int _)
  · split at h
    · cases h
      rw [rx.str']
      exact .inl ⟨_, _, rfl, ⟨by assumption, rfl⟩, q _ H (Same.refl H) (.int _)⟩
    · cases h
  · cases h
    obtain ⟨a, rfl, ha⟩ := rx.scr'
    exact .inl ⟨_, _, rfl, .inl ⟨_, hK ▸ ha, by rw [List.length_map]⟩, q _ H (Same.refl H) (.int _)⟩
  · cases h
theorem cr_lenM : CallR X (.builtin "len") (fun xs H Q => (∃ x n, xs = [x] ∧ LenV X.K x H n ∧ Q (.int n) H) ∨ ∃ a kvs, xs = [V.ref a] ∧ H a = some (.dK kvs) ∧ Q (.int kvs.length) H) := call_len.or call_lenD
theorem sim_tuple (hK : G.K = X.K) : SimC G dTuple (fun xs H Q => ∃ p ys, xs = [.ref p] ∧ ((SqL X.K H p ys ∧ ∀ l, H l = none → Q (.ref l) (upd H l (.tup ys))) ∨ (SqT X.K H p ys ∧ Q (.ref p) H))) := fun Z H d x z Q i rx h q => by
  unfold dTuple at h
  split at h
  · cases h
    obtain ⟨a, vs, rfl, ha, ra⟩ := rx.list
    exact ⟨a, vs, rfl, .inl ⟨.inl ha, fun l hl => q _ _ (same_new hl) (new_tup i ra hl)⟩⟩
  · cases h
    have rt := rx.tupR
    obtain ⟨a, vs, rfl, ha, ra⟩ := rx.tup
    exact ⟨a, vs, rfl, .inr ⟨hK ▸ ha, q _ H (Same.refl H) rt⟩⟩
  · cases h
theorem sim_list (hK : G.K = X.K) : SimC G dList (fun xs H Q => ∃ p ys, xs = [.ref p] ∧ (SqL X.K H p ys ∨ SqT X.K H p ys) ∧ ∀ l, H l = none → Q (.ref l) (upd H l (.lst ys))) := fun Z H d x z Q i rx h q => by
  unfold dList at h
  split at h
  · cases h
    obtain ⟨a, vs, rfl, ha, ra⟩ := rx.list
    exact ⟨a, vs, rfl, .inl (.inl ha), fun l hl => q _ _ (same_new hl) (new_lst i ra hl)⟩
  · cases h
    obtain ⟨a, vs, rfl, ha, ra⟩ := rx.tup
    exact ⟨a, vs, rfl, .inr (hK ▸ ha), fun l hl => q _ _ (same_new hl) (new_lst i ra hl)⟩
  · cases h
theorem Reps.ofInts {Z : Zone} {H : Hp} : ∀ {ds : List D} {vs : List V} {ns : List Int}, Reps G Z H ds vs → dInts ds = some ns → vs = ns.map V.int
  | _, _, _, .nil, e => by cases e; rfl
  | _, _, ns, .cons (d := d) (ds := ds) r t, e => by
    unfold dInts at e
    split at e
    · rename_i h; cases h
    · rename_i i r' h
      cases h
      obtain ⟨m, h1, h2⟩ := Option.map_eq_some_iff.mp e
      subst h2
      rw [r.int', Reps.ofInts t h1]
      rfl
    · cases e
theorem Reps.ofBools {Z : Zone} {H : Hp} : ∀ {ds : List D} {vs : List V} {ns : List Bool}, Reps G Z H ds vs → dBools ds = some ns → vs = ns.map V.bl
  | _, _, _, .nil, e => by cases e; rfl
  | _, _, ns, .cons (d := d) (ds := ds) r t, e => by
    unfold dBools at e
    split at e
    · rename_i h; cases h
    · rename_i i r' h
      cases h
      obtain ⟨m, h1, h2⟩ := Option.map_eq_some_iff.mp e
      subst h2
      rw [r.bl', Reps.ofBools t h1]
      rfl
    · cases e
theorem cr_sumT (hc : X.calm = true) : CallR X (.builtin "sum") (fun vs H Q => ∃ (a : Addr) (ns : List Int), vs = [V.ref a] ∧ SqT X.K H a (ns.map V.int) ∧ Q (.int ns.sum) H) := by
  intro pins s σ H vs us Q I r h
  obtain ⟨a, ns, rfl, hs, q⟩ := h
  obtain ⟨its, rv, hl, _⟩ := I.tuple hs
  rw [Vals.ref1 r]
  have hi := rv.ints
  obtain ⟨xs, hx⟩ := hi.allInts.items
  have hn : PySem.numsOf (PySem.intItems xs).toList = ns := by rw [← hx]; exact hi.numsOf
  rw [PySem.nums_intItems] at hn
  rw [hx] at hl
  refine PySem.W.ktm_sumG (I.ok.hd hc) hl fun h' tk t' hk => ⟨.int _, H, I.kept hk, ⟨_, rfl⟩, ?_⟩
  rw [PySem.preSum_eq, List.take_of_length_le (by simp), hn]
  exact q
theorem cr_sumM (hc : X.calm = true) : CallR X (.builtin "sum") (fun vs H Q => rSum X.K vs H Q ∨ ∃ (a : Addr) (ns : List Int), vs = [V.ref a] ∧ SqT X.K H a (ns.map V.int) ∧ Q (.int ns.sum) H) := (cr_sum hc).or (cr_sumT hc)
theorem sim_sum (hK : G.K = X.K) : SimC G dSum (fun vs H Q => rSum X.K vs H Q ∨ ∃ (a : Addr) (ns : List Int), vs = [V.ref a] ∧ SqT X.K H a (ns.map V.int) ∧ Q (.int ns.sum) H) := fun Z H d x z Q i rx h q => by
  unfold dSum at h
  split at h
  · obtain ⟨ns, h1, h2⟩ := Option.map_eq_some_iff.mp h
    cases h2
    obtain ⟨a, vs, rfl, ha, ra⟩ := rx.list
    have e := ra.ofInts h1
    subst e
    exact .inl ⟨a, ns, rfl, .inl ha, q _ H (Same.refl H) (.int _)⟩
  · obtain ⟨ns, h1, h2⟩ := Option.map_eq_some_iff.mp h
    cases h2
    obtain ⟨a, vs, rfl, ha, ra⟩ := rx.tup
    have e := ra.ofInts h1
    subst e
    exact .inr ⟨a, ns, rfl, hK ▸ ha, q _ H (Same.refl H) (.int _)⟩
  · cases h
theorem sim_all : SimC G dAll (rAll X.K) := fun Z H d x z Q i rx h q => by
  unfold dAll at h
  split at h
  · obtain ⟨ns, h1, h2⟩ := Option.map_eq_some_iff.mp h
    cases h2
    obtain ⟨a, vs, rfl, ha, ra⟩ := rx.list
    have e := ra.ofBools h1
    subst e
    exact ⟨a, ns, rfl, .inl ha, q _ H (Same.refl H) (.bl _)⟩
  · cases h
theorem sim_any : SimC G dAny (rAny X.K) := fun Z H d x z Q i rx h q => by
  unfold dAny at h
  split at h
  · obtain ⟨ns, h1, h2⟩ := Option.map_eq_some_iff.mp h
    cases h2
    obtain ⟨a, vs, rfl, ha, ra⟩ := rx.list
    have e := ra.ofBools h1
    subst e
    exact ⟨a, ns, rfl, .inl ha, q _ H (Same.refl H) (.bl _)⟩
  · cases h
theorem maxI_ge : ∀ (l : List Int) (a : Int), a ≤ maxI a l ∧ (∀ x ∈ l, x ≤ maxI a l) ∧ (maxI a l = a ∨ maxI a l ∈ l)
  | [], a => ⟨Int.le_refl _, by simp, .inl rfl⟩
  | x :: l, a => by
    obtain ⟨h1, h2, h3⟩ := maxI_ge l (max a x)
    have e : maxI a (x :: l) = maxI (max a x) l := rfl
    rw [e]
    refine ⟨by omega, fun y hy => ?_, ?_⟩
    · rcases List.mem_cons.mp hy with rfl | hy
      · omega
      · exact h2 y hy
    · rcases h3 with h3 | h3
      · rw [h3]
        by_cases c : a ≤ x
        · exact .inr (by rw [show max a x = x by omega]; exact List.mem_cons_self)
        · exact .inl (by omega)
      · exact .inr (List.mem_cons_of_mem _ h3)
theorem minI_le : ∀ (l : List Int) (a : Int), minI a l ≤ a ∧ (∀ x ∈ l, minI a l ≤ x) ∧ (minI a l = a ∨ minI a l ∈ l)
  | [], a => ⟨Int.le_refl _, by simp, .inl rfl⟩
  | x :: l, a => by
    obtain ⟨h1, h2, h3⟩ := minI_le l (min a x)
    have e : minI a (x :: l) = minI (min a x) l := rfl
    rw [e]
    refine ⟨by omega, fun y hy => ?_, ?_⟩
    · rcases List.mem_cons.mp hy with rfl | hy
      · omega
      · exact h2 y hy
    · rcases h3 with h3 | h3
      · rw [h3]
        by_cases c : x ≤ a
        · exact .inr (by rw [show min a x = x by omega]; exact List.mem_cons_self)
        · exact .inl (by omega)
      · exact .inr (List.mem_cons_of_mem _ h3)
theorem sim_max : SimC G dMax (rMax X.K) := fun Z H d x z Q i rx h q => by
  unfold dMax at h
  split at h
  · split at h
    · rename_i a0 l h1
      cases h
      obtain ⟨a, vs, rfl, ha, ra⟩ := rx.list
      have e := ra.ofInts h1
      subst e
      obtain ⟨g1, g2, g3⟩ := maxI_ge l a0
      refine ⟨a, a0 :: l, rfl, .inl ha, by simp, fun m hm hall => ?_⟩
      have hle : m ≤ maxI a0 l := by
        rcases List.mem_cons.mp hm with rfl | hm
        · exact g1
        · exact g2 m hm
      have hge : maxI a0 l ≤ m := by
        rcases g3 with g3 | g3
        · rw [g3]; exact hall a0 List.mem_cons_self
        · exact hall _ (List.mem_cons_of_mem _ g3)
      rw [show m = maxI a0 l by omega]
      exact q _ H (Same.refl H) (.int _)
    · cases h
  · cases h
theorem sim_min : SimC G dMin (rMin X.K) := fun Z H d x z Q i rx h q => by
  unfold dMin at h
  split at h
  · split at h
    · rename_i a0 l h1
      cases h
      obtain ⟨a, vs, rfl, ha, ra⟩ := rx.list
      have e := ra.ofInts h1
      subst e
      obtain ⟨g1, g2, g3⟩ := minI_le l a0
      refine ⟨a, a0 :: l, rfl, .inl ha, by simp, fun m hm hall => ?_⟩
      have hle : minI a0 l ≤ m := by
        rcases List.mem_cons.mp hm with rfl | hm
        · exact g1
        · exact g2 m hm
      have hge : m ≤ minI a0 l := by
        rcases g3 with g3 | g3
        · rw [g3]; exact hall a0 List.mem_cons_self
        · exact hall _ (List.mem_cons_of_mem _ g3)
      rw [show m = minI a0 l by omega]
      exact q _ H (Same.refl H) (.int _)
    · cases h
  · cases h
theorem sim_max2 : SimN G dMax2 (fun xs H Q => ∃ i j, xs = [.int i, .int j] ∧ Q (.int (if j > i then j else i)) H) := fun Z H ds xs z Q i rx h q => by
  unfold dMax2 at h
  split at h
  · cases h
    cases rx with
    | cons r1 t =>
      cases t with
      | cons r2 t =>
        cases t
        rw [r1.int', r2.int']
        exact ⟨_, _, rfl, q _ H (Same.refl H) (.int _)⟩
  · cases h
theorem sim_min2 : SimN G dMin2 (fun xs H Q => ∃ i j, xs = [.int i, .int j] ∧ Q (.int (if j < i then j else i)) H) := fun Z H ds xs z Q i rx h q => by
  unfold dMin2 at h
  split at h
  · cases h
    cases rx with
    | cons r1 t =>
      cases t with
      | cons r2 t =>
        cases t
        rw [r1.int', r2.int']
        exact ⟨_, _, rfl, q _ H (Same.refl H) (.int _)⟩
  · cases h
theorem insI_perm (x : Int) : ∀ l : List Int, (insI x l).Perm (x :: l)
  | [] => .refl _
  | y :: r => by
    unfold insI
    split
    · exact .refl _
    · exact ((insI_perm x r).cons y).trans (.swap x y r)
theorem sortI_perm : ∀ l : List Int, (sortI l).Perm l
  | [] => .refl _
  | x :: r => (insI_perm x (sortI r)).trans ((sortI_perm r).cons x)
theorem insI_sorted (x : Int) : ∀ l : List Int, l.Pairwise (· ≤ ·) → (insI x l).Pairwise (· ≤ ·)
  | [], _ => by simp [insI]
  | y :: r, h => by
    unfold insI
    rw [List.pairwise_cons] at h
    split
    · rename_i hle
      rw [List.pairwise_cons]
      refine ⟨fun z hz => ?_, List.pairwise_cons.mpr h⟩
      rcases List.mem_cons.mp hz with rfl | hz
      · exact hle
      · exact Int.le_trans hle (h.1 z hz)
    · rename_i hle
      rw [List.pairwise_cons]
      refine ⟨fun z hz => ?_, insI_sorted x r h.2⟩
      rcases List.mem_cons.mp ((insI_perm x r).mem_iff.mp hz) with rfl | hz
      · omega
      · exact h.1 z hz
theorem sortI_sorted : ∀ l : List Int, (sortI l).Pairwise (· ≤ ·)
  | [] => .nil
  | x :: r => insI_sorted x _ (sortI_sorted r)
theorem sorted_uniq {a b : List Int} (p : a.Perm b) (ha : a.Pairwise (· ≤ ·)) (hb : b.Pairwise (· ≤ ·)) : a = b :=
  p.eq_of_pairwise (fun x y _ _ h1 h2 => Int.le_antisymm h1 h2) ha hb
theorem reps_ints {Z : Zone} {H : Hp} : ∀ ns : List Int, Reps G Z H (ns.map .int) (ns.map V.int)
  | [] => .nil
  | n :: ns => .cons (.int n) (reps_ints ns)
theorem sim_sorted : SimC G dSorted (rSortedI X.K) := fun Z H d x z Q i rx h q => by
  unfold dSorted at h
  split at h
  · obtain ⟨ns, h1, h2⟩ := Option.map_eq_some_iff.mp h
    cases h2
    obtain ⟨a, vs, rfl, ha, ra⟩ := rx.list
    have e := ra.ofInts h1
    subst e
    refine ⟨a, ns, rfl, .inl ha, fun ns' p hp hs hn => ?_⟩
    rw [sorted_uniq (hp.trans (sortI_perm ns).symm) hs (sortI_sorted ns)]
    exact q _ _ (same_new hn) (new_lst i (reps_ints _) hn)
  · cases h
theorem sim_abs : SimC G dAbs (fun xs H Q => ∃ i, xs = [.int i] ∧ Q (.int (if i < 0 then -i else i)) H) := fun Z H d x z Q i rx h q => by
  unfold dAbs at h
  split at h
  · cases h
    rw [rx.int']
    exact ⟨_, rfl, q _ H (Same.refl H) (.int _)⟩
  · cases h
theorem sim_int : SimC G dInt (fun xs H Q => (∃ i, xs = [.int i] ∧ Q (.int i) H) ∨ ∃ k, xs = [.bl k] ∧ Q (.int (if k then 1 else 0)) H) := fun Z H d x z Q i rx h q => by
  unfold dInt at h
  split at h
  · cases h
    rw [rx.int']
    exact .inl ⟨_, rfl, q _ H (Same.refl H) (.int _)⟩
  · cases h
    rw [rx.bl']
    exact .inr ⟨_, rfl, q _ H (Same.refl H) (.int _)⟩
  · cases h
theorem SqT.tyx {K : PySem.W.Frag} {H : Hp} {a : Addr} {vs : List V} (h : SqT K H a vs) : TyX K H (.ref a) (.type "tuple") := by
  rcases h with (h | ⟨o, h⟩) | ⟨o, its, n, h1, h2, _⟩
  · exact .base (.tup h)
  · exact .fTuple h
  · exact .kTuple h1 h2
theorem Rd.tyl {K : PySem.W.Frag} {H : Hp} {a : Addr} {vs : List V} (h : Rd H a (.lst vs)) : TyX K H (.ref a) (.type "list") := by
  rcases h with h | ⟨o, h⟩
  · exact .base (.lst h)
  · exact .base (.frz h)
theorem View.tyx {Z : Zone} {H : Hp} {d : D} {v : V} {n : String} (hK : G.K = X.K) (h : View G Z H d v) (e : tyName d = some n) : TyX X.K H v (.type n) := by
  cases d with
  | non => cases e; cases h with | rep h => rw [h.non']; exact .base .non
  | bl b => cases e; rw [h.bl']; exact .base (.bl _)
  | int b => cases e; rw [h.int']; exact .base (.int _)
  | str b => cases e; rw [h.str']; exact .base (.str _)
  | tup ds =>
    cases e
    obtain ⟨a, vs, rfl, ha, _⟩ := h.tup
    exact hK ▸ SqT.tyx ha
  | lst ds =>
    cases e
    obtain ⟨a, vs, rfl, ha, _⟩ := h.list
    exact Rd.tyl ha
  | dic ds => cases e
  | ins c fs => cases e
  | fn x => cases e
  | scr ns => cases e
theorem sim_isi (hK : G.K = X.K) {T : String} : Sim1 G (dIsi T) (fun x H Q => rIsi X.K [x, .ty T] H Q) := fun Z H d x z Q i rx h q => by
  unfold dIsi at h
  obtain ⟨n, h1, h2⟩ := Option.bind_eq_some_iff.mp h
  obtain ⟨b, h3, h4⟩ := Option.map_eq_some_iff.mp h2
  subst h4
  exact ⟨_, _, _, _, b, rfl, .ty T, rx.tyx hK h1, kit_ty h3, q _ H (Same.refl H) (.bl _)⟩
end
end M
namespace M
open PySem PySem.Spec L2

/-! ### calls of built-ins -/
section
variable {G : Wd} {W : WX} {X : Cx} {e : Expr} {es : List Expr} {pos p : Pos} {x : Str} {f : Den} {g : D → Option D} {r : List V → Hp → VK → Prop}
/-- f(e), a built-in of one argument -/
theorem me_bi1 {id : String} (hc : CallR X (.builtin id) r) (s : SimC G g r) (hv : bootBuiltins x = some (.builtin id)) (hm : X.mg x = none) (ha : MV G W X e f) (hg : Gl X x := by rfl) (hn : x ≠ "__name__" := by decide) (hdb : (x == ("__debug__" : Str)) = false := by decide)
    (hs : starEach [e] X.env = (false, eval e X.env) :: starEach [] X.env := by rfl) (he : starEach [e] X.env = (false, eval e X.env) :: starEach [] X.env := by rfl) (hpl : (backTo pos (starEach [] X.env)).any (·.1) = false := by rfl) : ME G W X (.Call (.Name x p) [e] [] pos) (eOp1 g f) :=
  PE.imp (pe_callB hc hg hm hv (pa_cons ha pa_nil hs) hn hdb he hpl) fun σ H Q q => argC s q
/-- T(e), a built-in type -/
theorem me_ty1 {T : String} (hc : CallR X (.type T) r) (s : SimC G g r) (hv : bootBuiltins x = some (.type T)) (hm : X.mg x = none) (ha : MV G W X e f) (hg : Gl X x := by rfl) (hn : x ≠ "__name__" := by decide) (hdb : (x == ("__debug__" : Str)) = false := by decide)
    (hs : starEach [e] X.env = (false, eval e X.env) :: starEach [] X.env := by rfl) (he : starEach [e] X.env = (false, eval e X.env) :: starEach [] X.env := by rfl) (hpl : (backTo pos (starEach [] X.env)).any (·.1) = false := by rfl) : ME G W X (.Call (.Name x p) [e] [] pos) (eOp1 g f) :=
  PE.imp (pe_callTy hc hg hm hv (pa_cons ha pa_nil hs) hn hdb he hpl) fun σ H Q q => argC s q
theorem me_biN {id : String} {fs : DenL} {gN : List D → Option D} (hc : CallR X (.builtin id) r) (s : SimN G gN r) (hv : bootBuiltins x = some (.builtin id)) (hm : X.mg x = none) (ha : MA G W X (e :: es) fs) (hg : Gl X x := by rfl) (hn : x ≠ "__name__" := by decide) (hdb : (x == ("__debug__" : Str)) = false := by decide)
    (he : starEach (e :: es) X.env = (false, eval e X.env) :: starEach es X.env := by rfl) (hpl : (backTo pos (starEach es X.env)).any (·.1) = false := by rfl) : ME G W X (.Call (.Name x p) (e :: es) [] pos) (eOpN gN fs) :=
  PE.imp (pe_callB hc hg hm hv ha hn hdb he hpl) fun σ H Q q => argsN s q
/-- isinstance(e, T) -/
theorem me_isi {T : String} {y : Str} {p2 : Pos} (hK : G.K = X.K) (hm : X.mg "isinstance" = none) (hv : bootBuiltins y = some (.type T)) (hmy : X.mg y = none) (ha : MV G W X e f) (hgy : Gl X y := by rfl) (hny : y ≠ "__name__" := by decide) (hdby : (y == ("__debug__" : Str)) = false := by decide) (hg : Gl X "isinstance" := by rfl)
    (hs : starEach [e, .Name y p2] X.env = (false, eval e X.env) :: starEach [.Name y p2] X.env := by rfl) (hs2 : starEach [.Name y p2] X.env = (false, eval (.Name y p2) X.env) :: starEach [] X.env := by rfl) (hpl : (backTo pos (starEach [.Name y p2] X.env)).any (·.1) = false := by rfl) :
    ME G W X (.Call (.Name "isinstance" p) [e, .Name y p2] [] pos) (eOp1 (dIsi T) f) :=
  PE.imp (pe_callB call_isi hg hm (by decide +kernel) (pa_cons ha (pa_cons (pe_bltn (v := .ty T) hgy hmy hv rfl hny hdby) pa_nil hs2) hs) (by decide) (by decide) hs hpl) fun σ H Q q => by
    obtain ⟨Z, ρ, st, L, S, q⟩ := q
    refine ⟨Z, ρ, st, L, S, PostR.bind q fun d st1 x H1 L1 e f1 o1 r1 q1 => ?_⟩
    split at q1
    · rename_i z ez
      exact sim_isi (X := X) hK _ _ _ _ z _ o1.inn r1 ez fun v' H' e' r' => q1 v' H' L1 (Fw.same e') (o1.same e') r'
    · exact q1.elim
end

/-! ### slices -/
def cutD (xs : List D) (lo hi : Option Int) : List D := (xs.drop (HT.sIx xs.length 0 lo)).take (HT.sIx xs.length xs.length hi - HT.sIx xs.length 0 lo)
abbrev DenO := Env → Sto → Res (Option Int)
@[simp] def eNo : DenO := fun _ st => .ok none st
@[simp] def eSo (f : Den) : DenO := fun ρ st => (f ρ st).bind fun d st => match d with | .int i => .ok (some i) st | _ => .stuck
noncomputable def dCut (d : D) (lo hi : Option Int) : Option D := match d with
  | .lst ds => some (.lst (cutD ds lo hi))
  | .tup ds => some (.tup (cutD ds lo hi))
  | .str z => if z.length ≤ sizeLine then some (.str (cutS z lo hi)) else none
  | _ => none
@[simp] noncomputable def eCut (f : Den) (lo hi : DenO) : Den := fun ρ st => (f ρ st).bind fun d st => (lo ρ st).bind fun l st => (hi ρ st).bind fun h st => match dCut d l h with | some z => .ok z st | none => .stuck
def tMO (G : Wd) (W : WX) (f : DenO) : TO := fun σ H Q => ∃ Z ρ st L, Stt G Z ρ st L σ H ∧ PostR G Z W (fun _ _ a b => a = b) σ L st H (f ρ st) Q
abbrev MO (G : Wd) (W : WX) (X : Cx) (e : Option Expr) (f : DenO) : Prop := PO X e (tMO G W f)
section
variable {G : Wd} {W : WX} {X : Cx} {e : Expr} {pos p2 : Pos}
theorem PO.imp {X : Cx} {e : Option Expr} {t t' : TO} (h : PO X e t) (i : ∀ σ H Q, t' σ H Q → t σ H Q) : PO X e t' := ⟨fun pins s σ H Q I q => h.run pins s σ H Q I (i σ H Q q)⟩
theorem mo_none : MO G W X none eNo := PO.imp po_none fun σ H Q q => by
  obtain ⟨Z, ρ, st, L, S, q⟩ := q
  exact PostR.pure (W := W) (R := fun _ _ a b => a = b) S.ok q rfl
theorem mo_some {f : Den} (h : ME G W X e f) : MO G W X (some e) (eSo f) := PO.imp (po_some h) fun σ H Q q => by
  obtain ⟨Z, ρ, st, L, S, q⟩ := q
  refine ⟨Z, ρ, st, L, S, PostR.bind q fun d st1 x H1 L1 e f1 o1 r1 q1 => ?_⟩
  split at q1
  · rename_i i
    exact ⟨i, r1.int', PostR.pure (W := W) (R := fun _ _ a b => a = b) o1 q1 rfl⟩
  · exact q1.elim
theorem Reps.cut {Z : Zone} {H : Hp} {ds : List D} {vs : List V} {lo hi : Option Int} (r : Reps G Z H ds vs) : Reps G Z H (cutD ds lo hi) (cutV vs lo hi) := by
  unfold cutD cutV
  rw [r.length]
  exact (r.drop _).take _
def rSlM (K : PySem.W.Frag) : V → Option Int → Option Int → Hp → VK → Prop := fun x lo hi H Q => (∃ a xs, x = .ref a ∧ SqL K H a xs ∧ ∀ p, H p = none → Q (.ref p) (upd H p (.lst (cutV xs lo hi)))) ∨ rSlA K x lo hi H Q ∨ rSlS x lo hi H Q
theorem sl_m : SlR X (rSlM X.K) := sl_list.or (sl_tupA.or sl_str)
theorem me_cut {f : Den} {lo hi : Option Expr} {fl fh : DenO} (hK : G.K = X.K) (he : ME G W X e f) (hl : MO G W X lo fl) (hh : MO G W X hi fh) : ME G W X (.Subscript e (.Slice lo hi none p2) pos) (eCut f fl fh) := PE.imp (pe_slice sl_m he hl hh) fun σ H Q q => by
  obtain ⟨Z, ρ, st, L, S, q⟩ := q
  refine ⟨Z, ρ, st, L, S, PostR.bind q fun d st1 x H1 L1 e f1 o1 r1 q1 => ?_⟩
  refine ⟨Z, ρ, st1, L1, S.to f1 o1, PostR.bind q1 fun l st2 y H2 L2 e2 f2 o2 r2 q2 => ?_⟩
  subst r2
  refine ⟨Z, ρ, st2, L2, (S.to f1 o1).to f2 o2, PostR.bind q2 fun h st3 y3 H3 L3 e3 f3 o3 r3 q3 => ?_⟩
  subst r3
  have r1 := (r1.mono f2.keeps).mono f3.keeps
  split at q3
  · rename_i z ez
    unfold dCut at ez
    split at ez
    · cases ez
      obtain ⟨a, vs, rfl, ha, ra⟩ := r1.list'
      exact .inl ⟨a, vs, rfl, .inl ha, fun p hp => q3 _ _ L3 (Fw.same (same_new hp)) (o3.same (same_new hp)) (new_lst o3.inn ra.cut hp)⟩
    · cases ez
      have rt := r1
      obtain ⟨a, vs, rfl, ha, ra⟩ := r1.tup'
      refine .inr (.inl ⟨a, vs, rfl, hK ▸ ha, fun hw => ?_, fun hw p hp => q3 _ _ L3 (Fw.same (same_new hp)) (o3.same (same_new hp)) (new_tup o3.inn ra.cut hp)⟩)
      refine q3 _ H3 L3 Fw.refl o3 ?_
      unfold cutD
      rw [ra.length, hw.1, hw.2, List.drop_zero, Nat.sub_zero, ← ra.length, List.take_length]
      exact rt
    · split at ez
      · cases ez
        exact .inr (.inr ⟨_, r1.str', by assumption, q3 _ H3 L3 Fw.refl o3 (.str _)⟩)
      · cases ez
    · cases ez
  · exact q3.elim
end

/-! ### defs -/
inductive SReps (G : Wd) (Z : Zone) (H : Hp) (L : List Addr) : List S → List V → Prop
  | nil : SReps G Z H L [] []
  | cons {d : S} {v : V} {ds : List S} {vs : List V} : SRep G Z H L d v → SReps G Z H L ds vs → SReps G Z H L (d :: ds) (v :: vs)
abbrev FD := List S → Sto → Res D
theorem SReps.length {G : Wd} {Z : Zone} {H : Hp} {L : List Addr} : ∀ {ds : List S} {vs : List V}, SReps G Z H L ds vs → ds.length = vs.length
  | _, _, .nil => rfl
  | _, _, .cons _ t => congrArg (· + 1) t.length
theorem SReps.get {G : Wd} {Z : Zone} {H : Hp} {L : List Addr} : ∀ {ds : List S} {vs : List V} {i : Nat} {d : S}, SReps G Z H L ds vs → ds[i]? = some d → ∃ v, vs[i]? = some v ∧ SRep G Z H L d v
  | _, _, _, _, .nil, e => by simp at e
  | _, _, 0, _, .cons r _, e => by simp at e; subst e; exact ⟨_, rfl, r⟩
  | _, _, i + 1, d, .cons _ t, e => by
    obtain ⟨v, h1, h2⟩ := SReps.get (i := i) (d := d) t (by simpa using e)
    exact ⟨v, by simpa using h1, h2⟩
theorem SReps.mono {G : Wd} {Z : Zone} {L L' : List Addr} {st st' : Sto} {H H' : Hp} (f : Fw Z L st H L' st' H') : ∀ {ds : List S} {vs : List V}, SReps G (Zof Z L st) H L ds vs → SReps G (Zof Z L' st') H' L' ds vs
  | _, _, .nil => .nil
  | _, _, .cons h t => .cons (h.mono f) (SReps.mono f t)
def spM (G : Wd) (n : Nat) (dn : FD) : Sp := fun vs H Q E => vs.length = n ∧ ∃ Z ss st L, StOk G Z L st H ∧ SReps G (Zof Z L st) H L ss vs ∧ match dn ss st with
  | .ok d st' => ∀ v H' L', Fw Z L st H L' st' H' → StOk G Z L' st' H' → Rep G (Zof Z L' st') H' d v → Q v H'
  | .exc c fs st' => ExP G Z L st H c fs st' E
  | .stuck => False
/-- a def that may be called by its name -/
structure MCal (P : Program) (w : World) (K : PySem.W.Frag) (mg : Str → Option Value) (base : Heap) (G : Wd) (k : Nat) (x : Str) (n : Nat) (dn : FD) : Prop where
  ex : ∃ (f : Addr) (fd : FuncData) (ps : List Str), FnOk P w K mg base (L2.CX P w) k f fd ps (spM G n dn) ∧ mg x = some (.ref f) ∧ PySem.W.keepIn K (.ref f) = true ∧ Binds K fd ps []
/-- f(..), all arguments data: the def runs over a store of its own -/
@[simp] def eCall (n : Nat) (dn : FD) (f : DenL) : Den := fun ρ st => (f ρ st).bind fun ds st => if ds.length = n then (match dn (ds.map .p) [] with | .ok d [] => .ok d st | .exc c fs [] => .exc c fs st | _ => .stuck) else .stuck
section
variable {G : Wd} {W : WX} {X : Cx} {Z : Zone} {H H' : Hp} {L : List Addr} {st : Sto}
theorem sreps_p : ∀ {ds : List D} {vs : List V}, Reps G Z H ds vs → SReps G Z H L (ds.map .p) vs
  | _, _, .nil => .nil
  | _, _, .cons h t => .cons (.p h) (sreps_p t)
theorem Reps.zone {Z Z' : Zone} {H : Hp} (h : ∀ a, Z' a → Z a) {ds : List D} {vs : List V} (r : Reps G Z H ds vs) : Reps G Z' H ds vs := r.mono fun a o e z => ⟨.of e, fun q => z (h a q)⟩
theorem Rep.zone {Z Z' : Zone} {H : Hp} (h : ∀ a, Z' a → Z a) {ds : D} {vs : V} (r : Rep G Z H ds vs) : Rep G Z' H ds vs := r.mono fun a o e z => ⟨.of e, fun q => z (h a q)⟩
theorem zof_nil {Z : Zone} {a : Addr} : Zof Z [] [] a ↔ Z a := ⟨fun h => h.elim id fun ⟨n, o, e, _⟩ => by simp at e, .inl⟩
/-- over an empty store, in a zone that holds our live things -/
theorem StOk.empty (S : StOk G Z L st H) : StOk G (Zof Z L st) [] [] H :=
  ⟨rfl, .nil, fun n a o e => by simp at e, S.inn, fun a h => by simp at h, fun a h => by simp at h⟩
theorem Fw.fromEmpty (S : StOk G Z L st H) (f : Fw (Zof Z L st) [] [] H [] [] H') : Fw Z L st H L st H' :=
  ⟨⟨[], by simp, by simp⟩, fun a o e _ => f.keep a o e (fun ⟨n, o, e, _⟩ => by simp at e), f.there, fun a o z e => f.zk a o (.inl z) e, fun n o' _ e l => ⟨o', e, l⟩⟩
theorem OOk.zk {a : Addr} {o : O} (k : ∀ b, Live L st b → H' b = H b) (f : Fw Z L st H L st H') (ha : o.live = true → Live L st a) (h : OOk G (Zof Z L st) H L a o) : OOk G (Zof Z L st) H' L a o := by
  cases o with
  | lst ds => exact h.mono f (k a (ha rfl))
  | dic ds => exact h.mono f (k a (ha rfl))
  | ins c fs => exact h.mono f (k a (ha rfl))
  | frz d => exact Rep.mono f.keeps h
  | dead => trivial
theorem StOk.fromEmpty (S : StOk G Z L st H) (f : Fw (Zof Z L st) [] [] H [] [] H') : StOk G Z L st H' := by
  have g := Fw.fromEmpty S f
  refine ⟨S.len, S.nd, fun n a o e1 e2 => OOk.zk (fun b hb => ?_) g (fun hl => ⟨n, o, e1, e2, hl⟩) (S.obj n a o e1 e2), fun a z => f.there a (S.z0 a z), S.zl, fun a h => f.there a (S.lh a h)⟩
  obtain ⟨o, e⟩ : ∃ o, H b = some o := by
    obtain ⟨n, o', e1, _⟩ := hb
    exact Option.ne_none_iff_exists'.mp (S.lh b (List.mem_of_getElem? e1))
  rw [e]
  exact f.zk b o (.inr hb) e
theorem nil_of_len {L' : List Addr} (S : StOk G Z L' [] H) : L' = [] := List.length_eq_zero_iff.mp S.len
theorem me_call1 {n : Nat} {dn : FD} {σ : St} {ds : List D} {vs : List V} {Q : VK} (o1 : StOk G Z L st H) (r1 : Reps G (Zof Z L st) H ds vs) (hn : ds.length = n)
    (q1 : PostR G Z W (RD G) σ L st H (match dn (ds.map .p) [] with | .ok d [] => .ok d st | .exc c fs [] => .exc c fs st | _ => .stuck) Q) : spM G n dn vs H Q (WE W σ) := by
  refine ⟨by rw [← r1.length]; exact hn, Zof Z L st, ds.map .p, [], [], o1.empty, sreps_p (r1.zone fun a h => zof_nil.mp h), ?_⟩
  revert q1
  cases hd : dn (ds.map .p) [] with
  | stuck => exact fun q1 => q1
  | ok d st2 =>
    cases st2 with
    | cons a b => exact fun q1 => q1.elim
    | nil =>
      intro q1 v H2 L2 f2 o2 r2
      have := nil_of_len o2
      subst this
      exact q1 v H2 L (Fw.fromEmpty o1 f2) (o1.fromEmpty f2) (r2.zone fun a h => zof_nil.mpr h)
  | exc c fs st2 =>
    cases st2 with
    | cons a b => exact fun q1 => q1.elim
    | nil =>
      intro q1 H2 L2 C dd vfs f2 o2 hC hdd rf
      have := nil_of_len o2
      subst this
      exact q1 H2 L C dd vfs (Fw.fromEmpty o1 f2) (o1.fromEmpty f2) hC hdd (rf.mono fun a o e z => ⟨.of e, fun q => z (zof_nil.mpr q)⟩)
theorem me_call {k : Nat} {x : Str} {n : Nat} {dn : FD} {p pos : Pos} {e : Expr} {es : List Expr} {f : DenL} (c : MCal X.prog X.w X.K X.mg X.base G k x n dn) (hr : Room k X.A) (tk : Takes X W) (ha : MA G W X (e :: es) f) (hg : Gl X x := by rfl)
    (hdb : (x == ("__debug__" : Str)) = false := by decide) (he : starEach (e :: es) X.env = (false, eval e X.env) :: starEach es X.env := by rfl) (hpl : (backTo pos (starEach es X.env)).any (·.1) = false := by rfl) :
    ME G W X (.Call (.Name x p) (e :: es) [] pos) (eCall n dn f) := by
  obtain ⟨fa, fd, ps, F, hm, kp, b⟩ := c.ex
  refine PE.imp (pe_callS (E := WE W) F hr hg hm kp b (fun σ => passAt tk σ) ha hdb he hpl) fun σ H Q q => ?_
  obtain ⟨Z, ρ, st, L, S, q⟩ := q
  refine ⟨Z, ρ, st, L, S, PostR.bind q fun ds st1 vs H1 L1 ed f1 o1 r1 q1 => ?_⟩
  by_cases hn : ds.length = n
  · rw [if_pos hn] at q1
    exact me_call1 o1 r1 hn q1
  · rw [if_neg hn] at q1
    exact q1.elim
end
end M
namespace M
open PySem PySem.Spec L2

/-! ### zones: a place of our own -/
def Zp (Z : Zone) (p : Addr) : Zone := fun a => Z a ∨ a = p
section
variable {G : Wd} {W : WX} {X : Cx} {Z Z' : Zone} {H H' : Hp} {L L' : List Addr} {st st' : Sto} {p : Addr} {o : HO}
theorem Fw.zone (h : ∀ a, Z a → Z' a) (f : Fw Z' L st H L' st' H') : Fw Z L st H L' st' H' := ⟨f.pre, f.keep, f.there, fun a o z => f.zk a o (h a z), f.live⟩
theorem SRep.zone {Z Z' : Zone} {H : Hp} (h : ∀ a, Z' a → Z a) {s : S} {v : V} (r : SRep G Z H L s v) : SRep G Z' H L s v := by
  cases r with
  | p r => exact .p (r.zone h)
  | r e => exact .r e
theorem SRepF.zone {Z Z' : Zone} {H : Hp} (h : ∀ a, Z' a → Z a) : ∀ {fs : List (Str × S)} {vs : List (Str × V)}, SRepF G Z H L fs vs → SRepF G Z' H L fs vs
  | _, _, .nil => .nil
  | _, _, .cons r t => .cons (r.zone h) (SRepF.zone h t)
theorem RepK.zone {Z Z' : Zone} {H : Hp} (h : ∀ a, Z' a → Z a) {ds : List (D × D)} {vs : List (Key × V)} (r : RepK G Z H ds vs) : RepK G Z' H ds vs := r.mono fun a o e z => ⟨.of e, fun q => z (h a q)⟩
theorem RepT.zone {Z Z' : Zone} {H : Hp} (h : ∀ a, Z' a → Z a) {ds : List (D × D)} {vs : List (List Key × V)} (r : RepT G Z H ds vs) : RepT G Z' H ds vs := r.mono fun a o e z => ⟨.of e, fun q => z (h a q)⟩
theorem RepF.zone {Z Z' : Zone} {H : Hp} (h : ∀ a, Z' a → Z a) {ds : List (Str × D)} {vs : List (Str × V)} (r : RepF G Z H ds vs) : RepF G Z' H ds vs := r.mono fun a o e z => ⟨.of e, fun q => z (h a q)⟩
theorem OOk.zone {Z Z' : Zone} {H : Hp} (h : ∀ a, Z' a → Z a) {a : Addr} : ∀ {o : O}, OOk G Z H L a o → OOk G Z' H L a o
  | .lst ds, ⟨vs, e, r⟩ => ⟨vs, e, r.zone h⟩
  | .dic ds, .inl ⟨vs, e, r⟩ => .inl ⟨vs, e, r.zone h⟩
  | .dic ds, .inr ⟨vs, e, r⟩ => .inr ⟨vs, e, r.zone h⟩
  | .ins c fs, ⟨C, dx, vfs, hc, e, r⟩ => ⟨C, dx, vfs, hc, e, r.zone h⟩
  | .frz d, r => Rep.zone h r
  | .dead, _ => trivial
theorem zof_mono (h : ∀ a, Z a → Z' a) : ∀ a, Zof Z L st a → Zof Z' L st a := fun a z => z.elim (fun z => .inl (h a z)) .inr
theorem StOk.shrink (h : ∀ a, Z a → Z' a) (S : StOk G Z' L st H) : StOk G Z L st H :=
  ⟨S.len, S.nd, fun n a o e1 e2 => (S.obj n a o e1 e2).zone (zof_mono h), fun a z => S.z0 a (h a z), fun a m z => S.zl a m (h a z), S.lh⟩
/-- what leans on H alone leans on it beside a new place -/
theorem keeps_new (h : H p = none) : Keeps (Zof Z L st) (Zof (Zp Z p) L st) H (upd H p o) := fun a u e z => by
  have ne : a ≠ p := ne_of_none e h
  refine ⟨.of (by rw [upd_ne ne]; exact e), fun q => ?_⟩
  rcases q with (q | q) | q
  · exact z (.inl q)
  · exact ne q
  · exact z (.inr q)
theorem SRep.keeps (k : Keeps Z Z' H H') {s : S} {v : V} (h : SRep G Z H L s v) : SRep G Z' H' L s v := by
  cases h with
  | p r => exact .p (r.mono k)
  | r e => exact .r e
theorem SRepF.keeps (k : Keeps Z Z' H H') : ∀ {fs : List (Str × S)} {vs : List (Str × V)}, SRepF G Z H L fs vs → SRepF G Z' H' L fs vs
  | _, _, .nil => .nil
  | _, _, .cons r t => .cons (r.keeps k) (SRepF.keeps k t)
theorem OOk.keeps (k : Keeps Z Z' H H') {a : Addr} (e : ∀ o, H a = some o → H' a = some o) : ∀ {o : O}, OOk G Z H L a o → OOk G Z' H' L a o
  | .lst ds, ⟨vs, h, r⟩ => ⟨vs, e _ h, r.mono k⟩
  | .dic ds, .inl ⟨vs, h, r⟩ => .inl ⟨vs, e _ h, r.mono k⟩
  | .dic ds, .inr ⟨vs, h, r⟩ => .inr ⟨vs, e _ h, r.mono k⟩
  | .ins c fs, ⟨C, dx, vfs, hc, h, r⟩ => ⟨C, dx, vfs, hc, e _ h, r.keeps k⟩
  | .frz d, r => Rep.mono k r
  | .dead, _ => trivial
theorem StOk.enter (S : StOk G Z L st H) (h : H p = none) : StOk G (Zp Z p) L st (upd H p o) := by
  refine ⟨S.len, S.nd, fun n a u e1 e2 => (S.obj n a u e1 e2).keeps (keeps_new h) fun o e => by rw [upd_ne (ne_of_none e h)]; exact e, fun a z => ?_, fun a m z => ?_, fun a m => some_of_same (same_new h) (S.lh a m)⟩
  · rcases z with z | rfl
    · exact some_of_same (same_new h) (S.z0 a z)
    · rw [upd_same]; simp
  · rcases z with z | rfl
    · exact S.zl a m z
    · exact S.lh a m h
theorem EnvOk.enter {ρ : Env} {σ : St} (h : H p = none) (E : EnvOk G (Zof Z L st) H L ρ σ) : EnvOk G (Zof (Zp Z p) L st) (upd H p o) L ρ σ :=
  ⟨E.1, fun i s e => let ⟨v, e2, r⟩ := E.2 i s e; ⟨v, e2, r.keeps (keeps_new h)⟩⟩
/-- our own place is written -/
theorem keeps_own : Keeps (Zof (Zp Z p) L st) (Zof (Zp Z p) L st) H (upd H p o) := fun a u e z => by
  have ne : a ≠ p := fun q => z (.inl (.inr q))
  exact ⟨.of (by rw [upd_ne ne]; exact e), z⟩
theorem StOk.own (S : StOk G (Zp Z p) L st H) : StOk G (Zp Z p) L st (upd H p o) := by
  refine ⟨S.len, S.nd, fun n a u e1 e2 => (S.obj n a u e1 e2).keeps keeps_own fun o e => ?_, fun a z => ?_, S.zl, fun a m => ?_⟩
  · have ne : a ≠ p := fun q => S.zl a (List.mem_of_getElem? e1) (.inr q)
    rw [upd_ne ne]; exact e
  · by_cases q : a = p
    · rw [q, upd_same]; simp
    · rw [upd_ne q]; exact S.z0 a z
  · by_cases q : a = p
    · rw [q, upd_same]; simp
    · rw [upd_ne q]; exact S.lh a m
theorem Fw.own {L0 : List Addr} {st0 : Sto} {H0 : Hp} (h : H0 p = none) (f : Fw Z L0 st0 H0 L st H) : Fw Z L0 st0 H0 L st (upd H p o) := by
  refine ⟨f.pre, fun a u e nl => ?_, fun a n => ?_, fun a u z e => ?_, f.live⟩
  · obtain ⟨o', h1, h2⟩ := f.keep a u e nl
    exact ⟨o', by rw [upd_ne (ne_of_none e h)]; exact h1, h2⟩
  · by_cases q : a = p
    · rw [q, upd_same]; simp
    · rw [upd_ne q]; exact f.there a n
  · rw [upd_ne (ne_of_none e h)]
    exact f.zk a u z e
/-- a thing of one's own, told as data -/
@[simp] def ePure (f : Env → Sto → Res O) : Den := fun ρ st => (f ρ st).bind fun o st => match thaw o with | some d => .ok d st | none => .stuck
theorem me_own {e : Expr} {f : Env → Sto → Res O} (h : MN G W X e f) : ME G W X e (ePure f) := PE.imp h fun σ H Q q => by
  obtain ⟨Z, ρ, st, L, S, q⟩ := q
  refine ⟨Z, ρ, st, L, S, ?_⟩
  cases ef : f ρ st with
  | stuck => simp only [ePure, ef, Res.bind] at q; exact q
  | exc c fs st1 => simp only [ePure, ef, Res.bind] at q; exact q
  | ok o st1 =>
    simp only [ePure, ef, Res.bind] at q
    intro p H1 L1 fn ok
    have o1 : StOk G Z L1 st1 H1 := fn.ok.shrink fun a z => .inl z
    have zp : ¬ Zof Z L1 st1 p := fun z => by
      rcases z with z | ⟨n, u, e1, _⟩
      · exact S.ok.z0 p z fn.new
      · exact fn.ok.zl p (List.mem_of_getElem? e1) (.inr rfl)
    have zz : ∀ a, Zof Z L1 st1 a → Zof (fun a => Z a ∨ a = p) L1 st1 a := zof_mono fun a z => .inl z
    cases o with
    | lst ds =>
      obtain ⟨vs, h1, h2⟩ := ok
      exact q _ H1 L1 fn.fr o1 (.lst (.inl h1) zp (h2.zone zz))
    | dic ds =>
      rcases ok with ⟨kvs, h1, h2⟩ | ⟨kvs, h1, h2⟩
      · exact q _ H1 L1 fn.fr o1 (.dK (.inl h1) zp (h2.zone zz))
      · exact q _ H1 L1 fn.fr o1 (.dT (.inl h1) zp (h2.zone zz))
    | frz d => exact q _ H1 L1 fn.fr o1 (Rep.zone zz ok)
    | ins c fs => exact q.elim
    | dead => exact q.elim
end

/-! ### targets -/
abbrev GD := D → Env → Option Env
def wipeE (ρ : Env) : List Nat → Env
  | [] => ρ
  | v :: vs => (wipeE ρ vs).set v none
def GSim (G : Wd) (g : TG) (gm : GD) (vs : List Nat) : Prop := ∀ Z H L d v ρ σ ρ' Q, EnvOk G Z H L ρ σ → Rep G Z H d v → gm d ρ = some ρ' → (∀ σ', EnvOk G Z H L ρ' σ' → wipe σ' vs = wipe σ vs → Q σ' H) → g v σ H Q
def GsSim (G : Wd) (g : TGs) (gm : List D → Env → Option Env) (vs : List Nat) : Prop := ∀ Z H L d v ρ σ ρ' Q, EnvOk G Z H L ρ σ → Reps G Z H d v → gm d ρ = some ρ' → (∀ σ', EnvOk G Z H L ρ' σ' → wipe σ' vs = wipe σ vs → Q σ' H) → g v σ H Q
structure MG (G : Wd) (X : Cx) (tg : Expr) (gm : GD) (vs : List Nat) : Prop where
  ex : ∃ g, PG X tg g ∧ GSim G g gm vs
structure MGs (G : Wd) (X : Cx) (tgs : List Expr) (gm : List D → Env → Option Env) (vs : List Nat) : Prop where
  ex : ∃ g, PGs X tgs g ∧ GsSim G g gm vs
@[simp] def gN (i : Nat) : GD := fun d ρ => some (ρ.set i (some (.p d)))
@[simp] def gsNil : List D → Env → Option Env := fun ds ρ => match ds with | [] => some ρ | _ => none
@[simp] def gsCons (g : GD) (h : List D → Env → Option Env) : List D → Env → Option Env := fun ds ρ => match ds with | d :: r => (g d ρ).bind fun ρ => h r ρ | [] => none
@[simp] def gT (g : List D → Env → Option Env) (n : Nat) : GD := fun d ρ => match d with | .tup ds => if ds.length = n then g ds ρ else none | _ => none
section
variable {G : Wd} {W : WX} {X : Cx} {Z Z' : Zone} {H H' : Hp} {L L' : List Addr} {st st' : Sto} {pos : Pos}
theorem EnvOk.set {ρ : Env} {σ : St} {s : S} {v : V} (E : EnvOk G Z H L ρ σ) (i : Nat) (r : SRep G Z H L s v) : EnvOk G Z H L (ρ.set i (some s)) (σ.set i (some v)) := by
  refine ⟨by simpa using E.1, fun j t e => ?_⟩
  rcases getElem?_set_cases e with ⟨rfl, h1, hl⟩ | ⟨ne, h1⟩
  · cases h1
    exact ⟨v, List.getElem?_set_self (by rw [← E.1]; exact hl), r⟩
  · obtain ⟨v', e2, r2⟩ := E.2 j t h1
    exact ⟨v', by rw [List.getElem?_set_ne (Ne.symm ne)]; exact e2, r2⟩
theorem EnvOk.forget {ρ : Env} {σ : St} (E : EnvOk G Z H L ρ σ) (i : Nat) {x : Option V} : EnvOk G Z H L (ρ.set i none) (σ.set i x) := by
  refine ⟨by simpa using E.1, fun j t e => ?_⟩
  rcases getElem?_set_cases e with ⟨rfl, h1, hl⟩ | ⟨ne, h1⟩
  · cases h1
  · obtain ⟨v', e2, r2⟩ := E.2 j t h1
    exact ⟨v', by rw [List.getElem?_set_ne (Ne.symm ne)]; exact e2, r2⟩
theorem EnvOk.wipe {ρ : Env} {σ : St} (E : EnvOk G Z H L ρ σ) : ∀ vs : List Nat, EnvOk G Z H L (wipeE ρ vs) (L2.wipe σ vs)
  | [] => E
  | v :: vs => (EnvOk.wipe E vs).forget v
theorem wipe_set {σ : St} {i : Nat} {x : Option V} : ∀ {vs : List Nat}, i ∈ vs → L2.wipe (σ.set i x) vs = L2.wipe σ vs
  | v :: vs, h => by
    unfold L2.wipe
    by_cases q : i ∈ vs
    · rw [wipe_set q]
    · have e : i = v := by
        rcases List.mem_cons.mp h with e | e
        · exact e
        · exact absurd e q
      subst e
      have go : ∀ ws : List Nat, i ∉ ws → (L2.wipe (σ.set i x) ws).set i none = (L2.wipe σ ws).set i none := fun ws => by
        induction ws with
        | nil => intro _; unfold L2.wipe; rw [List.set_set]
        | cons w ws ih =>
          intro hn
          have h1 : i ≠ w := fun e => hn (by rw [e]; exact List.mem_cons_self)
          unfold L2.wipe
          rw [List.set_comm _ _ (Ne.symm h1), ih (fun q => hn (List.mem_cons_of_mem _ q)), List.set_comm _ _ h1]
      exact go vs q
theorem mg_name {x : Str} {vs : List Nat} (i : Nat) (hN : X.N.Nodup) (hi : X.N[i]? = some x := by rfl) (hv : i ∈ vs := by decide) (hx : Loc X.env.scope x := by first | exact .inl rfl | exact .inr rfl) (hf : X.fn x = true ∨ X.env.scope.names.lookup x = some .local := by first | exact .inl rfl | exact .inr rfl | assumption) :
    MG G X (.Name x pos) (gN i) vs := ⟨gName i, pg_name hN hi hx hf, fun Z H L d v ρ σ ρ' Q E r e q => by
  cases e
  exact q _ (E.set i (.p r)) (wipe_set hv)⟩
theorem mgs_nil {vs : List Nat} : MGs G X [] gsNil vs := ⟨gNil, pgs_nil, fun Z H L d v ρ σ ρ' Q E r e q => by
  cases r with
  | nil => cases e; exact ⟨rfl, q σ E rfl⟩
  | cons _ _ => cases e⟩
theorem mgs_cons {e : Expr} {es : List Expr} {g : GD} {h : List D → Env → Option Env} {vs : List Nat} (a : MG G X e g vs) (b : MGs G X es h vs) (hs : (assignEach (e :: es) X.env).map (·.2) = assign e X.env :: (assignEach es X.env).map (·.2) := by rfl) : MGs G X (e :: es) (gsCons g h) vs := by
  obtain ⟨ga, a1, a2⟩ := a.ex
  obtain ⟨gb, b1, b2⟩ := b.ex
  refine ⟨_, pgs_cons a1 b1 hs, fun Z H L d v ρ σ ρ' Q E r e q => ?_⟩
  cases r with
  | nil => cases e
  | cons r t =>
    obtain ⟨ρ1, e1, e2⟩ := Option.bind_eq_some_iff.mp e
    refine ⟨_, _, rfl, a2 _ _ _ _ _ _ _ ρ1 _ E r e1 fun σ1 E1 w1 => ?_⟩
    exact b2 _ _ _ _ _ _ _ ρ' _ E1 t e2 fun σ2 E2 w2 => q σ2 E2 (w2.trans w1)
theorem mg_tup {es : List Expr} {k : Nat} {g : List D → Env → Option Env} {vs : List Nat} {n : Nat} (hK : G.K = X.K) (hc : X.calm = true) (h : MGs G X es g vs) (hn : (assignEach es X.env).length = n := by rfl) (hst : (assignEach es X.env).findIdx? (·.1) = none := by rfl) : MG G X (.Tuple es k pos) (gT g n) vs := by
  obtain ⟨ga, a1, a2⟩ := h.ex
  refine ⟨_, pg_tup hc a1 hn hst, fun Z H L d v ρ σ ρ' Q E r e q => ?_⟩
  unfold gT at e
  split at e
  · split at e
    · rename_i ds hl
      obtain ⟨a, ws, rfl, ha, ra⟩ := r.tup'
      exact ⟨a, ws, rfl, hK ▸ ha, by rw [← ra.length]; exact hl, a2 _ _ _ _ _ _ _ ρ' _ E ra e q⟩
    · cases e
  · cases e
end

/-! ### what is walked -/
def Yields (G : Wd) (Z : Zone) (J : It) (items : List D) (L1 : List Addr) (st1 : Sto) (H1 : Hp) : Prop := ∀ i Z' L st H, (∀ a, Z' a → Z a ∨ H1 a = none) → Fw Z L1 st1 H1 L st H → StOk G Z' L st H →
  (items.length ≤ i → J.stop i H) ∧ ∀ d, items[i]? = some d → J.go i H ∧ ∀ x H', J.yld i H x H' → Same H H' ∧ Rep G (Zof Z' L st) H' d x
theorem Fw.keepsZ {Z Z' : Zone} {L1 L : List Addr} {st1 st : Sto} {H1 H : Hp} (f : Fw Z L1 st1 H1 L st H) (hz : ∀ a, Z' a → Z a ∨ H1 a = none) : Keeps (Zof Z L1 st1) (Zof Z' L st) H1 H := fun a u e z => by
  obtain ⟨h1, h2⟩ := f.keeps a u e z
  refine ⟨h1, fun q => ?_⟩
  rcases q with q | q
  · rcases hz a q with q | q
    · exact h2 (.inl q)
    · rw [e] at q; cases q
  · exact h2 (.inr q)
def PostI (G : Wd) (Z : Zone) (W : WX) (σ : St) (L : List Addr) (st : Sto) (H : Hp) (r : Res (List D)) (R : It → Hp → Prop) : Prop := match r with
  | .ok ds st' => ∀ J H' L', Fw Z L st H L' st' H' → StOk G Z L' st' H' → Yields G Z J ds L' st' H' → R J H'
  | .exc c fs st' => ExP G Z L st H c fs st' fun cv dd H' => W cv dd σ H'
  | .stuck => False
def tMI (G : Wd) (W : WX) (f : DenL) : TI := fun σ H R => ∃ Z ρ st L, Stt G Z ρ st L σ H ∧ PostI G Z W σ L st H (f ρ st) R
abbrev MI (G : Wd) (W : WX) (X : Cx) (tg e : Expr) (f : DenL) : Prop := PI X tg e (tMI G W f)
theorem PostI.bind {α β : Type} {G : Wd} {Z : Zone} {W : WX} {R : Zone → Hp → α → β → Prop} {σ : St} {L : List Addr} {st : Sto} {H : Hp} {r : Res α} {k : α → Sto → Res (List D)} {RI : It → Hp → Prop} {Q : β → Hp → Prop}
    (h : PostI G Z W σ L st H (r.bind k) RI)
    (hk : ∀ d st1 v H1 L1, r = .ok d st1 → Fw Z L st H L1 st1 H1 → StOk G Z L1 st1 H1 → R (Zof Z L1 st1) H1 d v → PostI G Z W σ L1 st1 H1 (k d st1) RI → Q v H1) : PostR G Z W R σ L st H r Q := by
  cases r with
  | ok d st1 =>
    intro v H1 L1 f o rv
    refine hk d st1 v H1 L1 rfl f o rv ?_
    have h' : PostI G Z W σ L st H (k d st1) RI := h
    revert h'
    cases k d st1 with
    | ok d2 st2 => exact fun h' J H2 L2 f2 o2 r2 => h' J H2 L2 (f.trans f2) o2 r2
    | exc c fs st2 => exact fun h' => ExP.on (P := fun cv dd H' => W cv dd σ H') f h'
    | stuck => exact fun h' => h'
  | exc c fs st1 => exact h
  | stuck => exact h
def signs : List Nat → List D
  | [] => [] | c :: r => .str ⟨#[c]⟩ :: signs r
theorem signs_len : ∀ l, (signs l).length = l.length
  | [] => rfl | _ :: r => congrArg (· + 1) (signs_len r)
theorem signs_get : ∀ (l : List Nat) (i : Nat), (signs l)[i]? = (l[i]?).map fun c => D.str ⟨#[c]⟩
  | [], i => by simp [signs]
  | c :: r, 0 => by simp [signs]
  | c :: r, i + 1 => by simp only [signs, List.getElem?_cons_succ]; exact signs_get r i
/-- the things of a list, a tuple, a text -/
def itemsOf : D → Option (List D)
  | .lst ds => some ds | .tup ds => some ds | .str z => some (signs z.cps.toList) | _ => none
@[simp] def iSeq (f : Den) : DenL := fun ρ st => (f ρ st).bind fun d st => match itemsOf d with | some ds => .ok ds st | none => .stuck
def rngL (lo : Int) : Nat → List D
  | 0 => [] | n + 1 => .int lo :: rngL (lo + 1) n
theorem rngL_len : ∀ (n : Nat) (lo : Int), (rngL lo n).length = n
  | 0, _ => rfl | n + 1, lo => congrArg (· + 1) (rngL_len n (lo + 1))
theorem rngL_get : ∀ (n : Nat) (lo : Int) (i : Nat), i < n → (rngL lo n)[i]? = some (.int (lo + i))
  | n + 1, lo, 0, _ => by simp [rngL]
  | n + 1, lo, i + 1, h => by
    simp only [rngL, List.getElem?_cons_succ]
    rw [rngL_get n (lo + 1) i (by omega)]
    congr 2
    omega
noncomputable def bigR (i : Int) : Bool := decide (-4611686018427387904 ≤ i) && decide (i < 4611686018427387904)
@[simp] noncomputable def iRange1 (f : Den) : DenL := fun ρ st => (f ρ st).bind fun d st => match d with | .int j => if bigR j = true then .ok (rngL 0 j.toNat) st else .stuck | _ => .stuck
@[simp] noncomputable def iRange2 (f h : Den) : DenL := fun ρ st => (f ρ st).bind fun d st => (h ρ st).bind fun e st => match d, e with | .int i, .int j => if (bigR i && bigR j) = true then .ok (rngL i (j - i).toNat) st else .stuck | _, _ => .stuck
def enumL (n : Nat) : List D → List D
  | [] => [] | d :: r => .tup [.int n, d] :: enumL (n + 1) r
theorem enumL_len : ∀ (l : List D) (n : Nat), (enumL n l).length = l.length
  | [], _ => rfl | _ :: r, n => congrArg (· + 1) (enumL_len r (n + 1))
theorem enumL_get : ∀ (l : List D) (n i : Nat) (d : D), l[i]? = some d → (enumL n l)[i]? = some (.tup [.int (n + i : Nat), d])
  | [], _, _, _, h => by simp at h
  | x :: r, n, 0, d, h => by simp at h; subst h; simp [enumL]
  | x :: r, n, i + 1, d, h => by
    simp only [enumL, List.getElem?_cons_succ]
    rw [enumL_get r (n + 1) i d (by simpa using h)]
    rw [show n + 1 + i = n + (i + 1) by omega]
def zipL : List D → List D → List D
  | a :: r, b :: s => .tup [a, b] :: zipL r s | _, _ => []
theorem zipL_get : ∀ (l m : List D) (i : Nat) (a b : D), l[i]? = some a → m[i]? = some b → (zipL l m)[i]? = some (.tup [a, b])
  | [], _, _, _, _, h, _ => by simp at h
  | _ :: _, [], _, _, _, _, h => by simp at h
  | x :: r, y :: s, 0, a, b, h, h' => by simp at h h'; subst h h'; simp [zipL]
  | x :: r, y :: s, i + 1, a, b, h, h' => by simp only [zipL, List.getElem?_cons_succ]; exact zipL_get r s i a b (by simpa using h) (by simpa using h')
theorem zipL_len : ∀ (l m : List D), (zipL l m).length = min l.length m.length
  | [], m => by simp [zipL]
  | _ :: _, [] => by simp [zipL]
  | x :: r, y :: s => by simp only [zipL, List.length_cons]; rw [zipL_len r s]; omega
theorem zipL_none {l m : List D} {i : Nat} {d : D} (h : (zipL l m)[i]? = some d) : ∃ a b, l[i]? = some a ∧ m[i]? = some b ∧ d = .tup [a, b] := by
  have hl := (List.getElem?_eq_some_iff.mp h).1
  rw [zipL_len] at hl
  have h1 : i < l.length := by omega
  have h2 : i < m.length := by omega
  have e1 := List.getElem?_eq_getElem h1
  have e2 := List.getElem?_eq_getElem h2
  rw [zipL_get l m i _ _ e1 e2] at h
  exact ⟨_, _, e1, e2, (Option.some.inj h).symm⟩
section
variable {G : Wd} {W : WX} {X : Cx} {Z Z' : Zone} {H H' : Hp} {L L' : List Addr} {st st' : Sto} {tg e : Expr} {pos : Pos}
theorem Rep.rdTup {ds : List D} {v : V} (h : Rep G Z H (.tup ds) v) : ∃ a vs, v = .ref a ∧ ((Rd H a (.tup vs) ∧ ¬ Z a) ∨ KTup G.K a vs) ∧ Reps G Z H ds vs := by
  cases h with
  | tup r z h => exact ⟨_, _, rfl, .inl ⟨r, z⟩, h⟩
  | tupK r h => exact ⟨_, _, rfl, .inr r, h⟩
theorem Rep.rdLst {ds : List D} {v : V} (h : Rep G Z H (.lst ds) v) : ∃ a vs, v = .ref a ∧ Rd H a (.lst vs) ∧ ¬ Z a ∧ Reps G Z H ds vs := by
  cases h with
  | lst r z h => exact ⟨_, _, rfl, r, z, h⟩
theorem tupOn {K : PySem.W.Frag} {a : Addr} {vs : List V} (k : Keeps Z Z' H H') (h : (Rd H a (.tup vs) ∧ ¬ Z a) ∨ KTup K a vs) : SqT K H' a vs := by
  rcases h with ⟨h, z⟩ | h
  · exact .inl (k.rd h z (.inr (.inl ⟨_, rfl⟩))).1
  · exact .inr h
/-- a value walked: list, tuple, text -/
def iAny (K : PySem.W.Frag) (te : TE) : TI := fun σ H R => te σ H fun x H1 => (∃ a, x = .ref a ∧ (∃ xs, SqL K H1 a xs) ∧ R (Itl K a) H1) ∨ (∃ a, x = .ref a ∧ (∃ xs, SqT K H1 a xs) ∧ R (Itt K a) H1) ∨ (∃ z, x = .str z ∧ R (Its z) H1)
theorem pi_any {te : TE} (he : PE X e te) : PI X tg e (iAny X.K te) := by
  refine ⟨fun pins s σ H R I h => ?_⟩
  refine thn (he.run pins s σ H _ I h) fun v s1 ⟨y, H1, I1, r1, q⟩ => ?_
  rcases q with ⟨a, ex, ⟨xs, hq⟩, q⟩ | ⟨a, ex, ⟨xs, hq⟩, q⟩ | ⟨x, ex, q⟩
  · subst ex
    cases r1
    obtain ⟨its, rv, p, hz⟩ := I1.list hq
    refine wpAny_pyIter_list p.isList ?_
    refine ⟨s1.heap.objs.size, [s1.heap.objs.size], _, _, H1, rfl, I1.kept (t' := s1.toks) fun b o e => Heap.get?_push_of_some _ e, turn_list a _, ⟨_, Heap.get?_push_size _ rfl, rfl, rfl⟩, fun b hb => ?_, q⟩
    have e : b = s1.heap.objs.size := by simpa using hb
    subst e
    exact I1.fpOk (Nat.le_refl _) (I1.hok.fresh (Nat.le_refl _))
  · subst ex
    cases r1
    obtain ⟨its, rv, p, hz⟩ := I1.tuple hq
    refine wpAny_pyIter_tuple (show s1.heap.IsTuple a its.toArray from p) ?_
    refine ⟨s1.heap.objs.size, [s1.heap.objs.size], _, _, H1, rfl, I1.kept (t' := s1.toks) fun b o e => Heap.get?_push_of_some _ e, turn_tuple a _, ⟨_, Heap.get?_push_size _ rfl, rfl, rfl⟩, fun b hb => ?_, q⟩
    have e : b = s1.heap.objs.size := by simpa using hb
    subst e
    exact I1.fpOk (Nat.le_refl _) (I1.hok.fresh (Nat.le_refl _))
  · subst ex
    obtain ⟨t, rfl⟩ := r1
    cases ha : x.cps.all (· < 128)
    · exact wpAny_pyIter_wide ha (pi_one (tk := s1.toks) I1 _ (turn_str _ x t "str_iterator" (.inr rfl)) ⟨_, Heap.get?_push_size _ rfl, rfl, rfl⟩ q)
    · exact wpAny_pyIter_ascii ha (pi_one (tk := s1.toks) I1 _ (turn_str _ x t "str_ascii_iterator" (.inl rfl)) ⟨_, Heap.get?_push_size _ rfl, rfl, rfl⟩ q)
theorem PI.imp {t t' : TI} (h : PI X tg e t) (i : ∀ σ H R, t' σ H R → t σ H R) : PI X tg e t' := ⟨fun pins s σ H R I q => h.run pins s σ H R I (i σ H R q)⟩
theorem mi_seq {f : Den} (hK : G.K = X.K) (he : ME G W X e f) : MI G W X tg e (iSeq f) := PI.imp (pi_any he) fun σ H R q => by
  obtain ⟨Z, ρ, st, L, S, q⟩ := q
  refine ⟨Z, ρ, st, L, S, PostI.bind q fun d st1 x H1 L1 e f1 o1 r1 q1 => ?_⟩
  unfold itemsOf at q1
  split at q1
  · rename_i ds hd
    split at hd
    · cases hd
      obtain ⟨a, vs, rfl, h1, hz, h2⟩ := r1.rdLst
      refine .inl ⟨a, rfl, ⟨vs, .inl h1⟩, q1 _ H1 L1 Fw.refl o1 fun i Z2 L2 st2 H2 hz2 f2 o2 => ?_⟩
      have hq : SqL X.K H2 a vs := .inl ((f2.keepsZ hz2).rd h1 hz (.inl ⟨_, rfl⟩)).1
      refine ⟨fun hi => ⟨vs, hq, by rw [← h2.length]; exact hi⟩, fun d hd => ?_⟩
      obtain ⟨v, hv, rv⟩ := h2.get hd
      refine ⟨⟨vs, v, hq, hv⟩, fun x H' hy => ?_⟩
      obtain ⟨rfl, hx⟩ := hy
      have := hx vs hq
      rw [hv] at this
      cases this
      exact ⟨Same.refl _, rv.mono (f2.keepsZ hz2)⟩
    · cases hd
      obtain ⟨a, vs, rfl, h1, h2⟩ := r1.rdTup
      refine .inr (.inl ⟨a, rfl, ⟨vs, hK ▸ tupOn (Fw.refl (Z := Z)).keeps h1⟩, q1 _ H1 L1 Fw.refl o1 fun i Z2 L2 st2 H2 hz2 f2 o2 => ?_⟩)
      have hq : SqT X.K H2 a vs := hK ▸ tupOn (f2.keepsZ hz2) h1
      refine ⟨fun hi => ⟨vs, hq, by rw [← h2.length]; exact hi⟩, fun d hd => ?_⟩
      obtain ⟨v, hv, rv⟩ := h2.get hd
      refine ⟨⟨vs, v, hq, hv⟩, fun x H' hy => ?_⟩
      obtain ⟨rfl, hx⟩ := hy
      have := hx vs hq
      rw [hv] at this
      cases this
      exact ⟨Same.refl _, rv.mono (f2.keepsZ hz2)⟩
    · rename_i z
      cases hd
      refine .inr (.inr ⟨z, r1.str', q1 _ H1 L1 Fw.refl o1 fun i Z2 L2 st2 H2 hz2 f2 o2 => ⟨fun hi => ?_, fun d hd => ?_⟩⟩)
      · rw [signs_len] at hi
        show z.cps.size ≤ i
        simpa using hi
      · rw [signs_get] at hd
        obtain ⟨c, hc, rfl⟩ := Option.map_eq_some_iff.mp hd
        have hc' : z.cps[i]? = some c := by simpa using hc
        refine ⟨?_, fun x H' hy => ?_⟩
        · exact (Array.getElem?_eq_some_iff.mp hc').1
        · obtain ⟨rfl, c2, h3, rfl⟩ := hy
          rw [hc'] at h3
          cases h3
          exact ⟨Same.refl _, .str _⟩
    · cases hd
  · exact q1.elim
theorem yields_range {lo : Int} {n : Nat} : Yields G Z (Itr lo n) (rngL lo n) L st H := fun i Z2 L2 st2 H2 hz2 f2 o2 => by
  refine ⟨fun hi => by rw [rngL_len] at hi; exact hi, fun d hd => ?_⟩
  have hl := (List.getElem?_eq_some_iff.mp hd).1
  rw [rngL_len] at hl
  rw [rngL_get n lo i hl] at hd
  cases hd
  refine ⟨hl, fun x H' hy => ?_⟩
  obtain ⟨rfl, rfl⟩ := hy
  exact ⟨Same.refl _, .int _⟩
theorem mi_range1 {a : Expr} {f : Den} {p : Pos} (hm : X.mg "range" = none) (ha : ME G W X a f) (hg : Gl X "range" := by rfl) (hs1 : starEach [a] X.env = (false, eval a X.env) :: starEach [] X.env := by rfl) (hs : starEach [a] X.env = [(false, eval a X.env)] := by rfl) :
    MI G W X tg (.Call (.Name "range" p) [a] [] pos) (iRange1 f) := PI.imp (pi_range1 hg hm (pa_cons ha pa_nil hs1) hs) fun σ H R q => by
  obtain ⟨Z, ρ, st, L, S, q⟩ := q
  refine ⟨Z, ρ, st, L, S, PostI.bind q fun d st1 x H1 L1 e f1 o1 r1 q1 => ?_⟩
  split at q1
  · rename_i j
    split at q1
    · rename_i hb
      unfold bigR at hb
      rw [Bool.and_eq_true, decide_eq_true_eq, decide_eq_true_eq] at hb
      rw [r1.int']
      exact ⟨j, rfl, by omega, by omega, q1 _ H1 L1 Fw.refl o1 yields_range⟩
    · exact q1.elim
  · exact q1.elim
theorem mi_range2 {a b : Expr} {f h : Den} {p : Pos} (hm : X.mg "range" = none) (ha : ME G W X a f) (hb : ME G W X b h) (hg : Gl X "range" := by rfl) (hs1 : starEach [a, b] X.env = (false, eval a X.env) :: starEach [b] X.env := by rfl) (hs3 : starEach [b] X.env = (false, eval b X.env) :: starEach [] X.env := by rfl) (hs : starEach [a, b] X.env = [(false, eval a X.env), (false, eval b X.env)] := by rfl) (hs2 : starEach [b] X.env = [(false, eval b X.env)] := by rfl) :
    MI G W X tg (.Call (.Name "range" p) [a, b] [] pos) (iRange2 f h) := PI.imp (pi_range2 hg hm (pa_cons ha (pa_cons hb pa_nil hs3) hs1) hs hs2) fun σ H R q => by
  obtain ⟨Z, ρ, st, L, S, q⟩ := q
  refine ⟨Z, ρ, st, L, S, PostI.bind q fun d st1 x H1 L1 e f1 o1 r1 q1 => ?_⟩
  refine ⟨Z, ρ, st1, L1, S.to f1 o1, PostI.bind q1 fun d2 st2 y H2 L2 e2 f2 o2 r2 q2 => ?_⟩
  split at q2
  · rename_i i j
    split at q2
    · rename_i hb
      unfold bigR at hb
      simp only [Bool.and_eq_true, decide_eq_true_eq] at hb
      rw [r1.int', r2.int']
      exact ⟨i, j, rfl, ⟨by omega, by omega, by omega, by omega⟩, q2 _ H2 L2 Fw.refl o2 yields_range⟩
    · exact q2.elim
  · exact q2.elim
@[simp] def iZip (f h : Den) : DenL := fun ρ st => (f ρ st).bind fun d st => (h ρ st).bind fun e st => match d, e with | .lst a, .lst b => .ok (zipL a b) st | .tup a, .tup b => .ok (zipL a b) st | _, _ => .stuck
theorem mi_zip {a b : Expr} {f h : Den} {p tpos : Pos} {elts : List Expr} {kk : Nat} (hK : G.K = X.K) (hm : X.mg "zip" = none) (ha : ME G W X a f) (hb : ME G W X b h) (hg : Gl X "zip" := by rfl) (hs1 : starEach [a, b] X.env = (false, eval a X.env) :: starEach [b] X.env := by rfl) (hs3 : starEach [b] X.env = (false, eval b X.env) :: starEach [] X.env := by rfl)
    (hpl : (backTo pos (starEach [b] X.env)).any (·.1) = false := by rfl) : MI G W X (.Tuple elts kk tpos) (.Call (.Name "zip" p) [a, b] [] pos) (iZip f h) := PI.imp (RZ.pi_zipA hg hm (pa_cons ha (pa_cons hb pa_nil hs3) hs1) hs1 hpl) fun σ H R q => by
  obtain ⟨Z, ρ, st, L, S, q⟩ := q
  refine ⟨Z, ρ, st, L, S, PostI.bind q fun d st1 x H1 L1 e f1 o1 r1 q1 => ?_⟩
  refine ⟨Z, ρ, st1, L1, S.to f1 o1, PostI.bind q1 fun d2 st2 y H2 L2 e2 f2 o2 r2 q2 => ?_⟩
  have r1 := r1.mono f2.keeps
  split at q2
  · rename_i xs ys
    obtain ⟨a, vs, rfl, h1, hz, h2⟩ := r1.rdLst
    obtain ⟨b, ws, rfl, g1, gz, g2⟩ := r2.rdLst
    refine ⟨a, b, vs, ws, rfl, .inl ⟨.inl h1, .inl g1, q2 _ H2 L2 Fw.refl o2 fun i Z3 L3 st3 H3 hz3 f3 o3 => ?_⟩⟩
    have hq : SqL X.K H3 a vs := .inl ((f3.keepsZ hz3).rd h1 hz (.inl ⟨_, rfl⟩)).1
    have gq : SqL X.K H3 b ws := .inl ((f3.keepsZ hz3).rd g1 gz (.inl ⟨_, rfl⟩)).1
    refine ⟨fun hi => ?_, fun d hd => ?_⟩
    · rw [zipL_len, h2.length, g2.length] at hi
      exact ⟨vs, ws, hq, gq, by omega⟩
    · obtain ⟨da, db, e1, e2, rfl⟩ := zipL_none hd
      obtain ⟨va, k1, k2⟩ := h2.get e1
      obtain ⟨vb, k3, k4⟩ := g2.get e2
      refine ⟨⟨vs, ws, va, vb, hq, gq, k1, k3⟩, fun x H' hy => ?_⟩
      obtain ⟨T, xa, xb, rfl, nT, rfl, j1, j2⟩ := hy
      have j1 := j1 vs hq
      have j2 := j2 ws gq
      rw [k1] at j1
      rw [k3] at j2
      cases j1
      cases j2
      exact ⟨same_new nT, new_tup o3.inn (.cons (k2.mono (f3.keepsZ hz3)) (.cons (k4.mono (f3.keepsZ hz3)) .nil)) nT⟩
  · rename_i xs ys
    obtain ⟨a, vs, rfl, h1, h2⟩ := r1.rdTup
    obtain ⟨b, ws, rfl, g1, g2⟩ := r2.rdTup
    refine ⟨a, b, vs, ws, rfl, .inr ⟨hK ▸ tupOn (Fw.refl (Z := Z)).keeps h1, hK ▸ tupOn (Fw.refl (Z := Z)).keeps g1, q2 _ H2 L2 Fw.refl o2 fun i Z3 L3 st3 H3 hz3 f3 o3 => ?_⟩⟩
    have hq : SqT X.K H3 a vs := hK ▸ tupOn (f3.keepsZ hz3) h1
    have gq : SqT X.K H3 b ws := hK ▸ tupOn (f3.keepsZ hz3) g1
    refine ⟨fun hi => ?_, fun d hd => ?_⟩
    · rw [zipL_len, h2.length, g2.length] at hi
      exact ⟨vs, ws, hq, gq, by omega⟩
    · obtain ⟨da, db, e1, e2, rfl⟩ := zipL_none hd
      obtain ⟨va, k1, k2⟩ := h2.get e1
      obtain ⟨vb, k3, k4⟩ := g2.get e2
      refine ⟨⟨vs, ws, va, vb, hq, gq, k1, k3⟩, fun x H' hy => ?_⟩
      obtain ⟨T, xa, xb, rfl, nT, rfl, j1, j2⟩ := hy
      have j1 := j1 vs hq
      have j2 := j2 ws gq
      rw [k1] at j1
      rw [k3] at j2
      cases j1
      cases j2
      exact ⟨same_new nT, new_tup o3.inn (.cons (k2.mono (f3.keepsZ hz3)) (.cons (k4.mono (f3.keepsZ hz3)) .nil)) nT⟩
  · exact q2.elim
end
end M
namespace M
open PySem PySem.Spec L2

/-! ### comprehensions -/
abbrev W0 : WX := fun _ _ _ _ => False
@[simp] def eYes : DenB := fun _ st => .ok true st
def compL (g : GD) (ft : DenB) (fe : Den) (ρ : Env) : List D → Sto → Res (List D)
  | [], st => .ok [] st
  | x :: xs, st => match g x ρ with
    | none => .stuck
    | some ρ1 => match ft ρ1 st with
      | .ok true st => (match fe ρ1 st with
        | .ok d st => (compL g ft fe ρ xs st).bind fun ds st => .ok (d :: ds) st
        | _ => .stuck)
      | .ok false st => compL g ft fe ρ xs st
      | _ => .stuck
@[simp] noncomputable def eComp (fi : DenL) (g : GD) (ft : DenB) (fe : Den) (vs : List Nat) : Env → Sto → Res O := fun ρ st => (fi ρ st).bind fun items st => if items.length ≤ sizeLine then (compL g ft fe (wipeE ρ vs) items st).bind fun ds st => .ok (.lst ds) st else .stuck
abbrev MTs (G : Wd) (W : WX) (X : Cx) (es : List Expr) (f : DenB) : Prop := PTs X es (tMB G W f)
section
variable {G : Wd} {W : WX} {X : Cx} {Z Z' : Zone} {H H' : Hp} {L L' : List Addr} {st st' : Sto} {tg e : Expr} {pos : Pos}
theorem PTs.imp {es : List Expr} {t t' : TT} (h : PTs X es t) (i : ∀ σ H Q, t' σ H Q → t σ H Q) : PTs X es t' := ⟨fun pins s σ H Q I q => h.run pins s σ H Q I (i σ H Q q)⟩
theorem mts_nil : MTs G W X [] eYes := PTs.imp pts_nil fun σ H Q q => by
  obtain ⟨Z, ρ, st, L, S, q⟩ := q
  exact PostR.pure (W := W) (R := RB) S.ok q rfl
theorem mts_one {c : Expr} {f : DenB} (h : MT G W X c f) : MTs G W X [c] f := pts_one h
theorem wipe_get (σ : St) (i : Nat) : ∀ vs : List Nat, (wipe σ vs)[i]? = if i ∈ vs ∧ i < σ.length then some none else σ[i]?
  | [] => by simp [wipe]
  | v :: vs => by
    unfold wipe
    by_cases e : i = v
    · subst e
      by_cases hl : i < σ.length
      · rw [List.getElem?_set_self (by rw [wipe_length]; exact hl), if_pos ⟨List.mem_cons_self, hl⟩]
      · rw [List.getElem?_eq_none (by rw [List.length_set, wipe_length]; omega), if_neg (fun q => hl q.2), List.getElem?_eq_none (by omega)]
    · rw [List.getElem?_set_ne (Ne.symm e), wipe_get σ i vs]
      have : (i ∈ v :: vs) ↔ i ∈ vs := ⟨fun q => (List.mem_cons.mp q).resolve_left e, List.mem_cons_of_mem _⟩
      simp only [this]
theorem wipe_wipe (σ : St) (vs : List Nat) : wipe (wipe σ vs) vs = wipe σ vs := by
  apply List.ext_getElem?
  intro i
  rw [wipe_get (wipe σ vs) i vs, wipe_get σ i vs, wipe_length]
  split <;> rfl
/-- the state of a comprehension between two turns -/
structure CInv (G : Wd) (Z : Zone) (p : Addr) (L1 : List Addr) (st1 : Sto) (H1 : Hp) (items : List D) (i : Nat) (acc : List D) (L' : List Addr) (st' : Sto) (H' : Hp) : Prop where
  le : i ≤ items.length
  fw : Fw Z L1 st1 H1 L' st' H'
  ok : StOk G (Zp Z p) L' st' H'
  at_ : ∃ vs, H' p = some (.lst vs) ∧ Reps G (Zof (Zp Z p) L' st') H' acc vs
  len : acc.length ≤ i
theorem comp_core {fi : DenL} {gm : GD} {g : TG} {ft : DenB} {fe : Den} {vs : List Nat} (hg : GSim G g gm vs) {σ : St} {H : Hp} {Q : VK} (q : tMN G W (eComp fi gm ft fe vs) σ H Q) : tLc (tMI G W fi) g (tMB G W0 ft) (tM G W0 fe) vs σ H Q := by
  obtain ⟨Z, ρ, st, L, S, q⟩ := q
  refine ⟨Z, ρ, st, L, S, ?_⟩
  have qq : match fi ρ st with
    | .ok items st1 => (match (if items.length ≤ sizeLine then (compL gm ft fe (wipeE ρ vs) items st1).bind fun ds st => .ok (.lst ds) st else .stuck : Res O) with
      | .ok o st' => ∀ p H' L', FwN G Z L st H L' st' H' p → OOk G (Zof (fun a => Z a ∨ a = p) L' st') H' L' p o → Q (.ref p) H'
      | .exc c fs st' => ExP G Z L st H c fs st' fun cv dd H' => W cv dd σ H'
      | .stuck => False)
    | .exc c fs st' => ExP G Z L st H c fs st' fun cv dd H' => W cv dd σ H'
    | .stuck => False := by
    revert q
    unfold eComp
    cases fi ρ st <;> exact fun q => q
  clear q
  revert qq
  cases ei : fi ρ st with
  | stuck => exact fun q => q
  | exc c fs st1 => exact fun q => q
  | ok items st1 =>
    intro q J H1 L1 f1 o1 hy p hp
    have q : match (if items.length ≤ sizeLine then (compL gm ft fe (wipeE ρ vs) items st1).bind fun ds st => .ok (.lst ds) st else .stuck : Res O) with
      | .ok o st' => ∀ p H' L', FwN G Z L st H L' st' H' p → OOk G (Zof (fun a => Z a ∨ a = p) L' st') H' L' p o → Q (.ref p) H'
      | .exc c fs st' => ExP G Z L st H c fs st' fun cv dd H' => W cv dd σ H'
      | .stuck => False := q
    by_cases hz : items.length ≤ sizeLine
    · rw [if_pos hz] at q
      have S1 := S.to f1 o1
      obtain ⟨C, hC0⟩ : ∃ C, compL gm ft fe (wipeE ρ vs) items st1 = C := ⟨_, rfl⟩
      rw [hC0] at q
      have noExc : ∀ (items : List D) (st : Sto) c fs st', compL gm ft fe (wipeE ρ vs) items st ≠ .exc c fs st' := by
        intro items
        induction items with
        | nil => intro st c fs st' h; cases h
        | cons d r ih =>
          intro st c fs st' h
          unfold compL at h
          split at h
          · cases h
          · split at h
            · split at h
              · rename_i d2 st2 _
                cases hr : compL gm ft fe (wipeE ρ vs) r st2 with
                | ok ds st3 => rw [hr] at h; cases h
                | exc c2 fs2 st3 => exact ih _ _ _ _ hr
                | stuck => rw [hr] at h; cases h
              · cases h
            · exact ih _ _ _ _ h
            · cases h
      cases hC1 : C with
      | stuck => rw [hC1] at q; exact q.elim
      | exc c fs st' => exact absurd (hC0.trans hC1) (noExc _ _ _ _ _)
      | ok all stE =>
      rw [hC1] at q hC0
      have q : ∀ p H' L', FwN G Z L st H L' stE H' p → OOk G (Zof (fun a => Z a ∨ a = p) L' stE) H' L' p (.lst all) → Q (.ref p) H' := q
      refine ⟨fun i m H' => ∃ acc L' st', m = items.length - i ∧ CInv G Z p L1 st1 H1 items i acc L' st' H' ∧ (compL gm ft fe (wipeE ρ vs) (items.drop i) st').bind (fun ds st => .ok (acc ++ ds) st) = .ok all stE, ⟨items.length, [], L1, st1, by simp, ⟨Nat.zero_le _, Fw.same (same_new hp), o1.enter hp, ⟨[], upd_same, .nil⟩, Nat.le_refl _⟩, ?_⟩, ?_⟩
      · rw [List.drop_zero, hC0]
        rfl
      · rintro i m H' ⟨acc, L', st', rfl, I, hC⟩
        have hzz : ∀ a, Zp Z p a → Z a ∨ H1 a = none := fun a z => z.elim .inl fun e => .inr (by rw [e]; exact hp)
        obtain ⟨ys, yi⟩ := hy i (Zp Z p) L' st' H' hzz I.fw I.ok
        by_cases hi : i < items.length
        · obtain ⟨d, hd⟩ : ∃ d, items[i]? = some d := ⟨_, List.getElem?_eq_getElem hi⟩
          obtain ⟨go, hyl⟩ := yi d hd
          have hdrop : items.drop i = d :: items.drop (i + 1) := by
            rw [List.drop_eq_getElem_cons hi]
            rw [List.getElem?_eq_getElem hi] at hd
            cases hd
            rfl
          rw [hdrop] at hC
          unfold compL at hC
          refine .inr ⟨go, fun H2 => ∃ acc L' st', CInv G Z p L1 st1 H1 items (i + 1) acc L' st' H2 ∧ (compL gm ft fe (wipeE ρ vs) (items.drop (i + 1)) st').bind (fun ds st => .ok (acc ++ ds) st) = .ok all stE, fun H2 ⟨acc, L', st', I2, h2⟩ => ⟨_, by omega, acc, L', st', rfl, I2, h2⟩, fun x H2 hyx => ?_⟩
          obtain ⟨sm, rx⟩ := hyl x H2 hyx
          have k2 : Keeps (Zof (Zp Z p) L' st') (Zof (Zp Z p) L' st') H' H2 := Same.keeps sm
          have ok2 : StOk G (Zp Z p) L' st' H2 := I.ok.same sm
          have fw2 : Fw Z L1 st1 H1 L' st' H2 := I.fw.trans (Fw.same sm)
          have E2 : EnvOk G (Zof (Zp Z p) L' st') H2 L' (wipeE ρ vs) (wipe σ vs) := by
            have a2 : EnvOk G (Zof (Zp Z p) L' st') H2 L' ρ σ := ⟨S1.env.1, fun i s e => by
              obtain ⟨v, e2, r⟩ := S1.env.2 i s e
              refine ⟨v, e2, ?_⟩
              cases r with
              | p r => exact .p (r.mono (fw2.keepsZ hzz))
              | r e3 => exact .r (I.fw.get e3)⟩
            exact a2.wipe vs
          cases eg : gm d (wipeE ρ vs) with
          | none => rw [eg] at hC; cases hC
          | some ρ1 =>
            rw [eg] at hC
            refine hg _ _ _ _ _ _ _ ρ1 _ E2 rx eg fun σ2 E3 w2 => ⟨w2.trans (wipe_wipe σ vs), Zp Z p, ρ1, st', L', ⟨ok2, E3⟩, ?_⟩
            have hC : (match ft ρ1 st' with
              | .ok true st => (match fe ρ1 st with
                | .ok d st => (compL gm ft fe (wipeE ρ vs) (items.drop (i + 1)) st).bind fun ds st => .ok (d :: ds) st
                | _ => .stuck)
              | .ok false st => compL gm ft fe (wipeE ρ vs) (items.drop (i + 1)) st
              | _ => .stuck : Res (List D)).bind (fun ds st => .ok (acc ++ ds) st) = .ok all stE := hC
            cases et : ft ρ1 st' with
            | stuck => rw [et] at hC; cases hC
            | exc c fs st3 => rw [et] at hC; cases hC
            | ok b st3 =>
              rw [et] at hC
              intro b' H3 L3 f3 o3 rb
              have rb : b = b' := rb
              subst rb
              have fw3 : Fw Z L1 st1 H1 L3 st3 H3 := fw2.trans (f3.zone fun a z => .inl z)
              obtain ⟨ws, hw, rw_⟩ := I.at_
              have hw3 : H3 p = some (.lst ws) := f3.zk p _ (.inr rfl) (sm _ _ hw)
              have rw3 := (rw_.mono k2).mono f3.keeps
              cases b with
              | false =>
                exact ⟨acc, L3, st3, ⟨hi, fw3, o3, ⟨ws, hw3, rw3⟩, Nat.le_succ_of_le I.len⟩, hC⟩
              | true =>
                refine ⟨Zp Z p, ρ1, st3, L3, ⟨o3, E3.mono f3⟩, ?_⟩
                have hC : (match fe ρ1 st3 with
                  | .ok d st => (compL gm ft fe (wipeE ρ vs) (items.drop (i + 1)) st).bind fun ds st => .ok (d :: ds) st
                  | _ => .stuck : Res (List D)).bind (fun ds st => .ok (acc ++ ds) st) = .ok all stE := hC
                cases ee : fe ρ1 st3 with
                | stuck => rw [ee] at hC; cases hC
                | exc c fs st4 => rw [ee] at hC; cases hC
                | ok y st4 =>
                  rw [ee] at hC
                  intro v H4 L4 f4 o4 ry
                  have fw4 : Fw Z L1 st1 H1 L4 st4 H4 := fw3.trans (f4.zone fun a z => .inl z)
                  have hw4 : H4 p = some (.lst ws) := f4.zk p _ (.inr rfl) hw3
                  have rw4 := rw3.mono f4.keeps
                  have hl := rw4.length
                  refine ⟨ws, hw4, by have := I.len; omega, acc ++ [y], L4, st4, ⟨hi, Fw.own hp fw4, o4.own, ⟨ws ++ [v], upd_same, (rw4.append (.cons ry .nil)).mono keeps_own⟩, ?_⟩, ?_⟩
                  · rw [List.length_append, List.length_singleton]
                    have := I.len; omega
                  · have hC : ((compL gm ft fe (wipeE ρ vs) (items.drop (i + 1)) st4).bind fun ds st => .ok (y :: ds) st).bind (fun ds st => .ok (acc ++ ds) st) = .ok all stE := hC
                    rw [← hC]
                    cases compL gm ft fe (wipeE ρ vs) (items.drop (i + 1)) st4 with
                    | ok ds st5 => simp only [Res.bind, List.append_assoc, List.singleton_append]
                    | exc c fs st5 => rfl
                    | stuck => rfl
        · have e : i = items.length := by have := I.le; omega
          subst e
          rw [List.drop_length] at hC
          have hC : Res.ok (acc ++ []) st' = .ok all stE := hC
          rw [List.append_nil] at hC
          cases hC
          refine .inl ⟨ys (Nat.le_refl _), q p H' L' ⟨f1.trans I.fw, I.ok, ?_⟩ I.at_⟩
          cases qh : H p with
          | none => rfl
          | some o => exact absurd hp (f1.there p (by rw [qh]; simp))
    · rw [if_neg hz] at q
      exact q.elim
/-- [elt for tg in iter if ..] -/
theorem mn_comp {elt iter : Expr} {ifs : List Expr} {scope : Scope} {own : List (Str × Nat)} {fi : DenL} {gm : GD} {ft : DenB} {fe : Den} {g : TG} (hc : X.calm = true) (hN : X.N.Nodup) (hi : MI G W X tg iter fi) (ok : BlkOk X.N X.env.scope scope own) (hsim : GSim G g gm (own.map (·.2)))
    (hg : ∀ (s : Shared) (H : Hp) (C : Addr) (cl : List (Str × Addr)) (fp : List Addr), PG (X.blk s H scope (compEnvC scope cl C X.env) fp) tg g) (ht : ∀ (s : Shared) (H : Hp) (C : Addr) (cl : List (Str × Addr)) (fp : List Addr), MTs G W0 (X.blk s H scope (compEnvC scope cl C X.env) fp) ifs ft)
    (he : ∀ (s : Shared) (H : Hp) (C : Addr) (cl : List (Str × Addr)) (fp : List Addr), ME G W0 (X.blk s H scope (compEnvC scope cl C X.env) fp) elt fe) (hs : ∀ x, foldedSetIterable iter X.env x = pure x := by intro _; rfl) :
    MN G W X (.ListComp elt [⟨tg, iter, ifs, 0⟩] scope pos) (eComp fi gm ft fe (own.map (·.2))) :=
  PE.imp (pe_lc hc hN hi ok hg ht he hs) fun σ H Q q => comp_core hsim q
end
end M
namespace M
open PySem PySem.Spec L2

/-! ### statements -/
@[simp] def sNil : SDen := fun ρ st => .next ρ st
@[simp] def sSeq (f h : SDen) : SDen := fun ρ st => match f ρ st with | .next ρ st => h ρ st | r => r
/-- an expression's value handed to a statement's end -/
@[simp] def sOf {α : Type} (f : Env → Sto → Res α) (k : α → Env → Sto → SRes) : SDen := fun ρ st => match f ρ st with | .ok d st => k d ρ st | .exc c fs st => .exc c fs ρ st | .stuck => .stuck
@[simp] def sSet (i : Nat) (f : Den) : SDen := fun ρ st => sOf f (fun d ρ st => .next (ρ.set i (some (.p d))) st) ρ st
@[simp] def sNew (i : Nat) (f : Env → Sto → Res O) : SDen := fun ρ st => sOf f (fun o ρ st => .next (ρ.set i (some (.r st.length))) (st ++ [o])) ρ st
@[simp] def sExpr (f : Den) : SDen := fun ρ st => sOf f (fun _ ρ st => .next ρ st) ρ st
@[simp] def sRet (f : Den) : SDen := fun ρ st => sOf f (fun d ρ st => .ret d st) ρ st
@[simp] def sRetN : SDen := fun _ st => .ret .non st
@[simp] def sIf (c : DenB) (a b : SDen) : SDen := fun ρ st => sOf c (fun k ρ st => if k = true then a ρ st else b ρ st) ρ st
@[simp] def sAsg (g : GD) (f : Den) : SDen := fun ρ st => sOf f (fun d ρ st => match g d ρ with | some ρ => .next ρ st | none => .stuck) ρ st
@[simp] def sBreak : SDen := fun ρ st => .brk ρ st
@[simp] def sCont : SDen := fun ρ st => .cont ρ st
@[simp] def sNever : SDen := fun _ _ => .stuck
def forL (g : GD) (fb : SDen) : List D → Env → Sto → SRes
  | [], ρ, st => .next ρ st
  | x :: xs, ρ, st => match g x ρ with
    | none => .stuck
    | some ρ1 => match fb ρ1 st with
      | .next ρ st => forL g fb xs ρ st
      | .cont ρ st => forL g fb xs ρ st
      | .brk ρ st => .next ρ st
      | r => r
@[simp] def sFor (fi : DenL) (g : GD) (fb : SDen) : SDen := fun ρ st => sOf fi (fun ds ρ st => forL g fb ds ρ st) ρ st
def whileL (fc : DenB) (fb : SDen) : Nat → Env → Sto → SRes
  | 0, _, _ => .stuck
  | n + 1, ρ, st => match fc ρ st with
    | .ok true st => (match fb ρ st with
      | .next ρ st => whileL fc fb n ρ st
      | .cont ρ st => whileL fc fb n ρ st
      | .brk ρ st => .next ρ st
      | r => r)
    | .ok false st => .next ρ st
    | .exc c fs st => .exc c fs ρ st
    | .stuck => .stuck
@[simp] def sWhile (n : Nat) (fc : DenB) (fb : SDen) : SDen := fun ρ st => whileL fc fb n ρ st
section
variable {G : Wd} {W : WX} {X : Cx} {Z Z' : Zone} {H H' : Hp} {L L' : List Addr} {st st' : Sto} {tg e : Expr} {pos : Pos}
theorem PostS.on {r : SRes} {E : Ends} (f : Fw Z L st H L' st' H') (h : PostS G Z W L st H r E) : PostS G Z W L' st' H' r E := by
  cases r with
  | next ρ s => exact fun σ' H2 L2 g S => h σ' H2 L2 (f.trans g) S
  | ret d s => exact fun v H2 L2 g o r => h v H2 L2 (f.trans g) o r
  | brk ρ s => exact fun σ' H2 L2 g S => h σ' H2 L2 (f.trans g) S
  | cont ρ s => exact fun σ' H2 L2 g S => h σ' H2 L2 (f.trans g) S
  | exc c fs ρ s => exact fun σ' H2 L2 C dd vfs g S => h σ' H2 L2 C dd vfs (f.trans g) S
  | stuck => exact h
theorem PostR.bindS {α β : Type} {R : Zone → Hp → α → β → Prop} {σ : St} {ρ : Env} {r : Res α} {k : α → Sto → SRes} {E : Ends} {Q : β → Hp → Prop} (S : Stt G Z ρ st L σ H)
    (h : PostS G Z W L st H (match r with | .ok d st => k d st | .exc c fs st => .exc c fs ρ st | .stuck => .stuck) E)
    (hk : ∀ d st1 v H1 L1, r = .ok d st1 → Fw Z L st H L1 st1 H1 → Stt G Z ρ st1 L1 σ H1 → R (Zof Z L1 st1) H1 d v → PostS G Z W L1 st1 H1 (k d st1) E → Q v H1) : PostR G Z W R σ L st H r Q := by
  cases r with
  | ok d st1 => exact fun v H1 L1 f o rv => hk d st1 v H1 L1 rfl f (S.to f o) rv (PostS.on f h)
  | exc c fs st1 => exact fun H' L' C dd vfs f o hC hd hr => h σ H' L' C dd vfs f (S.to f o) hC hd hr
  | stuck => exact h
theorem mss_nil : MSs G W X [] sNil := PSs.imp pss_nil fun E σ H q => by
  obtain ⟨Z, ρ, st, L, S, q⟩ := q
  exact q σ H L Fw.refl S
theorem seqS {f h : SDen} {σ : St} {H : Hp} {E : Ends} (q : tMS G W (sSeq f h) E σ H) : tMS G W f { E with nx := tMS G W h E } σ H := by
  obtain ⟨Z, ρ, st, L, S, q⟩ := q
  refine ⟨Z, ρ, st, L, S, ?_⟩
  unfold sSeq at q
  revert q
  cases f ρ st with
  | next ρ1 st1 => exact fun q σ1 H1 L1 f1 S1 => ⟨Z, ρ1, st1, L1, S1, PostS.on f1 q⟩
  | ret d s => exact fun q => q
  | brk ρ s => exact fun q => q
  | cont ρ s => exact fun q => q
  | exc c fs ρ s => exact fun q => q
  | stuck => exact fun q => q
theorem mss_cons {s : Stmt} {r : List Stmt} {f h : SDen} (h1 : MS G W X s f) (h2 : MSs G W X r h) : MSs G W X (s :: r) (sSeq f h) := PSs.imp (pss_cons h1 h2) fun E σ H q => seqS q
theorem mss_one {s : Stmt} {f : SDen} (h1 : MS G W X s f) : MSs G W X [s] f := pss_one h1
theorem ms_pass : MS G W X (.Pass pos) sNil := PS.imp ps_pass fun E σ H q => by
  obtain ⟨Z, ρ, st, L, S, q⟩ := q
  exact q σ H L Fw.refl S
theorem ms_doc {x j p2} : MS G W X (.Expr (.Constant (.str x) j p2) pos) sNil := PS.imp ps_doc fun E σ H q => by
  obtain ⟨Z, ρ, st, L, S, q⟩ := q
  exact q σ H L Fw.refl S
theorem ms_break : MS G W X (.Break pos) sBreak := PS.imp ps_break fun E σ H q => by
  obtain ⟨Z, ρ, st, L, S, q⟩ := q
  exact q σ H L Fw.refl S
theorem ms_cont : MS G W X (.Continue pos) sCont := PS.imp ps_continue fun E σ H q => by
  obtain ⟨Z, ρ, st, L, S, q⟩ := q
  exact q σ H L Fw.refl S
theorem ms_never {s : Stmt} : MS G W X s sNever := PS.imp ps_never fun E σ H q => by
  obtain ⟨Z, ρ, st, L, S, q⟩ := q
  exact q
theorem ms_ret {f : Den} (h : ME G W X e f) : MS G W X (.Return (some e) pos) (sRet f) := PS.imp (ps_ret h) fun E σ H q => by
  obtain ⟨Z, ρ, st, L, S, q⟩ := q
  exact ⟨Z, ρ, st, L, S, PostR.bindS S q fun d st1 v H1 L1 e1 f1 S1 r1 q1 => q1 v H1 L1 Fw.refl S1.ok r1⟩
theorem ms_retN : MS G W X (.Return none pos) sRetN := PS.imp ps_retN fun E σ H q => by
  obtain ⟨Z, ρ, st, L, S, q⟩ := q
  exact q _ H L Fw.refl S.ok .non
theorem ms_expr {f : Den} (h : ME G W X e f) (hs : swapsWith e none pos.line X.env = pure false := by rfl) : MS G W X (.Expr e pos) (sExpr f) := PS.imp (ps_expr h hs) fun E σ H q => by
  obtain ⟨Z, ρ, st, L, S, q⟩ := q
  exact ⟨Z, ρ, st, L, S, PostR.bindS S q fun d st1 v H1 L1 e1 f1 S1 r1 q1 => q1 σ H1 L1 Fw.refl S1⟩
theorem ms_if {c : Expr} {a b : List Stmt} {fc : DenB} {f h : SDen} (hc : MT G W X c fc) (ha : MSs G W X a f) (hb : MSs G W X b h) : MS G W X (.If c a b pos) (sIf fc f h) := PS.imp (ps_if hc ha hb) fun E σ H q => by
  obtain ⟨Z, ρ, st, L, S, q⟩ := q
  refine ⟨Z, ρ, st, L, S, PostR.bindS S q fun d st1 v H1 L1 e1 f1 S1 r1 q1 => ?_⟩
  have r1 : d = v := r1
  subst r1
  cases d with
  | true => exact ⟨Z, ρ, st1, L1, S1, q1⟩
  | false => exact ⟨Z, ρ, st1, L1, S1, q1⟩
theorem ms_set {x : Str} {p2 : Pos} {f : Den} (i : Nat) (hN : X.N.Nodup) (h : ME G W X e f) (hi : X.N[i]? = some x := by rfl) (hx : Loc X.env.scope x := by first | exact .inl rfl | exact .inr rfl) (hs : swapsWith e (some (.Name x p2)) pos.line X.env = pure false := by rfl) (hf : X.fn x = true ∨ X.env.scope.names.lookup x = some .local := by first | exact .inl rfl | exact .inr rfl | assumption) :
    MS G W X (.Assign [.Name x p2] e pos) (sSet i f) := PS.imp (ps_set hN hi hx h hs hf) fun E σ H q => by
  obtain ⟨Z, ρ, st, L, S, q⟩ := q
  exact ⟨Z, ρ, st, L, S, PostR.bindS S q fun d st1 v H1 L1 e1 f1 S1 r1 q1 => q1 _ H1 L1 Fw.refl ⟨S1.ok, S1.env.set i (.p r1)⟩⟩
/-- a new thing of one's own comes into the store -/
theorem alloc {σ : St} {ρ : Env} {L0 : List Addr} {st0 : Sto} {H0 : Hp} {o : O} {p : Addr} (SS : Stt G Z ρ st0 L0 σ H0) (f : FwN G Z L0 st0 H0 L st H p) (ok : OOk G (Zof (fun a => Z a ∨ a = p) L st) H L p o) :
    Fw Z L0 st0 H0 (L ++ [p]) (st ++ [o]) H ∧ StOk G Z (L ++ [p]) (st ++ [o]) H ∧ EnvOk G (Zof Z (L ++ [p]) (st ++ [o])) H (L ++ [p]) ρ σ := by
  have hlen := f.ok.len
  have pz : ¬ Z p := fun z => SS.ok.z0 p z f.new
  have pl : p ∉ L := fun m => f.ok.zl p m (.inr rfl)
  have hp : H p ≠ none := f.ok.z0 p (.inr rfl)
  have fw : Fw Z L0 st0 H0 (L ++ [p]) (st ++ [o]) H := by
    refine ⟨?_, f.fr.keep, f.fr.there, f.fr.zk, fun n o' hn e l => ?_⟩
    · obtain ⟨M, rfl, hM⟩ := f.fr.pre
      refine ⟨M ++ [p], by simp, fun a ha => ?_⟩
      rcases List.mem_append.mp ha with ha | ha
      · exact hM a ha
      · rw [List.mem_singleton.mp ha]; exact f.new
    · have hn' : n < st.length := by
        obtain ⟨M, rfl, hM⟩ := f.fr.pre
        rw [← hlen, List.length_append]; omega
      rw [List.getElem?_append_left hn'] at e
      exact f.fr.live n o' hn e l
  have zz : ∀ a, Zof Z (L ++ [p]) (st ++ [o]) a → Zof (fun a => Z a ∨ a = p) L st a := fun a z => by
    rcases z with z | ⟨n, u, e1, e2, l⟩
    · exact .inl (.inl z)
    · by_cases hn : n < L.length
      · rw [List.getElem?_append_left hn] at e1
        rw [List.getElem?_append_left (by omega)] at e2
        exact .inr ⟨n, u, e1, e2, l⟩
      · rw [List.getElem?_append_right (by omega)] at e1
        have : n - L.length = 0 := by
          obtain ⟨h, _⟩ := List.getElem?_eq_some_iff.mp e1
          simpa using h
        rw [this] at e1
        exact .inl (.inr (by simpa using e1.symm))
  have up : ∀ {s : S} {v : V}, SRep G (Zof (fun a => Z a ∨ a = p) L st) H L s v → SRep G (Zof Z (L ++ [p]) (st ++ [o])) H (L ++ [p]) s v := fun {s v} r => by
    cases r with
    | p r => exact .p (r.zone zz)
    | r e => exact .r (by rw [List.getElem?_append_left (List.getElem?_eq_some_iff.mp e).1]; exact e)
  have upF : ∀ {fs : List (Str × S)} {vs : List (Str × V)}, SRepF G (Zof (fun a => Z a ∨ a = p) L st) H L fs vs → SRepF G (Zof Z (L ++ [p]) (st ++ [o])) H (L ++ [p]) fs vs := fun {fs} => by
    induction fs with
    | nil => intro vs r; cases r; exact .nil
    | cons x fs ih => intro vs r; cases r with | cons a b => exact .cons (up a) (ih b)
  have upO : ∀ {a : Addr} {u : O}, OOk G (Zof (fun a => Z a ∨ a = p) L st) H L a u → OOk G (Zof Z (L ++ [p]) (st ++ [o])) H (L ++ [p]) a u := fun {a u} h => by
    cases u with
    | lst ds => obtain ⟨vs, h1, h2⟩ := h; exact ⟨vs, h1, h2.zone zz⟩
    | dic ds =>
      rcases h with ⟨vs, h1, h2⟩ | ⟨vs, h1, h2⟩
      · exact .inl ⟨vs, h1, h2.zone zz⟩
      · exact .inr ⟨vs, h1, h2.zone zz⟩
    | ins c fs => obtain ⟨C, dx, vfs, h1, h2, h3⟩ := h; exact ⟨C, dx, vfs, h1, h2, upF h3⟩
    | frz d => exact Rep.zone zz h
    | dead => trivial
  refine ⟨fw, ⟨by simp [hlen], ?_, fun n a u e1 e2 => ?_, fun a z => f.ok.z0 a (.inl z), fun a m z => ?_, fun a m => ?_⟩, SS.env.mono fw⟩
  · rw [List.nodup_append]
    exact ⟨f.ok.nd, by simp, fun a ha b hb e => pl (by rw [List.mem_singleton.mp hb] at e; rw [← e]; exact ha)⟩
  · by_cases hn : n < L.length
    · rw [List.getElem?_append_left hn] at e1
      rw [List.getElem?_append_left (by omega)] at e2
      exact upO (f.ok.obj n a u e1 e2)
    · rw [List.getElem?_append_right (by omega)] at e1
      rw [List.getElem?_append_right (by omega)] at e2
      have h0 : n - L.length = 0 := by
        obtain ⟨h, _⟩ := List.getElem?_eq_some_iff.mp e1
        simpa using h
      rw [h0] at e1
      rw [← hlen, h0] at e2
      have ea : p = a := by simpa using e1
      have eu : o = u := by simpa using e2
      subst ea eu
      exact upO ok
  · rcases List.mem_append.mp m with m | m
    · exact f.ok.zl a m (.inl z)
    · rw [List.mem_singleton.mp m] at z; exact pz z
  · rcases List.mem_append.mp m with m | m
    · exact f.ok.lh a m
    · rw [List.mem_singleton.mp m]; exact hp
/-- x = a new thing of one's own that goes on being changed -/
theorem newS {f : Env → Sto → Res O} {i : Nat} {σ : St} {H : Hp} {E : Ends} (q : tMS G W (sNew i f) E σ H) : tMN G W f σ H fun x H1 => gName i x σ H1 E.nx := by
  obtain ⟨Z, ρ, st, L, S, q⟩ := q
  refine ⟨Z, ρ, st, L, S, ?_⟩
  unfold sNew sOf at q
  revert q
  cases f ρ st with
  | stuck => exact fun q => q
  | exc c fs st1 => exact fun q H' L' C dd vfs f o hC hd hr => q σ H' L' C dd vfs f (S.to f o) hC hd hr
  | ok o st1 =>
    intro q p H1 L1 fn ok
    obtain ⟨f2, o2, e2⟩ := alloc S fn ok
    refine q _ H1 (L1 ++ [p]) f2 ⟨o2, e2.set i (.r ?_)⟩
    rw [← fn.ok.len, List.getElem?_append_right (Nat.le_refl _)]
    simp
theorem ms_new {x : Str} {p2 : Pos} {f : Env → Sto → Res O} (i : Nat) (hN : X.N.Nodup) (h : MN G W X e f) (hi : X.N[i]? = some x := by rfl) (hx : Loc X.env.scope x := by first | exact .inl rfl | exact .inr rfl) (hs : swapsWith e (some (.Name x p2)) pos.line X.env = pure false := by rfl) (hf : X.fn x = true ∨ X.env.scope.names.lookup x = some .local := by first | exact .inl rfl | exact .inr rfl | assumption) :
    MS G W X (.Assign [.Name x p2] e pos) (sNew i f) := PS.imp (ps_set hN hi hx h hs hf) fun E σ H q => newS q
theorem ms_asg {f : Den} {g : GD} {vs : List Nat} (h : ME G W X e f) (hg : MG G X tg g vs) (hs : swapsWithSole [tg] e pos.line X.env = pure false := by rfl) (hw : swappedStores [tg] e X.env = pure none := by rfl)
    (h1 : (assignEach [tg] X.env).map (·.2) = [assign tg X.env] := by rfl) : MS G W X (.Assign [tg] e pos) (sAsg g f) := by
  obtain ⟨gt, g1, g2⟩ := hg.ex
  refine PS.imp (ps_asg h g1 hs hw h1) fun E σ H q => ?_
  obtain ⟨Z, ρ, st, L, S, q⟩ := q
  refine ⟨Z, ρ, st, L, S, PostR.bindS S q fun d st1 v H1 L1 e1 f1 S1 r1 q1 => ?_⟩
  have q1 : PostS G Z W L1 st1 H1 (match g d ρ with | some ρ => .next ρ st1 | none => .stuck) E := q1
  split at q1
  · rename_i ρ' eg
    exact g2 _ _ _ _ _ _ _ ρ' _ S1.env r1 eg fun σ' E' w => q1 σ' H1 L1 Fw.refl ⟨S1.ok, E'⟩
  · exact q1.elim
theorem ms_for {iter : Expr} {body : List Stmt} {fi : DenL} {g : GD} {fb : SDen} {vs : List Nat} (hp : PassesOwn (model X.prog X.w) X.A X.env X.xe) (hc : X.calm = true) (hi : MI G W X tg iter fi) (hg : MG G X tg g vs) (hb : MSs G W X body fb)
    (hs : ∀ x, foldedSetIterable iter X.env x = pure x := by intro _; rfl) : MS G W X (.For tg iter body [] pos) (sFor fi g fb) := by
  obtain ⟨gt, g1, g2⟩ := hg.ex
  refine PS.imp (ps_for hp hc hi g1 hb hs) fun E σ H q => ?_
  obtain ⟨Z, ρ, st, L, S, q⟩ := q
  refine ⟨Z, ρ, st, L, S, ?_⟩
  unfold sFor sOf at q
  revert q
  cases fi ρ st with
  | stuck => exact fun q => q
  | exc c fs st1 => exact fun q H' L' C dd vfs f o hC hd hr => q σ H' L' C dd vfs f (S.to f o) hC hd hr
  | ok items st1 =>
    intro q J H1 L1 f1 o1 hy
    have q : PostS G Z W L st H (forL g fb items ρ st1) E := q
    refine ⟨fun i m σ' H' => ∃ ρ' st' L', m = items.length - i ∧ i ≤ items.length ∧ Fw Z L1 st1 H1 L' st' H' ∧ Stt G Z ρ' st' L' σ' H' ∧ PostS G Z W L' st' H' (forL g fb (items.drop i) ρ' st') E, ⟨items.length, ρ, st1, L1, by simp, Nat.zero_le _, Fw.refl, S.to f1 o1, by rw [List.drop_zero]; exact PostS.on f1 q⟩, ?_⟩
    rintro i m σ' H' ⟨ρ', st', L', rfl, hle, fw, S', q'⟩
    obtain ⟨ys, yi⟩ := hy i Z L' st' H' (fun a z => .inl z) fw S'.ok
    by_cases hi : i < items.length
    · obtain ⟨d, hd⟩ : ∃ d, items[i]? = some d := ⟨_, List.getElem?_eq_getElem hi⟩
      obtain ⟨go, hyl⟩ := yi d hd
      have hdrop : items.drop i = d :: items.drop (i + 1) := by
        rw [List.drop_eq_getElem_cons hi]
        rw [List.getElem?_eq_getElem hi] at hd
        cases hd
        rfl
      rw [hdrop] at q'
      unfold forL at q'
      refine .inr ⟨go, fun σ2 H2 => ∃ ρ' st' L', Fw Z L1 st1 H1 L' st' H2 ∧ Stt G Z ρ' st' L' σ2 H2 ∧ PostS G Z W L' st' H2 (forL g fb (items.drop (i + 1)) ρ' st') E, fun σ2 H2 ⟨ρ2, st2, L2, a1, a2, a3⟩ => ⟨_, by omega, ρ2, st2, L2, rfl, hi, a1, a2, a3⟩, fun x H2 hyx => ?_⟩
      obtain ⟨sm, rx⟩ := hyl x H2 hyx
      have S2 := S'.to (Fw.same sm) (S'.ok.same sm)
      have fw2 := fw.trans (Fw.same sm)
      have q2 := PostS.on (Fw.same sm) q'
      cases eg : g d ρ' with
      | none => rw [eg] at q2; exact q2.elim
      | some ρ1 =>
        rw [eg] at q2
        refine g2 _ _ _ _ _ _ _ ρ1 _ S2.env rx eg fun σ3 E3 w => ⟨Z, ρ1, st', L', ⟨S2.ok, E3⟩, ?_⟩
        have q2 : PostS G Z W L' st' H2 (match fb ρ1 st' with
          | .next ρ st => forL g fb (items.drop (i + 1)) ρ st
          | .cont ρ st => forL g fb (items.drop (i + 1)) ρ st
          | .brk ρ st => .next ρ st
          | r => r) E := q2
        revert q2
        cases fb ρ1 st' with
        | next ρ4 st4 => exact fun q σ4 H4 L4 f4 S4 => ⟨ρ4, st4, L4, fw2.trans f4, S4, PostS.on f4 q⟩
        | cont ρ4 st4 => exact fun q σ4 H4 L4 f4 S4 => ⟨ρ4, st4, L4, fw2.trans f4, S4, PostS.on f4 q⟩
        | brk ρ4 st4 => exact fun q => q
        | ret d4 st4 => exact fun q => q
        | exc c fs ρ4 st4 => exact fun q => q
        | stuck => exact fun q => q
    · have e : i = items.length := by omega
      subst e
      rw [List.drop_length] at q'
      exact .inl ⟨ys (Nat.le_refl _), q' σ' H' L' Fw.refl S'⟩
theorem ms_while {c : Expr} {body : List Stmt} {fc : DenB} {fb : SDen} (n : Nat) (hp : PassesOwn (model X.prog X.w) X.A X.env X.xe) (hc : MT G W X c fc) (hb : MSs G W X body fb) : MS G W X (.While c body [] pos) (sWhile n fc fb) := by
  refine PS.imp (ps_while hp hc hb) fun E σ H q => ?_
  obtain ⟨Z, ρ, st, L, S, q⟩ := q
  have q : PostS G Z W L st H (whileL fc fb n ρ st) E := q
  refine ⟨fun m σ' H' => ∃ ρ' st' L', Stt G Z ρ' st' L' σ' H' ∧ PostS G Z W L' st' H' (whileL fc fb m ρ' st') E, ⟨n, ρ, st, L, S, q⟩, ?_⟩
  rintro m σ' H' ⟨ρ', st', L', S', q'⟩
  cases m with
  | zero => exact q'.elim
  | succ m =>
    unfold whileL at q'
    refine ⟨Z, ρ', st', L', S', ?_⟩
    revert q'
    cases fc ρ' st' with
    | stuck => exact fun q => q
    | exc c fs st1 => exact fun q H2 L2 C dd vfs f o hC hd hr => q σ' H2 L2 C dd vfs f (S'.to f o) hC hd hr
    | ok b st1 =>
      intro q' b' H1 L1 f1 o1 rb
      have rb : b = b' := rb
      subst rb
      have S1 := S'.to f1 o1
      cases b with
      | false => exact q' σ' H1 L1 f1 S1
      | true =>
        refine ⟨fun σ2 H2 => ∃ ρ' st' L', Stt G Z ρ' st' L' σ2 H2 ∧ PostS G Z W L' st' H2 (whileL fc fb m ρ' st') E, fun σ2 H2 h => ⟨m, Nat.lt_succ_self m, h⟩, Z, ρ', st1, L1, S1, ?_⟩
        have q' : PostS G Z W L' st' H' (match fb ρ' st1 with
          | .next ρ st => whileL fc fb m ρ st
          | .cont ρ st => whileL fc fb m ρ st
          | .brk ρ st => .next ρ st
          | r => r) E := q'
        have q' := PostS.on f1 q'
        revert q'
        cases fb ρ' st1 with
        | next ρ4 st4 => exact fun q σ4 H4 L4 f4 S4 => ⟨ρ4, st4, L4, S4, PostS.on f4 q⟩
        | cont ρ4 st4 => exact fun q σ4 H4 L4 f4 S4 => ⟨ρ4, st4, L4, S4, PostS.on f4 q⟩
        | brk ρ4 st4 => exact fun q => q
        | ret d4 st4 => exact fun q => q
        | exc c fs ρ4 st4 => exact fun q => q
        | stuck => exact fun q => q
end
end M
namespace M
open PySem PySem.Spec L2

/-! ### things that are changed -/
def lstAt (i : Nat) (ρ : Env) (st : Sto) : Option (Nat × List D) := match ρ[i]? with
  | some (some (.r n)) => (match st[n]? with | some (.lst ds) => some (n, ds) | _ => none)
  | _ => none
/-- x.m(e) as a statement, x a list of one's own; k what it makes of the list -/
@[simp] def sMut1 (k : List D → D → Option (List D)) (i : Nat) (f : Den) : SDen := fun ρ st => match lstAt i ρ st with
  | none => .stuck
  | some _ => sOf f (fun d ρ st => match lstAt i ρ st with
    | some (n, ds) => (match k ds d with | some es => .next ρ (st.set n (.lst es)) | none => .stuck)
    | none => .stuck) ρ st
@[simp] def setAt (l : Option (Nat × List D)) (j d : D) (ρ : Env) (st : Sto) : SRes := match l with
  | some p => (match j with
    | .int z => (match ixN p.2.length z with | some m => .next ρ (st.set p.1 (.lst (p.2.set m d))) | none => .stuck)
    | _ => .stuck)
  | none => .stuck
/-- x[j] = e -/
@[simp] def sSetIx (i : Nat) (fj fe : Den) : SDen := fun ρ st => sOf fe (fun d ρ st => match lstAt i ρ st with
  | none => .stuck
  | some _ => sOf fj (fun j ρ st => setAt (lstAt i ρ st) j d ρ st) ρ st) ρ st
section
variable {G : Wd} {W : WX} {X : Cx} {Z Z' : Zone} {H H' : Hp} {L L' : List Addr} {st st' : Sto} {tg e : Expr} {pos : Pos}
theorem wr {n : Nat} {a : Addr} {o o' : O} {ho : HO} (S : StOk G Z L st H) (e1 : L[n]? = some a) (e2 : st[n]? = some o) (lo : o.live = true) (h : OOk G (Zof Z L (st.set n o')) (upd H a ho) L a o') (lo' : o'.live = true) :
    Fw Z L st H L (st.set n o') (upd H a ho) ∧ StOk G Z L (st.set n o') (upd H a ho) := by
  have la : Live L st a := ⟨n, o, e1, e2, lo⟩
  have am : a ∈ L := List.mem_of_getElem? e1
  have hl : n < st.length := (List.getElem?_eq_some_iff.mp e2).1
  have fw : Fw Z L st H L (st.set n o') (upd H a ho) := by
    refine ⟨⟨[], by simp, by simp⟩, fun b u e nl => ?_, fun b h => ?_, fun b u z e => ?_, fun m o2 hm e3 l2 => ?_⟩
    · have ne : b ≠ a := fun q => nl (q ▸ la)
      exact .of (by rw [upd_ne ne]; exact e)
    · by_cases q : b = a
      · rw [q, upd_same]; simp
      · rw [upd_ne q]; exact h
    · have ne : b ≠ a := fun q => S.zl a am (q ▸ z)
      rw [upd_ne ne]; exact e
    · rcases getElem?_set_cases e3 with ⟨rfl, rfl, _⟩ | ⟨_, h⟩
      · exact ⟨o, e2, lo⟩
      · exact ⟨o2, h, l2⟩
  refine ⟨fw, by simpa using S.len, S.nd, fun m b u e3 e4 => ?_, fun b z => fw.there b (S.z0 b z), S.zl, fun b m => fw.there b (S.lh b m)⟩
  rcases getElem?_set_cases e4 with ⟨rfl, rfl, _⟩ | ⟨ne, h4⟩
  · rw [e1] at e3
    cases e3
    exact h
  · have nb : b ≠ a := fun q => ne (nodup_at S.nd e3 (q ▸ e1))
    exact (S.obj m b u e3 h4).mono fw (by rw [upd_ne nb])
theorem lstAt_some {i : Nat} {ρ : Env} {σ : St} {n : Nat} {ds : List D} (S : Stt G Z ρ st L σ H) (e : lstAt i ρ st = some (n, ds)) : ∃ a vs, σ[i]? = some (some (.ref a)) ∧ L[n]? = some a ∧ st[n]? = some (.lst ds) ∧ H a = some (.lst vs) ∧ Reps G (Zof Z L st) H ds vs := by
  unfold lstAt at e
  split at e
  · rename_i m er
    split at e
    · rename_i es eo
      cases e
      obtain ⟨v, ev, r⟩ := S.env.2 i _ er
      cases r with
      | r r =>
        obtain ⟨vs, h1, h2⟩ := S.ok.obj _ _ _ r eo
        exact ⟨_, vs, ev, r, eo, h1, h2⟩
    · cases e
  · cases e
/-- what a changing method's reading asks -/
def SimM (G : Wd) (k : List D → D → Option (List D)) (r : V → List V → Hp → VK → Prop) : Prop := ∀ Z H ds d es a vs v Q, H a = some (.lst vs) → Reps G Z H ds vs → Rep G Z H d v → k ds d = some es →
  (∀ ws, (∀ Z' H', Keeps Z Z' H H' → Reps G Z' H' es ws) → Q .non (upd H a (.lst ws))) → r (.ref a) [v] H Q
theorem mutS {k : List D → D → Option (List D)} {r : V → List V → Hp → VK → Prop} {i : Nat} {f : Den} (sm : SimM G k r) {σ : St} {H : Hp} {E : Ends} (q : tMS G W (sMut1 k i f) E σ H) :
    tVar i σ H fun x H1 => tyV X.K "list" x H1 ∧ tCons (tM G W f) tNil σ H1 fun xs H2 => r x xs H2 fun _ H3 => E.nx σ H3 := by
  obtain ⟨Z, ρ, st, L, S, q⟩ := q
  unfold sMut1 at q
  cases e0 : lstAt i ρ st with
  | none => rw [e0] at q; exact q.elim
  | some p =>
    rw [e0] at q
    obtain ⟨n, ds⟩ := p
    obtain ⟨a, vs, ev, e1, e2, h1, h2⟩ := lstAt_some S e0
    refine ⟨.ref a, ev, .inl ⟨rfl, vs, .inl (.inl h1)⟩, Z, ρ, st, L, S, PostR.bindS S q fun d st1 v H1 L1 ed f1 S1 r1 q1 => ?_⟩
    have q1 : PostS G Z W L1 st1 H1 (match lstAt i ρ st1 with
      | some (n, ds) => (match k ds d with | some es => .next ρ (st1.set n (.lst es)) | none => .stuck)
      | none => .stuck) E := q1
    cases e3 : lstAt i ρ st1 with
    | none => rw [e3] at q1; exact q1.elim
    | some p =>
      rw [e3] at q1
      obtain ⟨m, ds1⟩ := p
      obtain ⟨b, ws, ev2, g1, g2, k1, k2⟩ := lstAt_some S1 e3
      rw [ev] at ev2
      cases ev2
      have q1 : PostS G Z W L1 st1 H1 (match k ds1 d with | some es => .next ρ (st1.set m (.lst es)) | none => .stuck) E := q1
      cases ek : k ds1 d with
      | none => rw [ek] at q1; exact q1.elim
      | some es =>
        rw [ek] at q1
        refine sm _ H1 ds1 d es a ws v _ k1 k2 r1 ek fun zs hzs => ?_
        have fws : Keeps (Zof Z L1 st1) (Zof Z L1 (st1.set m (.lst es))) H1 (upd H1 a (.lst zs)) := fun b u e z => by
          have la : Live L1 st1 a := ⟨m, _, g1, g2, rfl⟩
          have ne : b ≠ a := fun q => z (.inr (q ▸ la))
          refine ⟨.of (by rw [upd_ne ne]; exact e), fun q => ?_⟩
          rcases q with q | ⟨j, u2, j1, j2, j3⟩
          · exact z (.inl q)
          · rcases getElem?_set_cases j2 with ⟨rfl, rfl, _⟩ | ⟨_, h⟩
            · rw [g1] at j1; exact ne (Option.some.inj j1).symm
            · exact z (.inr ⟨j, u2, j1, h, j3⟩)
        obtain ⟨fw, ok⟩ := wr (o' := .lst es) (ho := .lst zs) S1.ok g1 g2 rfl ⟨zs, upd_same, hzs _ _ fws⟩ rfl
        exact q1 σ _ L1 fw (S1.to fw ok)

theorem ms_mut1 {k : List D → D → Option (List D)} {r : V → List V → Hp → VK → Prop} {i : Nat} {f : Den} {x name : Str} {id : String} {p apos cpos : Pos} (slot : Slot "list" name id) (hty : typeOf (.builtin id) = pure (.type "method_descriptor")) (hm : MtM X id r) (sm : SimM G k r) (hv : PE X (.Name x p) (tVar i)) (he : ME G W X e f)
    (h1 : PE X (.Call (.Attribute (.Name x p) name apos) [e] [] cpos) (tBM X.K "list" r (tVar i) (tCons (tM G W f) tNil))) (hs : swapsWith (.Call (.Attribute (.Name x p) name apos) [e] [] cpos) none pos.line X.env = pure false := by rfl) : MS G W X (.Expr (.Call (.Attribute (.Name x p) name apos) [e] [] cpos) pos) (sMut1 k i f) :=
  PS.imp (ps_expr h1 hs) fun E σ H q => mutS sm q
/-- append -/
noncomputable def kApp (ds : List D) (d : D) : Option (List D) := if ds.length < sizeLine then some (ds ++ [d]) else none
theorem sim_app : SimM G kApp rAppend := fun Z H ds d es a vs v Q h1 h2 h3 ek q => by
  unfold kApp at ek
  split at ek
  · cases ek
    have hl := h2.length
    exact ⟨a, vs, v, rfl, rfl, h1, by omega, q _ fun Z' H' k => (h2.mono k).append (.cons (h3.mono k) .nil)⟩
  · cases ek
/-- extend by a list -/
noncomputable def kExt (ds : List D) (d : D) : Option (List D) := match d with
  | .lst es => if ds.length + es.length ≤ sizeLine then some (ds ++ es) else none
  | _ => none
def rExtR : V → List V → Hp → VK → Prop := fun x vs H Q => ∃ l b xs zs, x = .ref l ∧ vs = [.ref b] ∧ H l = some (.lst xs) ∧ Rd H b (.lst zs) ∧ xs.length + zs.length ≤ sizeLine ∧ Q .non (upd H l (.lst (xs ++ zs)))
theorem mt_extR : MtM X "list.extend" rExtR := by
  intro pins s σ H x vs v us Q I rx rv h
  obtain ⟨l, b, xs, zs, rfl, rfl, hH, hB, hz, q⟩ := h
  cases rx
  obtain ⟨u, rfl, ru⟩ := rv.one
  cases ru
  obtain ⟨z, its, n, r, hl, e⟩ := I.lstM hH
  obtain ⟨z2, its2, n2, r2, e2⟩ := hB.ok I.hok
  have hl2 := r2.length
  have hsz : its.toArray.size + its2.toArray.size ≤ sizeLine := by rw [List.size_toArray, List.size_toArray]; omega
  have hlong : ¬ (!its.toArray.isEmpty && Builtin.List.listTooLong (its.toArray.size + its2.toArray.size)) = true := by
    rw [notLongL hsz, Bool.and_false]
    exact Bool.false_ne_true
  refine call_meets F.slot_list_extend ⟨_, e, rfl⟩ F.entry_list_extend (F.args_list_extend_2 _ _)
    (AutoSeq1.list_extend_list_list_0 l its.toArray n b its2.toArray n2 hlong (by rw [List.size_toArray]; omega) (by omega)) ⟨e, e2, ?_⟩
  refine ⟨.non, _, I.lset (its' := its ++ its2) hH e (by simp) (r.append r2) ?_, rfl, q⟩
  rw [List.length_append]
  omega
theorem sim_ext : SimM G kExt rExtR := fun Z H ds d es a vs v Q h1 h2 h3 ek q => by
  unfold kExt at ek
  split at ek
  · split at ek
    · cases ek
      obtain ⟨b, ws, rfl, g1, g2⟩ := h3.list'
      have hl := h2.length
      have hl2 := g2.length
      exact ⟨a, b, vs, ws, rfl, rfl, h1, g1, by omega, q _ fun Z' H' k => (h2.mono k).append (g2.mono k)⟩
    · cases ek
  · cases ek
theorem ms_app {i : Nat} {f : Den} {x : Str} {p apos cpos : Pos} (hv : PE X (.Name x p) (tVar i)) (he : ME G W X e f)
    (hbase : attributeBase (.Name x p) "append" X.env (eval (.Name x p) X.env) = eval (.Name x p) X.env := by rfl)
    (hfew : ((backTo cpos (starEach [e] X.env)).all (fun x => !x.1) && (backToKw cpos (keywordEach [] X.env)).all (fun x => x.1.isSome)
      && decide ([e].length + ([] : List Keyword).length + (if ([] : List Keyword).isEmpty then 0 else 1) < 30)) = true := by rfl)
    (hline : (apos.endLine == cpos.line) = true := by rfl) (hst : starEach [e] X.env = (false, eval e X.env) :: starEach [] X.env := by rfl) (hplain : (backTo cpos (starEach [] X.env)).any (·.1) = false := by rfl)
    (hs : swapsWith (.Call (.Attribute (.Name x p) "append" apos) [e] [] cpos) none pos.line X.env = pure false := by rfl) : MS G W X (.Expr (.Call (.Attribute (.Name x p) "append" apos) [e] [] cpos) pos) (sMut1 kApp i f) :=
  PS.imp (ps_expr (pe_bm PySem.F.plainAttrs_list PySem.F.slot_list_append PySem.F.type_list_append mt_append hv (pa_cons he pa_nil hst) hbase hfew hline hst hplain) hs) fun E σ H q => mutS sim_app q
theorem ms_ext {i : Nat} {f : Den} {x : Str} {p apos cpos : Pos} (hv : PE X (.Name x p) (tVar i)) (he : ME G W X e f)
    (hbase : attributeBase (.Name x p) "extend" X.env (eval (.Name x p) X.env) = eval (.Name x p) X.env := by rfl)
    (hfew : ((backTo cpos (starEach [e] X.env)).all (fun x => !x.1) && (backToKw cpos (keywordEach [] X.env)).all (fun x => x.1.isSome)
      && decide ([e].length + ([] : List Keyword).length + (if ([] : List Keyword).isEmpty then 0 else 1) < 30)) = true := by rfl)
    (hline : (apos.endLine == cpos.line) = true := by rfl) (hst : starEach [e] X.env = (false, eval e X.env) :: starEach [] X.env := by rfl) (hplain : (backTo cpos (starEach [] X.env)).any (·.1) = false := by rfl)
    (hs : swapsWith (.Call (.Attribute (.Name x p) "extend" apos) [e] [] cpos) none pos.line X.env = pure false := by rfl) : MS G W X (.Expr (.Call (.Attribute (.Name x p) "extend" apos) [e] [] cpos) pos) (sMut1 kExt i f) :=
  PS.imp (ps_expr (pe_bm PySem.F.plainAttrs_list PySem.F.slot_list_extend PySem.F.type_list_extend mt_extR hv (pa_cons he pa_nil hst) hbase hfew hline hst hplain) hs) fun E σ H q => mutS sim_ext q
theorem ixN_some {α : Type} {xs : List α} {z : Int} {m : Nat} (h : ixN xs.length z = some m) : m < xs.length := (ixN_seq h).2.1
theorem ms_setix {x : Str} {i : Nat} {ej : Expr} {fj fe : Den} {p spos : Pos} (hv : PE X (.Name x p) (tVar i)) (hj : ME G W X ej fj) (he : ME G W X e fe)
    (hs : swapsWithSole [.Subscript (.Name x p) ej spos] e pos.line X.env = pure false := by rfl) (hw : swappedStores [.Subscript (.Name x p) ej spos] e X.env = pure none := by rfl)
    (ha : ∀ v, assign (.Subscript (.Name x p) ej spos) X.env v = (do
      let ov ← holding [v] (eval (.Name x p) X.env)
      let iv ← holding [v, ov] (eval ej X.env)
      standAt spos
      holding [v, ov, iv] (setItem ov iv v)
      release [v, ov, iv] []) := by intro _; rfl)
    (h1 : (assignEach [.Subscript (.Name x p) ej spos] X.env).map (·.2) = [assign (.Subscript (.Name x p) ej spos) X.env] := by rfl) :
    MS G W X (.Assign [.Subscript (.Name x p) ej spos] e pos) (sSetIx i fj fe) := PS.imp (ps_asg he (pg_sub hv hj set_list ha) hs hw h1) fun E σ H q => by
  obtain ⟨Z, ρ, st, L, S, q⟩ := q
  refine ⟨Z, ρ, st, L, S, PostR.bindS S q fun d st1 v H1 L1 ed f1 S1 r1 q1 => ?_⟩
  have q1 : PostS G Z W L1 st1 H1 (match lstAt i ρ st1 with
    | none => .stuck
    | some _ => sOf fj (fun j ρ st => setAt (lstAt i ρ st) j d ρ st) ρ st1) E := q1
  cases e0 : lstAt i ρ st1 with
  | none => rw [e0] at q1; exact q1.elim
  | some p =>
    rw [e0] at q1
    obtain ⟨n0, ds0⟩ := p
    obtain ⟨a, vs0, ev, _⟩ := lstAt_some S1 e0
    refine ⟨.ref a, ev, Z, ρ, st1, L1, S1, PostR.bindS S1 q1 fun j st2 y H2 L2 ej f2 S2 r2 q2 => ?_⟩
    have q2 : PostS G Z W L2 st2 H2 (setAt (lstAt i ρ st2) j d ρ st2) E := q2
    unfold setAt at q2
    cases e2 : lstAt i ρ st2 with
    | none => rw [e2] at q2; exact q2.elim
    | some p =>
      rw [e2] at q2
      obtain ⟨n, ds⟩ := p
      obtain ⟨b, vs, ev2, g1, g2, k1, k2⟩ := lstAt_some S2 e2
      rw [ev] at ev2
      cases ev2
      cases j with
      | int z =>
        have q2 : PostS G Z W L2 st2 H2 (match ixN ds.length z with | some m => .next ρ (st2.set n (.lst (ds.set m d))) | none => .stuck) E := q2
        split at q2
        · rename_i m em
          refine ⟨a, vs, z, m, rfl, r2.int', k1, by rw [← k2.length]; exact em, ?_⟩
          have rd := r1.mono f2.keeps
          have fws : Keeps (Zof Z L2 st2) (Zof Z L2 (st2.set n (.lst (ds.set m d)))) H2 (upd H2 a (.lst (vs.set m v))) := fun b u e z => by
            have la : Live L2 st2 a := ⟨n, _, g1, g2, rfl⟩
            have ne : b ≠ a := fun q => z (.inr (q ▸ la))
            refine ⟨.of (by rw [upd_ne ne]; exact e), fun q => ?_⟩
            rcases q with q | ⟨j, u2, j1, j2, j3⟩
            · exact z (.inl q)
            · rcases getElem?_set_cases j2 with ⟨rfl, rfl, _⟩ | ⟨_, h⟩
              · rw [g1] at j1; exact ne (Option.some.inj j1).symm
              · exact z (.inr ⟨j, u2, j1, h, j3⟩)
          obtain ⟨fw, ok⟩ := wr (o' := .lst (ds.set m d)) (ho := .lst (vs.set m v)) S2.ok g1 g2 rfl ⟨_, upd_same, Reps.set (rd.mono fws) m (k2.mono fws)⟩ rfl
          exact q2 σ _ L2 fw (S2.to fw ok)
        · exact q2.elim
      | _ => exact q2.elim
/-- x op= e, ints, texts, tuples -/
@[simp] def sAug (i : Nat) (g : D → D → Option D) (f : Den) : SDen := fun ρ st => match ρ[i]? with
  | some (some (.p d)) => sOf f (fun e ρ st => match g d e with | some z => .next (ρ.set i (some (.p z))) st | none => .stuck) ρ st
  | _ => .stuck
theorem ms_aug {x : Str} {op : Operator} {i : Nat} {g : D → D → Option D} {f : Den} {r : R2} {p : Pos} (ho : OpR X (inplaceOp op) r) (s : Sim2 G g r) (hN : X.N.Nodup) (he : ME G W X e f) (hi : X.N[i]? = some x := by rfl) (hx : Loc X.env.scope x := by first | exact .inl rfl | exact .inr rfl) (hf : X.fn x = true ∨ X.env.scope.names.lookup x = some .local := by first | exact .inl rfl | exact .inr rfl | assumption) :
    MS G W X (.AugAssign (.Name x p) op e pos) (sAug i g f) := PS.imp (ps_aug (ti := r) hN hi hx he ho hf) fun E σ H q => by
  obtain ⟨Z, ρ, st, L, S, q⟩ := q
  unfold sAug at q
  split at q
  · rename_i d ed
    obtain ⟨v, ev, rv⟩ := S.env.2 i _ ed
    cases rv with
    | p rv =>
      refine ⟨v, ev, Z, ρ, st, L, S, PostR.bindS S q fun e2 st1 y H1 L1 e1 f1 S1 r1 q1 => ?_⟩
      have q1 : PostS G Z W L1 st1 H1 (match g d e2 with | some z => .next (ρ.set i (some (.p z))) st1 | none => .stuck) E := q1
      split at q1
      · rename_i z ez
        exact s _ _ _ _ _ _ z _ S1.ok.inn (.rep (rv.mono f1.keeps)) (.rep r1) ez fun w H' e' r' => q1 _ H' L1 (Fw.same e') ⟨S1.ok.same e', (S1.env.mono (Fw.same e')).set i (.p r')⟩
      · exact q1.elim
  · exact q.elim
end
end M
namespace M
open PySem PySem.Spec L2

/-! ### defs: bodies -/
@[simp] def O.refsBelow (k : Nat) : O → Bool
  | .ins _ fs => fs.all fun p => match p.2 with | .r m => decide (m < k) | _ => true
  | _ => true
/-- what is the def's own goes -/
@[simp] def cutOff (k : Nat) (st : Sto) (r : Sto → Res D) : Res D := if ((st.take k).all (O.refsBelow k)) = true then r (st.take k) else .stuck
@[simp] def dFn (n m : Nat) (fb : SDen) : FD := fun ss st => if ss.length = n then (match fb (ss.map some ++ List.replicate (m - n) none) st with
  | .ret d st' => cutOff st.length st' fun s => .ok d s
  | .next _ st' => cutOff st.length st' fun s => .ok .non s
  | .exc c fs _ st' => cutOff st.length st' fun s => .exc c fs s
  | _ => .stuck) else .stuck
section
variable {G : Wd} {W : WX} {X : Cx} {Z Z' : Zone} {H H' : Hp} {L L' : List Addr} {st st' : Sto} {tg e : Expr} {pos : Pos}
theorem zof_take {k : Nat} {a : Addr} (h : Zof Z (L.take k) (st.take k) a) : Zof Z L st a := by
  rcases h with h | ⟨n, o, e1, e2, l⟩
  · exact .inl h
  · have h1 : n < k := by
      have := (List.getElem?_eq_some_iff.mp e1).1
      rw [List.length_take] at this
      omega
    rw [List.getElem?_take_of_lt h1] at e1 e2
    exact .inr ⟨n, o, e1, e2, l⟩
theorem SRepF.cut {k : Nat} : ∀ {fs : List (Str × S)} {vs : List (Str × V)}, SRepF G (Zof Z L st) H L fs vs → (fs.all fun p => match p.2 with | .r m => decide (m < k) | _ => true) = true → SRepF G (Zof Z (L.take k) (st.take k)) H (L.take k) fs vs
  | _, _, .nil, _ => .nil
  | _, _, .cons r t, h => by
    rw [List.all_cons, Bool.and_eq_true] at h
    refine .cons ?_ (SRepF.cut t h.2)
    cases r with
    | p r => exact .p (r.zone fun a z => zof_take z)
    | r e =>
      have h1 : _ < k := of_decide_eq_true h.1
      exact .r (by rw [List.getElem?_take_of_lt h1]; exact e)
theorem StOk.cut {k : Nat} (S : StOk G Z L st H) (h : (st.take k).all (O.refsBelow k) = true) : StOk G Z (L.take k) (st.take k) H := by
  refine ⟨by rw [List.length_take, List.length_take, S.len], S.nd.sublist (List.take_sublist _ _), fun n a o e1 e2 => ?_, S.z0, fun a m => S.zl a (List.mem_of_mem_take m), fun a m => S.lh a (List.mem_of_mem_take m)⟩
  have h1 : n < k := by
    have := (List.getElem?_eq_some_iff.mp e1).1
    rw [List.length_take] at this
    omega
  have ho := List.all_eq_true.mp h o (List.mem_of_getElem? e2)
  rw [List.getElem?_take_of_lt h1] at e1 e2
  have ok := S.obj n a o e1 e2
  cases o with
  | lst ds => obtain ⟨vs, h1, h2⟩ := ok; exact ⟨vs, h1, h2.zone fun a z => zof_take z⟩
  | dic ds =>
    rcases ok with ⟨vs, h1, h2⟩ | ⟨vs, h1, h2⟩
    · exact .inl ⟨vs, h1, h2.zone fun a z => zof_take z⟩
    · exact .inr ⟨vs, h1, h2.zone fun a z => zof_take z⟩
  | ins c fs => obtain ⟨C, dx, vfs, h1, h2, h3⟩ := ok; exact ⟨C, dx, vfs, h1, h2, h3.cut ho⟩
  | frz d => exact Rep.zone (fun a z => zof_take z) ok
  | dead => trivial
theorem Fw.cut (S : StOk G Z L st H) (f : Fw Z L st H L' st' H') : Fw Z L st H (L'.take st.length) (st'.take st.length) H' ∧ L'.take st.length = L := by
  obtain ⟨M, rfl, hM⟩ := f.pre
  have e : (L ++ M).take st.length = L := by rw [← S.len, List.take_left]
  refine ⟨⟨⟨[], by rw [e, List.append_nil], by simp⟩, f.keep, f.there, f.zk, fun n o' hn e2 l => ?_⟩, e⟩
  have h1 : n < st.length := by rw [← S.len]; exact hn
  rw [List.getElem?_take_of_lt h1] at e2
  exact f.live n o' hn e2 l
theorem env_start {ss : List S} {vs : List V} {N : List Str} (r : SReps G Z H L ss vs) (hn : vs.length ≤ N.length) : EnvOk G Z H L (ss.map some ++ List.replicate (N.length - vs.length) none) (L2.start N vs) := by
  have hl := r.length
  refine ⟨by unfold L2.start; simp [hl], fun i s e => ?_⟩
  by_cases hi : i < ss.length
  · rw [List.getElem?_append_left (by simpa using hi), List.getElem?_map] at e
    obtain ⟨s', h1, h2⟩ := Option.map_eq_some_iff.mp e
    cases h2
    obtain ⟨v, h3, h4⟩ := r.get h1
    refine ⟨v, ?_, h4⟩
    unfold L2.start
    rw [List.getElem?_append_left (by rw [List.length_map]; omega), List.getElem?_map, h3]
    rfl
  · rw [List.getElem?_append_right (by simpa using hi), List.getElem?_replicate] at e
    split at e <;> cases e
end
section
variable {P : Program} {w : World} {K : PySem.W.Frag} {mg : Str → Option Value} {base : Heap} {G : Wd}
/-- what is wanted of exceptions in a def's body -/
abbrev WD (E : XK) : WX := fun cls d _ H => E cls d H
theorem fn_M {x qual : Str} {s : Stmt} {f : Addr} {fd : FuncData} {N ps : List Str} {k n : Nat} {fb : SDen} (F : Fun K x qual s f fd) (S : FnScope N ps (defScope s)) (hn : ps.length = n) (hN : n ≤ N.length)
    (hbody : ∀ (cdv : Value) (A : Around) (outer : List PySem.Env) (sh : Shared) (H : Hp) (E : XK), Room k (A.deeper (PyProof.Rows.envOfC qual (defScope s) sh.heap.objs.size f cdv)) →
      Takes (cxOf (L2.CX P w) P w K mg base N qual (defScope s) f cdv A outer sh H E) (WD E) → PassesOwn (model P w) (A.deeper (PyProof.Rows.envOfC qual (defScope s) sh.heap.objs.size f cdv)) (PyProof.Rows.envOfC qual (defScope s) sh.heap.objs.size f cdv) (cxOf (L2.CX P w) P w K mg base N qual (defScope s) f cdv A outer sh H E).xe →
      MSs G (WD E) (cxOf (L2.CX P w) P w K mg base N qual (defScope s) f cdv A outer sh H E) (defBody s) fb) : FnOk P w K mg base (L2.CX P w) (k + 1) f fd ps (spM G n (dFn n N.length fb)) := by
  refine F.okX S (fun vs H Q E h => by rw [hn]; exact h.1) fun cdv A outer sh H vs Q E hr h => ⟨_, hbody cdv A outer sh H E hr (takes_of rfl rfl rfl rfl) (passes_of rfl), ?_⟩
  obtain ⟨hl, Z, ss, st, L, ok, r, q⟩ := h
  have hss : ss.length = n := by rw [r.length]; exact hl
  refine ⟨Z, ss.map some ++ List.replicate (N.length - n) none, st, L, ⟨ok, ?_⟩, ?_⟩
  · rw [← hl]
    exact env_start r (by omega)
  · unfold dFn at q
    rw [if_pos hss] at q
    revert q
    cases fb (ss.map some ++ List.replicate (N.length - n) none) st with
    | stuck => exact fun q => q
    | brk ρ s => exact fun q => q.elim
    | cont ρ s => exact fun q => q.elim
    | next ρ s' =>
      intro q σ' H' L' f' S'
      unfold cutOff at q
      by_cases hc : (s'.take st.length).all (O.refsBelow st.length) = true
      · dsimp only at q
        rw [if_pos hc] at q
        obtain ⟨f2, e⟩ := f'.cut ok
        have o2 := S'.ok.cut hc
        exact q .non H' _ f2 o2 .non
      · dsimp only at q
        rw [if_neg hc] at q
        exact q.elim
    | ret d s' =>
      intro q v H' L' f' o' r'
      unfold cutOff at q
      by_cases hc : (s'.take st.length).all (O.refsBelow st.length) = true
      · dsimp only at q
        rw [if_pos hc] at q
        obtain ⟨f2, e⟩ := f'.cut ok
        exact q v H' _ f2 (o'.cut hc) (r'.zone fun a z => zof_take z)
      · dsimp only at q
        rw [if_neg hc] at q
        exact q.elim
    | exc c fs ρ s' =>
      intro q σ' H' L' C dd vfs f' S' hC hd hr'
      unfold cutOff at q
      by_cases hc : (s'.take st.length).all (O.refsBelow st.length) = true
      · dsimp only at q
        rw [if_pos hc] at q
        obtain ⟨f2, e⟩ := f'.cut ok
        exact q H' _ C dd vfs f2 (S'.ok.cut hc) hC hd (hr'.mono fun a o e z => ⟨.of e, fun q => z (zof_take q)⟩)
      · dsimp only at q
        rw [if_neg hc] at q
        exact q.elim
theorem cal_M {x : Str} {s : Stmt} {f : Addr} {fd : FuncData} {ps : List Str} {k n : Nat} {dn : FD} (F : Fun K x x s f fd) (h : FnOk P w K mg base (L2.CX P w) k f fd ps (spM G n dn)) (hm : mg x = some (.ref f)) (b : Binds K fd ps []) : MCal P w K mg base G k x n dn := ⟨f, fd, ps, h, hm, F.kp, b⟩
theorem MCal.mono {j k : Nat} {x : Str} {n : Nat} {dn : FD} (c : MCal P w K mg base G j x n dn) (h : j ≤ k) : MCal P w K mg base G k x n dn := by
  obtain ⟨f, fd, ps, F, r⟩ := c.ex
  exact ⟨f, fd, ps, F.mono h, r⟩
end

/-! ### calls that hand on things of one's own -/
abbrev DenS := Env → Sto → Res (List S)
@[simp] def aNil : DenS := fun _ st => .ok [] st
@[simp] def aVal (f : Den) (h : DenS) : DenS := fun ρ st => (f ρ st).bind fun d st => (h ρ st).bind fun ds st => .ok (.p d :: ds) st
@[simp] def aRef (i : Nat) (h : DenS) : DenS := fun ρ st => match ρ[i]? with | some (some s) => (h ρ st).bind fun ds st => .ok (s :: ds) st | _ => .stuck
@[simp] def eCallS (n : Nat) (dn : FD) (f : DenS) : Den := fun ρ st => (f ρ st).bind fun ss st => if ss.length = n then dn ss st else .stuck
def PostA (G : Wd) (Z : Zone) (W : WX) (σ : St) (L : List Addr) (st : Sto) (H : Hp) (r : Res (List S)) (Q : List V → Hp → Prop) : Prop := match r with
  | .ok d st' => ∀ v H' L', Fw Z L st H L' st' H' → StOk G Z L' st' H' → SReps G (Zof Z L' st') H' L' d v → Q v H'
  | .exc c fs st' => ExP G Z L st H c fs st' fun cv dd H' => W cv dd σ H'
  | .stuck => False
def tMAS (G : Wd) (W : WX) (f : DenS) : TA := fun σ H Q => ∃ Z ρ st L, Stt G Z ρ st L σ H ∧ PostA G Z W σ L st H (f ρ st) Q
abbrev MAS (G : Wd) (W : WX) (X : Cx) (es : List Expr) (f : DenS) : Prop := PA X es (tMAS G W f)
section
variable {G : Wd} {W : WX} {X : Cx} {Z Z' : Zone} {H H' : Hp} {L L' : List Addr} {st st' : Sto} {e : Expr} {es : List Expr} {pos : Pos}
theorem PostA.on {σ : St} {r : Res (List S)} {Q : List V → Hp → Prop} (f : Fw Z L st H L' st' H') (h : PostA G Z W σ L st H r Q) : PostA G Z W σ L' st' H' r Q := by
  cases r with
  | ok d s => exact fun v H2 L2 g o r => h v H2 L2 (f.trans g) o r
  | exc c fs s => exact ExP.on (P := fun cv dd H' => W cv dd σ H') f h
  | stuck => exact h
theorem PostA.bind {α β : Type} {R : Zone → Hp → α → β → Prop} {σ : St} {r : Res α} {k : α → Sto → Res (List S)} {Q' : List V → Hp → Prop} {Q : β → Hp → Prop}
    (h : PostA G Z W σ L st H (r.bind k) Q') (hk : ∀ d st1 v H1 L1, r = .ok d st1 → Fw Z L st H L1 st1 H1 → StOk G Z L1 st1 H1 → R (Zof Z L1 st1) H1 d v → PostA G Z W σ L1 st1 H1 (k d st1) Q' → Q v H1) : PostR G Z W R σ L st H r Q := by
  cases r with
  | ok d st1 => exact fun v H1 L1 f o rv => hk d st1 v H1 L1 rfl f o rv (PostA.on f h)
  | exc c fs st1 => exact h
  | stuck => exact h
theorem PostA.bindA {σ : St} {r : Res (List S)} {k : List S → Sto → Res (List S)} {Q' Q : List V → Hp → Prop}
    (h : PostA G Z W σ L st H (r.bind k) Q') (hk : ∀ d st1 v H1 L1, r = .ok d st1 → Fw Z L st H L1 st1 H1 → StOk G Z L1 st1 H1 → SReps G (Zof Z L1 st1) H1 L1 d v → PostA G Z W σ L1 st1 H1 (k d st1) Q' → Q v H1) : PostA G Z W σ L st H r Q := by
  cases r with
  | ok d st1 => exact fun v H1 L1 f o rv => hk d st1 v H1 L1 rfl f o rv (PostA.on f h)
  | exc c fs st1 => exact h
  | stuck => exact h
theorem mas_nil : MAS G W X [] aNil := PA.imp pa_nil fun σ H Q q => by
  obtain ⟨Z, ρ, st, L, S, q⟩ := q
  exact q _ H L Fw.refl S.ok .nil
theorem mas_val {f : Den} {h : DenS} (ha : ME G W X e f) (hr : MAS G W X es h) (hs : starEach (e :: es) X.env = (false, eval e X.env) :: starEach es X.env := by rfl) : MAS G W X (e :: es) (aVal f h) := PA.imp (pa_cons ha hr hs) fun σ H Q q => by
  obtain ⟨Z, ρ, st, L, S, q⟩ := q
  refine ⟨Z, ρ, st, L, S, PostA.bind q fun d st1 x H1 L1 e f1 o1 r1 q1 => ?_⟩
  refine ⟨Z, ρ, st1, L1, S.to f1 o1, PostA.bindA q1 fun d2 st2 y H2 L2 e2 f2 o2 r2 q2 => ?_⟩
  exact q2 _ H2 L2 Fw.refl o2 (.cons (.p (r1.mono f2.keeps)) r2)
theorem mas_ref {x : Str} {i : Nat} {h : DenS} {p : Pos} (hv : PE X (.Name x p) (tVar i)) (hr : MAS G W X es h) (hs : starEach ((.Name x p) :: es) X.env = (false, eval (.Name x p) X.env) :: starEach es X.env := by rfl) : MAS G W X ((.Name x p) :: es) (aRef i h) := PA.imp (pa_cons hv hr hs) fun σ H Q q => by
  obtain ⟨Z, ρ, st, L, S, q⟩ := q
  unfold aRef at q
  split at q
  · rename_i s es
    obtain ⟨v, ev, rv⟩ := S.env.2 i _ es
    refine ⟨v, ev, Z, ρ, st, L, S, PostA.bindA q fun d2 st2 y H2 L2 e2 f2 o2 r2 q2 => ?_⟩
    exact q2 _ H2 L2 Fw.refl o2 (.cons (rv.mono f2) r2)
  · exact q.elim
theorem me_callS {k : Nat} {x : Str} {n : Nat} {dn : FD} {p pos : Pos} {f : DenS} (c : MCal X.prog X.w X.K X.mg X.base G k x n dn) (hr : Room k X.A) (tk : Takes X W) (ha : MAS G W X (e :: es) f) (hg : Gl X x := by rfl)
    (hdb : (x == ("__debug__" : Str)) = false := by decide) (he : starEach (e :: es) X.env = (false, eval e X.env) :: starEach es X.env := by rfl) (hpl : (backTo pos (starEach es X.env)).any (·.1) = false := by rfl) :
    ME G W X (.Call (.Name x p) (e :: es) [] pos) (eCallS n dn f) := by
  obtain ⟨fa, fd, ps, F, hm, kp, b⟩ := c.ex
  refine PE.imp (pe_callS (E := WE W) F hr hg hm kp b (fun σ => passAt tk σ) ha hdb he hpl) fun σ H Q q => ?_
  obtain ⟨Z, ρ, st, L, S, q⟩ := q
  refine ⟨Z, ρ, st, L, S, ?_⟩
  unfold eCallS at q
  revert q
  cases f ρ st with
  | stuck => exact fun q => q
  | exc c fs s => exact fun q => q
  | ok ss st1 =>
    intro q vs H1 L1 f1 o1 r1
    have q : PostR G Z W (RD G) σ L st H (if ss.length = n then dn ss st1 else .stuck) Q := q
    by_cases hn : ss.length = n
    · rw [if_pos hn] at q
      refine ⟨by rw [← r1.length]; exact hn, Z, ss, st1, L1, o1, r1, ?_⟩
      revert q
      cases dn ss st1 with
      | stuck => exact fun q => q
      | ok d s => exact fun q v H2 L2 g o r => q v H2 L2 (f1.trans g) o r
      | exc c fs s => exact fun q => ExP.on (P := fun cv dd H' => W cv dd σ H') f1 q
    · rw [if_neg hn] at q
      exact q.elim
end

/-! ### lists of one's own made by display, by * -/
@[simp] noncomputable def nLst (f : DenL) : Env → Sto → Res O := fun ρ st => (f ρ st).bind fun ds st => if ds.length ≤ sizeLine then .ok (.lst ds) st else .stuck
section
variable {G : Wd} {W : WX} {X : Cx} {Z Z' : Zone} {H H' : Hp} {L L' : List Addr} {st st' : Sto} {e : Expr} {es : List Expr} {pos : Pos}
theorem FwN.mk_new {p : Addr} {o : HO} {L0 : List Addr} {st0 : Sto} {H0 : Hp} (f : Fw Z L0 st0 H0 L st H) (S : StOk G Z L st H) (h : H p = none) : FwN G Z L0 st0 H0 L st (upd H p o) p :=
  ⟨f.trans (Fw.same (same_new h)), S.enter h, by
    cases q : H0 p with
    | none => rfl
    | some u => exact absurd h (f.there p (by rw [q]; simp))⟩
theorem mn_lst {f : DenL} (h : MA G W X es f) : MN G W X (.List es pos) (nLst f) := PE.imp (pe_lst h) fun σ H Q q => by
  obtain ⟨Z, ρ, st, L, S, q⟩ := q
  refine ⟨Z, ρ, st, L, S, ?_⟩
  unfold nLst at q
  revert q
  cases f ρ st with
  | stuck => exact fun q => q
  | exc c fs s => exact fun q => q
  | ok ds st1 =>
    intro q xs H1 L1 f1 o1 r1
    have q : match (if ds.length ≤ sizeLine then .ok (.lst ds) st1 else .stuck : Res O) with
      | .ok o st' => ∀ p H' L', FwN G Z L st H L' st' H' p → OOk G (Zof (fun a => Z a ∨ a = p) L' st') H' L' p o → Q (.ref p) H'
      | .exc c fs st' => ExP G Z L st H c fs st' fun cv dd H' => W cv dd σ H'
      | .stuck => False := q
    by_cases hz : ds.length ≤ sizeLine
    · rw [if_pos hz] at q
      exact ⟨by rw [← r1.length]; exact hz, fun p hp => q p _ L1 (FwN.mk_new f1 o1 hp) ⟨xs, upd_same, r1.mono (keeps_new hp)⟩⟩
    · rw [if_neg hz] at q
      exact q.elim
/-- xs * n, a list of one's own -/
noncomputable def repO (d e : D) : Option O := match d, e with
  | .lst xs, .int k => if k < 4611686018427387904 ∧ -4611686018427387904 < k ∧ xs.length * k.toNat ≤ sizeLine then some (.lst (List.replicate k.toNat xs).flatten) else none
  | _, _ => none
@[simp] noncomputable def nRep (f h : Den) : Env → Sto → Res O := fun ρ st => (f ρ st).bind fun d st => (h ρ st).bind fun e st => match repO d e with | some o => .ok o st | none => .stuck

theorem mn_rep {a b : Expr} {f h : Den} (ha : ME G W X a f) (hb : ME G W X b h) : MN G W X (.BinOp a .Mult b pos) (nRep f h) := PE.imp (pe_op op_repR ha hb) fun σ H Q q => by
  obtain ⟨Z, ρ, st, L, S, q⟩ := q
  refine ⟨Z, ρ, st, L, S, ?_⟩
  unfold nRep at q
  revert q
  cases f ρ st with
  | stuck => exact fun q => q
  | exc c fs s => exact fun q => q
  | ok d st1 =>
    intro q x H1 L1 f1 o1 r1
    refine ⟨Z, ρ, st1, L1, S.to f1 o1, ?_⟩
    have q : match ((h ρ st1).bind fun e st => match repO d e with | some o => .ok o st | none => .stuck : Res O) with
      | .ok o st' => ∀ p H' L', FwN G Z L st H L' st' H' p → OOk G (Zof (fun a => Z a ∨ a = p) L' st') H' L' p o → Q (.ref p) H'
      | .exc c fs st' => ExP G Z L st H c fs st' fun cv dd H' => W cv dd σ H'
      | .stuck => False := q
    revert q
    cases h ρ st1 with
    | stuck => exact fun q => q.elim
    | exc c fs s => exact fun q => ExP.on (P := fun cv dd H' => W cv dd σ H') f1 q
    | ok e st2 =>
      intro q y H2 L2 f2 o2 r2
      have r1 := r1.mono f2.keeps
      have q : match (match repO d e with | some o => .ok o st2 | none => .stuck : Res O) with
        | .ok o st' => ∀ p H' L', FwN G Z L st H L' st' H' p → OOk G (Zof (fun a => Z a ∨ a = p) L' st') H' L' p o → Q (.ref p) H'
        | .exc c fs st' => ExP G Z L st H c fs st' fun cv dd H' => W cv dd σ H'
        | .stuck => False := q
      cases er : repO d e with
      | none => rw [er] at q; exact q.elim
      | some o =>
        rw [er] at q
        have q : ∀ p H' L', FwN G Z L st H L' st2 H' p → OOk G (Zof (fun a => Z a ∨ a = p) L' st2) H' L' p o → Q (.ref p) H' := q
        unfold repO at er
        split at er
        · split at er
          · rename_i hz
            cases er
            obtain ⟨a, vs, rfl, ha, ra⟩ := r1.list'
            have l1 := ra.length
            exact ⟨a, _, vs, rfl, r2.int', ha, by omega, by omega, by rw [← l1]; exact hz.2.2, fun p hp => q p _ L2 (FwN.mk_new (f1.trans f2) o2 hp) ⟨_, upd_same, (ra.rep _).mono (keeps_new hp)⟩⟩
          · cases er
        · cases er
/-- a new thing of one's own as an argument, as a part of a parallel assignment -/
@[simp] def aNew (f : Env → Sto → Res O) (h : DenS) : DenS := fun ρ st => (f ρ st).bind fun o st => (h ρ (st ++ [o])).bind fun ds st2 => .ok (.r st.length :: ds) st2
theorem mas_new {f : Env → Sto → Res O} {h : DenS} (ha : MN G W X e f) (hr : MAS G W X es h) (hs : starEach (e :: es) X.env = (false, eval e X.env) :: starEach es X.env := by rfl) : MAS G W X (e :: es) (aNew f h) := PA.imp (pa_cons ha hr hs) fun σ H Q q => by
  obtain ⟨Z, ρ, st, L, S, q⟩ := q
  refine ⟨Z, ρ, st, L, S, ?_⟩
  unfold aNew at q
  revert q
  cases f ρ st with
  | stuck => exact fun q => q
  | exc c fs s => exact fun q => q
  | ok o st1 =>
    intro q p H1 L1 fn ok
    obtain ⟨f2, o2, e2⟩ := alloc S fn ok
    have q2 : PostA G Z W σ (L1 ++ [p]) (st1 ++ [o]) H1 ((h ρ (st1 ++ [o])).bind fun ds st2 => .ok (.r st1.length :: ds) st2) Q := PostA.on f2 q
    refine ⟨Z, ρ, st1 ++ [o], L1 ++ [p], ⟨o2, e2⟩, PostA.bindA q2 fun ds st2 y H2 L2 e2 f3 o3 r3 q3 => ?_⟩
    refine q3 _ H2 L2 Fw.refl o3 (.cons (.r (f3.get ?_)) r3)
    rw [← fn.ok.len, List.getElem?_append_right (Nat.le_refl _)]
    simp
/-! ### parallel assignments to names -/
def setAll : List Nat → List S → Env → Option Env
  | [], [], ρ => some ρ
  | i :: is, s :: ss, ρ => setAll is ss (ρ.set i (some s))
  | _, _, _ => none
@[simp] def sPar (is : List Nat) (f : DenS) : SDen := fun ρ st => sOf f (fun ss ρ st => match setAll is ss ρ with | some ρ => .next ρ st | none => .stuck) ρ st
theorem PostA.ofS {σ : St} {ρ : Env} {f : DenS} {K : List S → Env → Sto → SRes} {E : Ends} {Q : List V → Hp → Prop} (SS : Stt G Z ρ st L σ H) (h : PostS G Z W L st H (sOf f K ρ st) E)
    (hk : ∀ d st1 v H1 L1, f ρ st = .ok d st1 → Fw Z L st H L1 st1 H1 → Stt G Z ρ st1 L1 σ H1 → SReps G (Zof Z L1 st1) H1 L1 d v → PostS G Z W L1 st1 H1 (K d ρ st1) E → Q v H1) : PostA G Z W σ L st H (f ρ st) Q := by
  unfold sOf at h
  revert h hk
  cases f ρ st with
  | ok d st1 => exact fun h hk v H1 L1 f o rv => hk d st1 v H1 L1 rfl f (SS.to f o) rv (PostS.on f h)
  | exc c fs st1 => exact fun h hk H' L' C dd vfs f o hC hd hr => h σ H' L' C dd vfs f (SS.to f o) hC hd hr
  | stuck => exact fun h hk => h
/-- names set one after another from the left -/
def gsNames : List Nat → TGs
  | [] => gNil
  | i :: is => gCons (gName i) (gsNames is)
theorem gs_names : ∀ {is : List Nat} {ss : List S} {vs : List V} {ρ ρ' : Env} {σ : St} {Z : Zone} {H : Hp} {L : List Addr} {Q : St → Hp → Prop}, EnvOk G Z H L ρ σ → SReps G Z H L ss vs → setAll is ss ρ = some ρ' → (∀ σ', EnvOk G Z H L ρ' σ' → Q σ' H) → gsNames is vs σ H Q
  | [], [], _, ρ, ρ', σ, _, _, _, _, E, .nil, e, q => by
    cases e
    exact ⟨rfl, q σ E⟩
  | i :: is, s :: ss, _, ρ, ρ', σ, Z, H, L, Q, E, .cons r t, e, q => by
    refine ⟨_, _, rfl, ?_⟩
    exact gs_names (E.set i r) t e q
  | [], _ :: _, _, _, _, _, _, _, _, _, _, _, e, _ => by cases e
  | _ :: _, [], _, _, _, _, _, _, _, _, _, _, e, _ => by cases e
theorem ms_parT {ts : List Expr} {f : DenS} {is : List Nat} {k k2 : Nat} {p1 p2 : Pos} {n : Nat} (hK : G.K = X.K) (hc : X.calm = true) (ha : MAS G W X es f) (hg : PGs X ts (gsNames is)) (hn : (assignEach ts X.env).length = n := by rfl) (hst : (assignEach ts X.env).findIdx? (·.1) = none := by rfl) (hlen : is.length = n := by rfl)
    (hs : swapsWithSole [.Tuple ts k p1] (.Tuple es k2 p2) pos.line X.env = pure false := by rfl) (hw : swappedStores [.Tuple ts k p1] (.Tuple es k2 p2) X.env = pure none := by rfl)
    (h1 : (assignEach [.Tuple ts k p1] X.env).map (·.2) = [assign (.Tuple ts k p1) X.env] := by rfl) (hsz : is.length ≤ sizeLine := by rw [sizeLine_eq]; decide) : MS G W X (.Assign [.Tuple ts k p1] (.Tuple es k2 p2) pos) (sPar is f) := PS.imp (ps_asg (pe_tup ha) (pg_tup hc hg hn hst) hs hw h1) fun E σ H q => by
  obtain ⟨Z, ρ, st, L, S, q⟩ := q
  refine ⟨Z, ρ, st, L, S, PostA.ofS (K := fun ss ρ st => match setAll is ss ρ with | some ρ => .next ρ st | none => .stuck) S q fun ss st1 v H1 L1 e1 f1 S1 r1 q1 => ?_⟩
  have q1 : PostS G Z W L1 st1 H1 (match setAll is ss ρ with | some ρ => .next ρ st1 | none => .stuck) E := q1
  split at q1
  · rename_i ρ' eg
    have hl : ∀ (is : List Nat) (ss : List M.S) (ρ ρ' : Env), setAll is ss ρ = some ρ' → ss.length = is.length := by
      intro is
      induction is with
      | nil => intro ss ρ ρ' e; cases ss with | nil => rfl | cons _ _ => cases e
      | cons i is ih => intro ss ρ ρ' e; cases ss with | nil => cases e | cons s ss => exact congrArg (· + 1) (ih ss _ _ e)
    have l1 := hl is ss ρ ρ' eg
    have l2 := r1.length
    refine ⟨by omega, fun p hp => ⟨p, v, rfl, .inl (.inl upd_same), by omega, ?_⟩⟩
    have sm := same_new (o := .tup v) hp
    have f2 : Fw Z L1 st1 H1 L1 st1 (upd H1 p (.tup v)) := Fw.same sm
    exact gs_names (S1.env.mono f2) (r1.mono f2) eg fun σ' E' => q1 σ' _ L1 f2 ⟨S1.ok.same sm, E'⟩
  · exact q1.elim
theorem ms_par2 {i j : Nat} {x y : Str} {a b : Expr} {px py pt : Pos} {kt k2 pt2} {f : DenS} (hc : X.calm = true) (hN : X.N.Nodup) (ha : MAS G W X [a, b] f) (hi : X.N[i]? = some x := by rfl) (hj : X.N[j]? = some y := by rfl) (hij : i ≠ j := by decide)
    (hx : X.env.scope.names.lookup x = some .local := by rfl) (hy : X.env.scope.names.lookup y = some .local := by rfl)
    (hw : swappedStores [.Tuple [.Name x px, .Name y py] kt pt] (.Tuple [a, b] k2 pt2) X.env = pure (some [x, y]) := by rfl)
    (hs : swapsWithSole [.Tuple [.Name x px, .Name y py] kt pt] (.Tuple [a, b] k2 pt2) pos.line X.env = pure false := by rfl) :
    MS G W X (.Assign [.Tuple [.Name x px, .Name y py] kt pt] (.Tuple [a, b] k2 pt2) pos) (sPar [i, j] f) := PS.imp (ps_par hc hN hi hj hij hx hy ha hw hs) fun E σ H q => by
  obtain ⟨Z, ρ, st, L, S, q⟩ := q
  refine ⟨Z, ρ, st, L, S, PostA.ofS (K := fun ss ρ st => match setAll [i, j] ss ρ with | some ρ => .next ρ st | none => .stuck) S q fun ss st1 v H1 L1 e1 f1 S1 r1 q1 => ?_⟩
  have q1 : PostS G Z W L1 st1 H1 (match setAll [i, j] ss ρ with | some ρ => .next ρ st1 | none => .stuck) E := q1
  match ss, r1, q1 with
  | [s1, s2], .cons r1 (.cons r2 .nil), q1 => exact ⟨_, _, rfl, q1 _ H1 L1 Fw.refl ⟨S1.ok, (S1.env.set i r1).set j r2⟩⟩
  | [], _, q1 => exact q1.elim
  | [_], _, q1 => exact q1.elim
  | _ :: _ :: _ :: _, _, q1 => exact q1.elim
theorem ms_par3 {i j l : Nat} {x y z : Str} {a b c : Expr} {px py pz pt : Pos} {kt k2 pt2} {f : DenS} (hc : X.calm = true) (hN : X.N.Nodup) (ha : MAS G W X [a, b, c] f) (hi : X.N[i]? = some x := by rfl) (hj : X.N[j]? = some y := by rfl) (hl : X.N[l]? = some z := by rfl) (hij : i ≠ j := by decide) (hil : i ≠ l := by decide) (hjl : j ≠ l := by decide)
    (hx : X.env.scope.names.lookup x = some .local := by rfl) (hy : X.env.scope.names.lookup y = some .local := by rfl) (hz : X.env.scope.names.lookup z = some .local := by rfl)
    (hw : swappedStores [.Tuple [.Name x px, .Name y py, .Name z pz] kt pt] (.Tuple [a, b, c] k2 pt2) X.env = pure (some [x, y, z]) := by rfl)
    (hs : swapsWithSole [.Tuple [.Name x px, .Name y py, .Name z pz] kt pt] (.Tuple [a, b, c] k2 pt2) pos.line X.env = pure false := by rfl) :
    MS G W X (.Assign [.Tuple [.Name x px, .Name y py, .Name z pz] kt pt] (.Tuple [a, b, c] k2 pt2) pos) (sPar [i, j, l] f) := PS.imp (ps_par3 hc hN hi hj hl hij hil hjl hx hy hz ha hw hs) fun E σ H q => by
  obtain ⟨Z, ρ, st, L, S, q⟩ := q
  refine ⟨Z, ρ, st, L, S, PostA.ofS (K := fun ss ρ st => match setAll [i, j, l] ss ρ with | some ρ => .next ρ st | none => .stuck) S q fun ss st1 v H1 L1 e1 f1 S1 r1 q1 => ?_⟩
  have q1 : PostS G Z W L1 st1 H1 (match setAll [i, j, l] ss ρ with | some ρ => .next ρ st1 | none => .stuck) E := q1
  match ss, r1, q1 with
  | [s1, s2, s3], .cons r1 (.cons r2 (.cons r3 .nil)), q1 => exact ⟨_, _, _, rfl, q1 _ H1 L1 Fw.refl ⟨S1.ok, ((S1.env.set i r1).set j r2).set l r3⟩⟩
  | [], _, q1 => exact q1.elim
  | [_], _, q1 => exact q1.elim
  | [_, _], _, q1 => exact q1.elim
  | _ :: _ :: _ :: _ :: _, _, q1 => exact q1.elim
/-- a constant of the module -/
theorem me_glob {x : Str} {d : D} {v : V} {u : Value} {p : Pos} (hm : X.mg x = some u) (r : RelV v u) (rd : ∀ Z H, Rep G Z H d v) (hg : Gl X x := by rfl) (hd : (x == ("__debug__" : Str)) = false := by decide) : ME G W X (.Name x p) (eC d) := me_c (pe_glob hg hm r hd) rd
theorem me_gint {x : Str} {i : Int} {t : Tok} {p : Pos} (hm : X.mg x = some (.int i t)) (hg : Gl X x := by rfl) (hd : (x == ("__debug__" : Str)) = false := by decide) : ME G W X (.Name x p) (eC (.int i)) := me_c (pe_glob (v := .int i) hg hm ⟨_, rfl⟩ hd) fun _ _ => .int i
theorem me_gstr {x : Str} {i : Str} {t : Tok} {p : Pos} (hm : X.mg x = some (.str i t)) (hg : Gl X x := by rfl) (hd : (x == ("__debug__" : Str)) = false := by decide) : ME G W X (.Name x p) (eC (.str i)) := me_c (pe_glob (v := .str i) hg hm ⟨_, rfl⟩ hd) fun _ _ => .str i
/-- isinstance(e, (T1, T2)) -/
def dIsi2 (T U : String) (d : D) : Option D := (tyName d).bind fun n => (kitB n T).bind fun b => (kitB n U).map fun c => .bl (b || c)
theorem me_isi2 {T U : String} {y z : Str} {p py pz pt : Pos} {k : Nat} {f : Den} (hK : G.K = X.K) (hm : X.mg "isinstance" = none) (hv : bootBuiltins y = some (.type T)) (hv2 : bootBuiltins z = some (.type U)) (hmy : X.mg y = none) (hmz : X.mg z = none) (ha : ME G W X e f)
    (hgy : Gl X y := by rfl) (hny : y ≠ "__name__" := by decide) (hdby : (y == ("__debug__" : Str)) = false := by decide) (hgz : Gl X z := by rfl) (hnz : z ≠ "__name__" := by decide) (hdbz : (z == ("__debug__" : Str)) = false := by decide) (hg : Gl X "isinstance" := by rfl)
    (hs : starEach [e, .Tuple [.Name y py, .Name z pz] k pt] X.env = (false, eval e X.env) :: starEach [.Tuple [.Name y py, .Name z pz] k pt] X.env := by rfl) (hs2 : starEach [.Tuple [.Name y py, .Name z pz] k pt] X.env = (false, eval (.Tuple [.Name y py, .Name z pz] k pt) X.env) :: starEach [] X.env := by rfl)
    (hs3 : starEach [.Name y py, .Name z pz] X.env = (false, eval (.Name y py) X.env) :: starEach [.Name z pz] X.env := by rfl) (hs4 : starEach [.Name z pz] X.env = (false, eval (.Name z pz) X.env) :: starEach [] X.env := by rfl)
    (hpl : (backTo pos (starEach [.Tuple [.Name y py, .Name z pz] k pt] X.env)).any (·.1) = false := by rfl) :
    ME G W X (.Call (.Name "isinstance" p) [e, .Tuple [.Name y py, .Name z pz] k pt] [] pos) (eOp1 (dIsi2 T U) f) :=
  PE.imp (pe_callB call_isiT hg hm (by decide +kernel) (pa_cons ha (pa_cons (pe_tup (pa_cons (pe_bltn (v := .ty T) hgy hmy hv rfl hny hdby) (pa_cons (pe_bltn (v := .ty U) hgz hmz hv2 rfl hnz hdbz) pa_nil hs4) hs3)) pa_nil hs2) hs) (by decide) (by decide) hs hpl) fun σ H Q q => by
    obtain ⟨Z, ρ, st, L, S, q⟩ := q
    refine ⟨Z, ρ, st, L, S, PostR.bind q fun d st1 x H1 L1 e f1 o1 r1 q1 => ?_⟩
    refine ⟨by show 2 ≤ sizeLine; rw [sizeLine_eq]; omega, fun t ht => ?_⟩
    split at q1
    · rename_i w ez
      unfold dIsi2 at ez
      obtain ⟨n, h1, h2⟩ := Option.bind_eq_some_iff.mp ez
      obtain ⟨b, h3, h4⟩ := Option.bind_eq_some_iff.mp h2
      obtain ⟨c, h5, h6⟩ := Option.map_eq_some_iff.mp h4
      subst h6
      have sm := same_new (o := .tup [.ty T, .ty U]) ht
      refine ⟨_, t, [.ty T, .ty U], .type n, [.type T, .type U], b || c, rfl, upd_same, .cons (.ty T) (.cons (.ty U) .nil), View.tyx hK (.rep (r1.mono (Same.keeps sm))) h1, ?_, q1 _ _ L1 (Fw.same sm) (o1.same sm) (.bl _)⟩
      refine kitAny_cons (kit_ty h3) (fun hb => ?_) (fun hb => by rw [hb]; rfl)
      refine kitAny_cons (kit_ty h5) (fun hc => ?_) (fun hc => by rw [hb, hc]; rfl)
      rw [hb, hc]
      exact kitAny_nil
    · exact q1.elim
end

/-! ### for the printed derivations -/
section
variable {G : Wd} {W : WX} {X : Cx}
theorem hu65 {k : Nat} {A : Around} (r : Room k A) : A.units + 65 < cLine := by have := r.un; omega
theorem hu64 {k : Nat} {A : Around} (r : Room k A) : A.units + 64 < cLine := r.units
theorem gsim_name {vs : List Nat} (i : Nat) (hv : i ∈ vs := by decide) : GSim G (gName i) (gN i) vs := fun Z H L d v ρ σ ρ' Q E r e q => by
  cases e
  exact q _ (E.set i (.p r)) (wipe_set hv)
theorem gssim_nil {vs : List Nat} : GsSim G gNil gsNil vs := fun Z H L d v ρ σ ρ' Q E r e q => by
  cases r with
  | nil => cases e; exact ⟨rfl, q σ E rfl⟩
  | cons _ _ => cases e
theorem gssim_cons {ga : TG} {gb : TGs} {g : GD} {h : List D → Env → Option Env} {vs : List Nat} (a2 : GSim G ga g vs) (b2 : GsSim G gb h vs) : GsSim G (gCons ga gb) (gsCons g h) vs := fun Z H L d v ρ σ ρ' Q E r e q => by
  cases r with
  | nil => cases e
  | cons r t =>
    obtain ⟨ρ1, e1, e2⟩ := Option.bind_eq_some_iff.mp e
    refine ⟨_, _, rfl, a2 _ _ _ _ _ _ _ ρ1 _ E r e1 fun σ1 E1 w1 => ?_⟩
    exact b2 _ _ _ _ _ _ _ ρ' _ E1 t e2 fun σ2 E2 w2 => q σ2 E2 (w2.trans w1)
theorem gsim_tup {ga : TGs} {g : List D → Env → Option Env} {vs : List Nat} {n : Nat} {K : PySem.W.Frag} (hK : G.K = K) (a2 : GsSim G ga g vs) : GSim G (gTup K n ga) (gT g n) vs := fun Z H L d v ρ σ ρ' Q E r e q => by
  unfold gT at e
  split at e
  · split at e
    · rename_i ds hl
      obtain ⟨a, ws, rfl, ha, ra⟩ := r.tup'
      exact ⟨a, ws, rfl, hK ▸ ha, by rw [← ra.length]; exact hl, a2 _ _ _ _ _ _ _ ρ' _ E ra e q⟩
    · cases e
  · cases e
end

section
variable {G : Wd} {W : WX} {X : Cx} {pos : Pos}
theorem own_of {f : Env → Sto → Res O} {σ : St} {H : Hp} {Q : VK} (q : tM G W (ePure f) σ H Q) : tMN G W f σ H Q := by
  obtain ⟨Z, ρ, st, L, S, q⟩ := q
  refine ⟨Z, ρ, st, L, S, ?_⟩
  cases ef : f ρ st with
  | stuck => simp only [ePure, ef, Res.bind] at q; exact q
  | exc c fs st1 => simp only [ePure, ef, Res.bind] at q; exact q
  | ok o st1 =>
    simp only [ePure, ef, Res.bind] at q
    intro p H1 L1 fn ok
    have o1 : StOk G Z L1 st1 H1 := fn.ok.shrink fun a z => .inl z
    have zp : ¬ Zof Z L1 st1 p := fun z => by
      rcases z with z | ⟨n, u, e1, _⟩
      · exact S.ok.z0 p z fn.new
      · exact fn.ok.zl p (List.mem_of_getElem? e1) (.inr rfl)
    have zz : ∀ a, Zof Z L1 st1 a → Zof (fun a => Z a ∨ a = p) L1 st1 a := zof_mono fun a z => .inl z
    cases o with
    | lst ds =>
      obtain ⟨vs, h1, h2⟩ := ok
      exact q _ H1 L1 fn.fr o1 (.lst (.inl h1) zp (h2.zone zz))
    | dic ds =>
      rcases ok with ⟨kvs, h1, h2⟩ | ⟨kvs, h1, h2⟩
      · exact q _ H1 L1 fn.fr o1 (.dK (.inl h1) zp (h2.zone zz))
      · exact q _ H1 L1 fn.fr o1 (.dT (.inl h1) zp (h2.zone zz))
    | frz d => exact q _ H1 L1 fn.fr o1 (Rep.zone zz ok)
    | ins c fs => exact q.elim
    | dead => exact q.elim
theorem setQ {f : Den} {i : Nat} {σ : St} {H : Hp} {E : Ends} (q : tMS G W (sSet i f) E σ H) : tM G W f σ H fun x H1 => gName i x σ H1 E.nx := by
  obtain ⟨Z, ρ, st, L, S, q⟩ := q
  exact ⟨Z, ρ, st, L, S, PostR.bindS S q fun d st1 v H1 L1 e1 f1 S1 r1 q1 => q1 _ H1 L1 Fw.refl ⟨S1.ok, S1.env.set i (.p r1)⟩⟩
section
variable {tg elt iter : Expr} {ifs : List Expr} {scope : Scope} {own : List (Str × Nat)} {fi : DenL} {gm : GD} {ft : DenB} {fe : Den} {g : TG} {y : Str} {py spos : Pos}
theorem ms_setComp (i : Nat) (hc : X.calm = true) (hN : X.N.Nodup) (hi : MI G W X tg iter fi) (ok : BlkOk X.N X.env.scope scope own) (hsim : GSim G g gm (own.map (·.2)))
    (hg : ∀ (s : Shared) (H : Hp) (C : Addr) (cl : List (Str × Addr)) (fp : List Addr), PG (X.blk s H scope (compEnvC scope cl C X.env) fp) tg g) (ht : ∀ (s : Shared) (H : Hp) (C : Addr) (cl : List (Str × Addr)) (fp : List Addr), MTs G W0 (X.blk s H scope (compEnvC scope cl C X.env) fp) ifs ft)
    (he : ∀ (s : Shared) (H : Hp) (C : Addr) (cl : List (Str × Addr)) (fp : List Addr), ME G W0 (X.blk s H scope (compEnvC scope cl C X.env) fp) elt fe)
    (hsw : swapsWith (.ListComp elt [⟨tg, iter, ifs, 0⟩] scope pos) (some (.Name y py)) spos.line X.env = pure true) (hy : X.N[i]? = some y := by rfl) (hyl : X.env.scope.names.lookup y = some .local := by rfl) (hs : ∀ x, foldedSetIterable iter X.env x = pure x := by intro _; rfl) :
    MS G W X (.Assign [.Name y py] (.ListComp elt [⟨tg, iter, ifs, 0⟩] scope pos) spos) (sSet i (ePure (eComp fi gm ft fe (own.map (·.2))))) :=
  PS.imp (ps_setLc hc hN hy hyl hsw hi ok hg ht he hs) fun E σ H q => comp_core hsim (own_of (setQ q))
theorem ms_newComp (i : Nat) (hc : X.calm = true) (hN : X.N.Nodup) (hi : MI G W X tg iter fi) (ok : BlkOk X.N X.env.scope scope own) (hsim : GSim G g gm (own.map (·.2)))
    (hg : ∀ (s : Shared) (H : Hp) (C : Addr) (cl : List (Str × Addr)) (fp : List Addr), PG (X.blk s H scope (compEnvC scope cl C X.env) fp) tg g) (ht : ∀ (s : Shared) (H : Hp) (C : Addr) (cl : List (Str × Addr)) (fp : List Addr), MTs G W0 (X.blk s H scope (compEnvC scope cl C X.env) fp) ifs ft)
    (he : ∀ (s : Shared) (H : Hp) (C : Addr) (cl : List (Str × Addr)) (fp : List Addr), ME G W0 (X.blk s H scope (compEnvC scope cl C X.env) fp) elt fe)
    (hsw : swapsWith (.ListComp elt [⟨tg, iter, ifs, 0⟩] scope pos) (some (.Name y py)) spos.line X.env = pure true) (hy : X.N[i]? = some y := by rfl) (hyl : X.env.scope.names.lookup y = some .local := by rfl) (hs : ∀ x, foldedSetIterable iter X.env x = pure x := by intro _; rfl) :
    MS G W X (.Assign [.Name y py] (.ListComp elt [⟨tg, iter, ifs, 0⟩] scope pos) spos) (sNew i (eComp fi gm ft fe (own.map (·.2)))) :=
  PS.imp (ps_setLc hc hN hy hyl hsw hi ok hg ht he hs) fun E σ H q => comp_core hsim (newS q)
end
end
section
variable {P : Program} {w : World} {K : PySem.W.Frag} {mg : Str → Option Value} {base : Heap} {G : Wd}
/-- a recursion's ground: nothing is promised there -/
theorem fn_stuck {x qual : Str} {s : Stmt} {f : Addr} {fd : FuncData} {N ps : List Str} {n : Nat} (F : Fun K x qual s f fd) (S : FnScope N ps (defScope s)) (hn : ps.length = n) : FnOk P w K mg base (L2.CX P w) 1 f fd ps (spM G n fun _ _ => .stuck) := by
  refine F.okX S (fun vs H Q E h => by rw [hn]; exact h.1) fun cdv A outer sh H vs Q E hr h => ⟨tNever, pss_never, ?_⟩
  obtain ⟨hl, Z, ss, st, L, ok, r, q⟩ := h
  exact q
end

/-- the law's promise at its call -/
theorem law_sp {K : PySem.W.Frag} {G : Wd} {dn : FD} {H : Hp} {a : Addr} {ns : List Int} (m : dn [.p (.scr ns)] [] = .ok (.bl true) []) (hS : SqL K H a (ns.map V.int)) (hK : G.K = K := by rfl) : spM G 1 dn [.ref a] H (fun v _ => v = .bl true) fun _ _ _ => False := by
  refine ⟨rfl, fun _ => False, [.p (.scr ns)], [], [], ⟨rfl, .nil, fun n a o e => by simp at e, fun a z => z.elim, fun a m => by simp at m, fun a m => by simp at m⟩, .cons (.p ?_) .nil, ?_⟩
  · rcases hS with h | h
    · exact .scr h fun z => z.elim id fun ⟨n, o, e, _⟩ => by simp at e
    · exact .scrK (hK ▸ h)
  · rw [m]
    exact fun v H' L' _ _ r => r.bl'
end M
namespace M
open PySem PySem.Spec L2
/-! ### the plain side: rules of evaluation -/
theorem kit_NoneType_int : kitB "NoneType" "int" = some false := by decide +kernel
theorem kit_bool_int : kitB "bool" "int" = some true := by decide +kernel
theorem kit_int_int : kitB "int" "int" = some true := by decide +kernel
theorem kit_str_int : kitB "str" "int" = some false := by decide +kernel
theorem kit_tuple_int : kitB "tuple" "int" = some false := by decide +kernel
theorem kit_list_int : kitB "list" "int" = some false := by decide +kernel
theorem kit_NoneType_bool : kitB "NoneType" "bool" = some false := by decide +kernel
theorem kit_bool_bool : kitB "bool" "bool" = some true := by decide +kernel
theorem kit_int_bool : kitB "int" "bool" = some false := by decide +kernel
theorem kit_str_bool : kitB "str" "bool" = some false := by decide +kernel
theorem kit_tuple_bool : kitB "tuple" "bool" = some false := by decide +kernel
theorem kit_list_bool : kitB "list" "bool" = some false := by decide +kernel
theorem kit_NoneType_str : kitB "NoneType" "str" = some false := by decide +kernel
theorem kit_bool_str : kitB "bool" "str" = some false := by decide +kernel
theorem kit_int_str : kitB "int" "str" = some false := by decide +kernel
theorem kit_str_str : kitB "str" "str" = some true := by decide +kernel
theorem kit_tuple_str : kitB "tuple" "str" = some false := by decide +kernel
theorem kit_list_str : kitB "list" "str" = some false := by decide +kernel
theorem kit_NoneType_tuple : kitB "NoneType" "tuple" = some false := by decide +kernel
theorem kit_bool_tuple : kitB "bool" "tuple" = some false := by decide +kernel
theorem kit_int_tuple : kitB "int" "tuple" = some false := by decide +kernel
theorem kit_str_tuple : kitB "str" "tuple" = some false := by decide +kernel
theorem kit_tuple_tuple : kitB "tuple" "tuple" = some true := by decide +kernel
theorem kit_list_tuple : kitB "list" "tuple" = some false := by decide +kernel
theorem kit_NoneType_list : kitB "NoneType" "list" = some false := by decide +kernel
theorem kit_bool_list : kitB "bool" "list" = some false := by decide +kernel
theorem kit_int_list : kitB "int" "list" = some false := by decide +kernel
theorem kit_str_list : kitB "str" "list" = some false := by decide +kernel
theorem kit_tuple_list : kitB "tuple" "list" = some false := by decide +kernel
theorem kit_list_list : kitB "list" "list" = some true := by decide +kernel
@[simp] theorem isi_int (d : D) : dIsi "int" d = match d with | .non => some (.bl false) | .bl _ => some (.bl true) | .int _ => some (.bl true) | .str _ => some (.bl false) | .tup _ => some (.bl false) | .lst _ => some (.bl false) | _ => none := by
  cases d <;> first | rfl | exact (congrArg (Option.map D.bl) (by first | exact kit_NoneType_int | exact kit_bool_int | exact kit_int_int | exact kit_str_int | exact kit_tuple_int | exact kit_list_int))
@[simp] theorem isi_bool (d : D) : dIsi "bool" d = match d with | .non => some (.bl false) | .bl _ => some (.bl true) | .int _ => some (.bl false) | .str _ => some (.bl false) | .tup _ => some (.bl false) | .lst _ => some (.bl false) | _ => none := by
  cases d <;> first | rfl | exact (congrArg (Option.map D.bl) (by first | exact kit_NoneType_bool | exact kit_bool_bool | exact kit_int_bool | exact kit_str_bool | exact kit_tuple_bool | exact kit_list_bool))
@[simp] theorem isi_str (d : D) : dIsi "str" d = match d with | .non => some (.bl false) | .bl _ => some (.bl false) | .int _ => some (.bl false) | .str _ => some (.bl true) | .tup _ => some (.bl false) | .lst _ => some (.bl false) | _ => none := by
  cases d <;> first | rfl | exact (congrArg (Option.map D.bl) (by first | exact kit_NoneType_str | exact kit_bool_str | exact kit_int_str | exact kit_str_str | exact kit_tuple_str | exact kit_list_str))
@[simp] theorem isi_tuple (d : D) : dIsi "tuple" d = match d with | .non => some (.bl false) | .bl _ => some (.bl false) | .int _ => some (.bl false) | .str _ => some (.bl false) | .tup _ => some (.bl true) | .lst _ => some (.bl false) | _ => none := by
  cases d <;> first | rfl | exact (congrArg (Option.map D.bl) (by first | exact kit_NoneType_tuple | exact kit_bool_tuple | exact kit_int_tuple | exact kit_str_tuple | exact kit_tuple_tuple | exact kit_list_tuple))
@[simp] theorem isi_list (d : D) : dIsi "list" d = match d with | .non => some (.bl false) | .bl _ => some (.bl false) | .int _ => some (.bl false) | .str _ => some (.bl false) | .tup _ => some (.bl false) | .lst _ => some (.bl true) | _ => none := by
  cases d <;> first | rfl | exact (congrArg (Option.map D.bl) (by first | exact kit_NoneType_list | exact kit_bool_list | exact kit_int_list | exact kit_str_list | exact kit_tuple_list | exact kit_list_list))
@[simp] theorem isi2_tl (d : D) : dIsi2 "tuple" "list" d = match d with | .non => some (.bl false) | .bl _ => some (.bl false) | .int _ => some (.bl false) | .str _ => some (.bl false) | .tup _ => some (.bl true) | .lst _ => some (.bl true) | _ => none := by
  cases d <;> first | rfl | (simp only [dIsi2, tyName, Option.bind_some, kit_NoneType_tuple, kit_NoneType_list, kit_bool_tuple, kit_bool_list, kit_int_tuple, kit_int_list, kit_str_tuple, kit_str_list, kit_tuple_tuple, kit_tuple_list, kit_list_tuple, kit_list_list, Option.map_some, Bool.or_false, Bool.or_true, Bool.or_self])

@[simp] theorem flat_non {n} : D.flat n .non = true := by cases n <;> rfl
@[simp] theorem flat_bl {n b} : D.flat n (.bl b) = true := by cases n <;> rfl
@[simp] theorem flat_int {n i} : D.flat n (.int i) = true := by cases n <;> rfl
@[simp] theorem flat_str {n x} : D.flat n (.str x) = PyData.strOk x := by cases n <;> rfl
@[simp] theorem flat_tup {n xs} : D.flat (n + 1) (.tup xs) = D.flats n xs := rfl
@[simp] theorem flat_lst {n xs} : D.flat (n + 1) (.lst xs) = D.flats n xs := rfl
@[simp] theorem flats_nil {n} : D.flats n [] = true := by cases n <;> rfl
@[simp] theorem flats_cons {n x xs} : D.flats n (x :: xs) = (D.flat n x && D.flats n xs) := by cases n <;> rfl
theorem flats_all {n : Nat} : ∀ {xs : List D}, D.flats n xs = xs.all (D.flat n)
  | [] => by simp
  | x :: xs => by simp [flats_all (xs := xs)]
def D.eqvs : List D → List D → Bool
  | [], [] => true
  | x :: xs, y :: ys => D.eqv x y && D.eqvs xs ys
  | _, _ => false
theorem eqvAll_pys : ∀ (xs ys : List D), PyData.eqvAll (D.pys xs) (D.pys ys) = D.eqvs xs ys
  | [], [] => by simp [D.pys, D.eqvs, PyData.eqvAll]
  | [], _ :: _ => by simp [D.pys, D.eqvs, PyData.eqvAll]
  | _ :: _, [] => by simp [D.pys, D.eqvs, PyData.eqvAll]
  | x :: xs, y :: ys => by simp only [D.pys, D.eqvs, PyData.eqvAll, eqvAll_pys xs ys, D.eqv]
@[simp] theorem eqv_int (i j : Int) : D.eqv (.int i) (.int j) = (i == j) := by simp [D.eqv, D.py, PyData.eqv]
@[simp] theorem eqv_str (i j : Str) : D.eqv (.str i) (.str j) = (i == j) := by simp [D.eqv, D.py, PyData.eqv]
@[simp] theorem eqv_bl (i j : Bool) : D.eqv (.bl i) (.bl j) = (i == j) := by simp [D.eqv, D.py, PyData.eqv]
@[simp] theorem eqv_nn : D.eqv .non .non = true := by simp [D.eqv, D.py, PyData.eqv]
@[simp] theorem eqv_tt (xs ys : List D) : D.eqv (.tup xs) (.tup ys) = D.eqvs xs ys := by simp only [D.eqv, D.py, PyData.eqv, eqvAll_pys]
@[simp] theorem eqv_ll (xs ys : List D) : D.eqv (.lst xs) (.lst ys) = D.eqvs xs ys := by simp only [D.eqv, D.py, PyData.eqv, eqvAll_pys]
@[simp] theorem eqvs_nn : D.eqvs [] [] = true := rfl
@[simp] theorem eqvs_nc {x xs} : D.eqvs [] (x :: xs) = false := rfl
@[simp] theorem eqvs_cn {x xs} : D.eqvs (x :: xs) [] = false := rfl
@[simp] theorem eqvs_cc {x xs y ys} : D.eqvs (x :: xs) (y :: ys) = (D.eqv x y && D.eqvs xs ys) := rfl
@[simp] theorem eqv_mx1 {b : Bool} {i : Int} {x : Str} {xs ys : List D} : D.eqv (.non) (.bl b) = false := by simp [D.eqv, D.py, PyData.eqv]
@[simp] theorem eqv_mx2 {b : Bool} {i : Int} {x : Str} {xs ys : List D} : D.eqv (.bl b) (.non) = false := by simp [D.eqv, D.py, PyData.eqv]
@[simp] theorem eqv_mx3 {b : Bool} {i : Int} {x : Str} {xs ys : List D} : D.eqv (.non) (.int i) = false := by simp [D.eqv, D.py, PyData.eqv]
@[simp] theorem eqv_mx4 {b : Bool} {i : Int} {x : Str} {xs ys : List D} : D.eqv (.int i) (.non) = false := by simp [D.eqv, D.py, PyData.eqv]
@[simp] theorem eqv_mx5 {b : Bool} {i : Int} {x : Str} {xs ys : List D} : D.eqv (.non) (.str x) = false := by simp [D.eqv, D.py, PyData.eqv]
@[simp] theorem eqv_mx6 {b : Bool} {i : Int} {x : Str} {xs ys : List D} : D.eqv (.str x) (.non) = false := by simp [D.eqv, D.py, PyData.eqv]
@[simp] theorem eqv_mx7 {b : Bool} {i : Int} {x : Str} {xs ys : List D} : D.eqv (.non) (.tup xs) = false := by simp [D.eqv, D.py, PyData.eqv]
@[simp] theorem eqv_mx8 {b : Bool} {i : Int} {x : Str} {xs ys : List D} : D.eqv (.tup xs) (.non) = false := by simp [D.eqv, D.py, PyData.eqv]
@[simp] theorem eqv_mx9 {b : Bool} {i : Int} {x : Str} {xs ys : List D} : D.eqv (.non) (.lst xs) = false := by simp [D.eqv, D.py, PyData.eqv]
@[simp] theorem eqv_mx10 {b : Bool} {i : Int} {x : Str} {xs ys : List D} : D.eqv (.lst xs) (.non) = false := by simp [D.eqv, D.py, PyData.eqv]
@[simp] theorem eqv_mx11 {b : Bool} {i : Int} {x : Str} {xs ys : List D} : D.eqv (.bl b) (.str x) = false := by simp [D.eqv, D.py, PyData.eqv]
@[simp] theorem eqv_mx12 {b : Bool} {i : Int} {x : Str} {xs ys : List D} : D.eqv (.str x) (.bl b) = false := by simp [D.eqv, D.py, PyData.eqv]
@[simp] theorem eqv_mx13 {b : Bool} {i : Int} {x : Str} {xs ys : List D} : D.eqv (.bl b) (.tup xs) = false := by simp [D.eqv, D.py, PyData.eqv]
@[simp] theorem eqv_mx14 {b : Bool} {i : Int} {x : Str} {xs ys : List D} : D.eqv (.tup xs) (.bl b) = false := by simp [D.eqv, D.py, PyData.eqv]
@[simp] theorem eqv_mx15 {b : Bool} {i : Int} {x : Str} {xs ys : List D} : D.eqv (.bl b) (.lst xs) = false := by simp [D.eqv, D.py, PyData.eqv]
@[simp] theorem eqv_mx16 {b : Bool} {i : Int} {x : Str} {xs ys : List D} : D.eqv (.lst xs) (.bl b) = false := by simp [D.eqv, D.py, PyData.eqv]
@[simp] theorem eqv_mx17 {b : Bool} {i : Int} {x : Str} {xs ys : List D} : D.eqv (.int i) (.str x) = false := by simp [D.eqv, D.py, PyData.eqv]
@[simp] theorem eqv_mx18 {b : Bool} {i : Int} {x : Str} {xs ys : List D} : D.eqv (.str x) (.int i) = false := by simp [D.eqv, D.py, PyData.eqv]
@[simp] theorem eqv_mx19 {b : Bool} {i : Int} {x : Str} {xs ys : List D} : D.eqv (.int i) (.tup xs) = false := by simp [D.eqv, D.py, PyData.eqv]
@[simp] theorem eqv_mx20 {b : Bool} {i : Int} {x : Str} {xs ys : List D} : D.eqv (.tup xs) (.int i) = false := by simp [D.eqv, D.py, PyData.eqv]
@[simp] theorem eqv_mx21 {b : Bool} {i : Int} {x : Str} {xs ys : List D} : D.eqv (.int i) (.lst xs) = false := by simp [D.eqv, D.py, PyData.eqv]
@[simp] theorem eqv_mx22 {b : Bool} {i : Int} {x : Str} {xs ys : List D} : D.eqv (.lst xs) (.int i) = false := by simp [D.eqv, D.py, PyData.eqv]
@[simp] theorem eqv_mx23 {b : Bool} {i : Int} {x : Str} {xs ys : List D} : D.eqv (.str x) (.tup xs) = false := by simp [D.eqv, D.py, PyData.eqv]
@[simp] theorem eqv_mx24 {b : Bool} {i : Int} {x : Str} {xs ys : List D} : D.eqv (.tup xs) (.str x) = false := by simp [D.eqv, D.py, PyData.eqv]
@[simp] theorem eqv_mx25 {b : Bool} {i : Int} {x : Str} {xs ys : List D} : D.eqv (.str x) (.lst xs) = false := by simp [D.eqv, D.py, PyData.eqv]
@[simp] theorem eqv_mx26 {b : Bool} {i : Int} {x : Str} {xs ys : List D} : D.eqv (.lst xs) (.str x) = false := by simp [D.eqv, D.py, PyData.eqv]
@[simp] theorem eqv_mx27 {b : Bool} {i : Int} {x : Str} {xs ys : List D} : D.eqv (.tup xs) (.lst ys) = false := by simp [D.eqv, D.py, PyData.eqv]
@[simp] theorem eqv_mx28 {b : Bool} {i : Int} {x : Str} {xs ys : List D} : D.eqv (.lst ys) (.tup xs) = false := by simp [D.eqv, D.py, PyData.eqv]
@[simp] theorem eqv_bi (b : Bool) (j : Int) : D.eqv (.bl b) (.int j) = ((if b then 1 else 0) == j) := by simp [D.eqv, D.py, PyData.eqv]
@[simp] theorem eqv_ib (b : Bool) (j : Int) : D.eqv (.int j) (.bl b) = (j == (if b then 1 else 0)) := by simp [D.eqv, D.py, PyData.eqv]
theorem eqvs_ints : ∀ (a b : List Int), D.eqvs (a.map .int) (b.map .int) = decide (a = b)
  | [], [] => by simp
  | [], _ :: _ => by simp
  | _ :: _, [] => by simp
  | x :: xs, y :: ys => by
    simp only [List.map_cons, eqvs_cc, eqv_int, eqvs_ints xs ys]
    by_cases h : x = y <;> by_cases h2 : xs = ys <;> simp [h, h2]
theorem rngL_eq : ∀ (n : Nat) (lo : Int), rngL lo n = (List.range n).map fun i => D.int (lo + (i : Nat))
  | 0, _ => rfl
  | n + 1, lo => by
    rw [List.range_succ_eq_map, List.map_cons, List.map_map]
    unfold rngL
    rw [rngL_eq n (lo + 1)]
    congr 1
    · simp
    · apply List.map_congr_left
      intro i _
      simp only [Function.comp_apply]
      congr 1
      push_cast
      omega
theorem rngL0 (n : Nat) : rngL 0 n = (List.range n).map fun i => D.int (i : Nat) := by
  rw [rngL_eq]
  apply List.map_congr_left
  intro i _
  congr 1
  omega
/-- a comprehension whose parts leave the store as it is -/
theorem compL_map {α : Type} {g : GD} {ft : DenB} {fe : Den} {ρ : Env} {st : Sto} (enc : α → D) (p : α → Bool) (f : α → D) : ∀ (xs : List α), (∀ x ∈ xs, ∃ ρ1, g (enc x) ρ = some ρ1 ∧ ft ρ1 st = .ok (p x) st ∧ (p x = true → fe ρ1 st = .ok (f x) st)) → compL g ft fe ρ (xs.map enc) st = .ok ((xs.filter p).map f) st
  | [], _ => rfl
  | x :: xs, h => by
    obtain ⟨ρ1, h1, h2, h3⟩ := h x List.mem_cons_self
    have ih := compL_map enc p f xs fun y hy => h y (List.mem_cons_of_mem _ hy)
    rw [List.map_cons]
    unfold compL
    simp only [h1, h2]
    cases hp : p x with
    | true => simp only [h3 hp, ih, Res.bind, List.filter_cons, hp, if_true, List.map_cons]
    | false => simp only [ih, List.filter_cons, hp, Bool.false_eq_true, if_false]
theorem compL_all {α : Type} {g : GD} {fe : Den} {ρ : Env} {st : Sto} (enc : α → D) (f : α → D) (xs : List α) (h : ∀ x ∈ xs, ∃ ρ1, g (enc x) ρ = some ρ1 ∧ fe ρ1 st = .ok (f x) st) : compL g eYes fe ρ (xs.map enc) st = .ok (xs.map f) st := by
  rw [compL_map enc (fun _ => true) f xs fun x hx => by
    obtain ⟨ρ1, h1, h2⟩ := h x hx
    exact ⟨ρ1, h1, rfl, fun _ => h2⟩]
  rw [List.filter_eq_self.mpr (fun _ _ => rfl)]
/-- a for loop by what holds between two turns -/
theorem forL_inv {α : Type} {g : GD} {fb : SDen} (enc : α → D) (I : List α → Env → Sto → Prop) : ∀ (post pre : List α) (ρ : Env) (st : Sto), I pre ρ st →
    (∀ pre x post' ρ st, pre ++ x :: post' = pre ++ x :: post' → I pre ρ st → (∃ a b, a ++ x :: b = pre ++ x :: post' ∧ True) → ∃ ρ1 ρ2 st2, g (enc x) ρ = some ρ1 ∧ (fb ρ1 st = .next ρ2 st2 ∨ fb ρ1 st = .cont ρ2 st2) ∧ I (pre ++ [x]) ρ2 st2) →
    ∃ ρ' st', forL g fb (post.map enc) ρ st = .next ρ' st' ∧ I (pre ++ post) ρ' st'
  | [], pre, ρ, st, h, _ => ⟨ρ, st, rfl, by rw [List.append_nil]; exact h⟩
  | x :: post, pre, ρ, st, h, hs => by
    obtain ⟨ρ1, ρ2, st2, h1, h2, h3⟩ := hs pre x post ρ st rfl h ⟨_, _, rfl, trivial⟩
    obtain ⟨ρ', st', e, r⟩ := forL_inv enc I post (pre ++ [x]) ρ2 st2 h3 hs
    refine ⟨ρ', st', ?_, by rw [List.append_assoc] at r; exact r⟩
    rw [List.map_cons]
    unfold forL
    simp only [h1]
    rcases h2 with h2 | h2 <;> simp only [h2] <;> exact e
/-- .. by the number of turns -/
theorem forL_ix {α : Type} {g : GD} {fb : SDen} (enc : α → D) (xs : List α) (I : Nat → Env → Sto → Prop) {ρ : Env} {st : Sto} (h0 : I 0 ρ st)
    (hs : ∀ i x ρ st, xs[i]? = some x → I i ρ st → ∃ ρ1 ρ2 st2, g (enc x) ρ = some ρ1 ∧ (fb ρ1 st = .next ρ2 st2 ∨ fb ρ1 st = .cont ρ2 st2) ∧ I (i + 1) ρ2 st2) :
    ∃ ρ' st', forL g fb (xs.map enc) ρ st = .next ρ' st' ∧ I xs.length ρ' st' := by
  have go : ∀ (n i : Nat) ρ st, n = xs.length - i → i ≤ xs.length → I i ρ st → ∃ ρ' st', forL g fb ((xs.drop i).map enc) ρ st = .next ρ' st' ∧ I xs.length ρ' st' := by
    intro n
    induction n with
    | zero =>
      intro i ρ st hn hi h
      have : i = xs.length := by omega
      subst this
      rw [List.drop_length]
      exact ⟨ρ, st, rfl, h⟩
    | succ n ih =>
      intro i ρ st hn hi h
      have hl : i < xs.length := by omega
      rw [List.drop_eq_getElem_cons hl, List.map_cons]
      obtain ⟨ρ1, ρ2, st2, h1, h2, h3⟩ := hs i _ ρ st (List.getElem?_eq_getElem hl) h
      obtain ⟨ρ', st', e, r⟩ := ih (i + 1) ρ2 st2 (by omega) hl h3
      refine ⟨ρ', st', ?_, r⟩
      unfold forL
      simp only [h1]
      rcases h2 with h2 | h2 <;> simp only [h2] <;> exact e
  have := go xs.length 0 ρ st (by omega) (Nat.zero_le _) h0
  rw [List.drop_zero] at this
  exact this

@[simp] theorem dInts_map (l : List Int) : dInts (l.map .int) = some l := by
  induction l with
  | nil => rfl
  | cons x l ih => simp [dInts, ih]
@[simp] theorem dInts_map2 {α : Type} (f : α → Int) (l : List α) : dInts (l.map fun x => .int (f x)) = some (l.map f) := by
  induction l with
  | nil => rfl
  | cons x l ih => simp [dInts, ih]
@[simp] theorem dInts_map3 {α : Type} (f : α → Int) (l : List α) : dInts (l.map (D.int ∘ f)) = some (l.map f) := dInts_map2 f l
@[simp] theorem dBools_map2 {α : Type} (f : α → Bool) (l : List α) : dBools (l.map fun x => .bl (f x)) = some (l.map f) := by
  induction l with
  | nil => rfl
  | cons x l ih => simp [dBools, ih]
@[simp] theorem dBools_map3 {α : Type} (f : α → Bool) (l : List α) : dBools (l.map (D.bl ∘ f)) = some (l.map f) := dBools_map2 f l
theorem sz {n : Nat} (h : n ≤ 1000000) : n ≤ sizeLine := by rw [sizeLine_eq]; omega
theorem szlt {n : Nat} (h : n ≤ 1000000) : n < sizeLine := by rw [sizeLine_eq]; omega
/-- a for loop over one name that changes the store alone -/
theorem forL_store {α : Type} {v : Nat} {fb : SDen} {base : Env} (enc : α → D) (xs : List α) (T : Nat → Sto) (hs : ∀ i x, xs[i]? = some x → fb (base.set v (some (.p (enc x)))) (T i) = .next (base.set v (some (.p (enc x)))) (T (i + 1))) :
    ∃ ρ, ρ.set v none = base.set v none ∧ forL (gN v) fb (xs.map enc) base (T 0) = .next ρ (T xs.length) := by
  obtain ⟨ρ', st', e, h1, h2⟩ := forL_ix (g := gN v) (fb := fb) enc xs (fun i ρ st => ρ.set v none = base.set v none ∧ st = T i) (ρ := base) (st := T 0) ⟨rfl, rfl⟩ (by
    rintro i x ρ st hx ⟨h1, rfl⟩
    have e : ρ.set v (some (.p (enc x))) = base.set v (some (.p (enc x))) := by
      have := congrArg (fun l : Env => l.set v (some (.p (enc x)))) h1
      simpa [List.set_set] using this
    refine ⟨ρ.set v (some (.p (enc x))), base.set v (some (.p (enc x))), T (i + 1), rfl, .inl ?_, by simp [List.set_set], rfl⟩
    rw [e]
    exact hs i x hx)
  subst h2
  exact ⟨ρ', h1, e⟩
/-- .. where a turn may return or go on: the first that returns -/
theorem forL_find {α : Type} {v : Nat} {fb : SDen} {base : Env} {st : Sto} (enc : α → D) (r : α → Option D) : ∀ (xs : List α), (∀ x ∈ xs, fb (base.set v (some (.p (enc x)))) st = match r x with | some d => .ret d st | none => .next (base.set v (some (.p (enc x)))) st) →
    ∀ ρ : Env, ρ.set v none = base.set v none → (∃ ρ', ρ'.set v none = base.set v none ∧ forL (gN v) fb (xs.map enc) ρ st = match xs.findSome? r with | some d => .ret d st | none => .next ρ' st)
  | [], _, ρ, h => ⟨ρ, h, rfl⟩
  | x :: xs, hs, ρ, h => by
    have e : ρ.set v (some (.p (enc x))) = base.set v (some (.p (enc x))) := by
      have := congrArg (fun l : Env => l.set v (some (.p (enc x)))) h
      simpa [List.set_set] using this
    have hx := hs x List.mem_cons_self
    rw [List.map_cons]
    unfold forL
    simp only [gN, e, hx]
    cases hr : r x with
    | some d => exact ⟨base, rfl, by simp [hr]⟩
    | none =>
      obtain ⟨ρ', h2, e2⟩ := forL_find enc r xs (fun y hy => hs y (List.mem_cons_of_mem _ hy)) (base.set v (some (.p (enc x)))) (by simp [List.set_set])
      refine ⟨ρ', h2, ?_⟩
      simp only [List.findSome?_cons, hr]
      exact e2
end M
namespace Law
open PySem PySem.Spec L2 M
def topS (i : Nat) : Stmt := PySem.Challenge.pw_craterounds_k19_whole_wear.main.body.getD i (.Pass ⟨0, 0, 0, 0⟩)
noncomputable def dn_is_whole : FD := dFn 1 1 (sRet (eAndV (eOp1 (dIsi "int") (eVar 0)) (eNotV (eOp1 (dIsi "bool") (eVar 0)))))
noncomputable def dn_is_within : FD := dFn 3 3 (sRet (eAndV (eCall 1 dn_is_whole (eCons (eVar 0) eNil)) (eChain dLe dLe (eVar 1) (eVar 0) (eVar 2))))
noncomputable def dn_require_wear : FD := dFn 3 3 (sSeq (sIf (eNot (eB (eCall 3 dn_is_within (eCons (eVar 0) (eCons (eC (.int 0)) (eCons (eC (.int 30)) eNil)))))) sNever sNil)
  (sSeq (sIf (eNot (eB (eCall 3 dn_is_within (eCons (eVar 1) (eCons (eC (.int 0)) (eCons (eC (.int 9)) eNil)))))) sNever sNil)
  (sIf (eNot (eB (eCall 3 dn_is_within (eCons (eVar 2) (eCons (eC (.int 1)) (eCons (eC (.int 30)) eNil)))))) sNever sNil)))
noncomputable def dn_fewest : FD := dFn 3 3 (sSeq (sExpr (eCall 3 dn_require_wear (eCons (eVar 0) (eCons (eVar 1) (eCons (eVar 2) eNil)))))
  (sSeq (sIf (eB (eOp2 dEq (eVar 0) (eC (.int 0)))) (sRet (eC (.int 0))) sNil)
  (sRet (eOpN dMax2 (eCons (eVar 1) (eCons (eOp2 dFdiv (eOp2 dSub (eOp2 dAdd (eOp2 dMul (eVar 0) (eVar 1)) (eVar 2)) (eC (.int 1))) (eVar 2)) eNil))))))
noncomputable def dn_schedule : FD := dFn 3 7 (sSeq (sSet 3 (eCall 3 dn_fewest (eCons (eVar 0) (eCons (eVar 1) (eCons (eVar 2) eNil)))))
  (sSeq (sNew 4 (nLst eNil))
  (sSeq (sFor (iRange1 (eVar 0)) (gN 5) (sMut1 kApp 4 (eOp1 dTuple (eOp1 dSorted (ePure (eComp (iRange1 (eVar 1)) (gN 6) eYes (eOp2 dMod (eOp2 dAdd (eOp2 dMul (eVar 5) (eVar 1)) (eVar 6)) (eVar 3)) [6]))))))
  (sRet (eOp1 dTuple (eVarB 4))))))
noncomputable def dn__law_taken : FD := dFn 2 4 (sSeq (sIf (eB (eOp2 dGt (eOp2P dIx 0 (eC (.int 3))) (eC (.int 0)))) (sSeq (sSet 3 (eOp2 dMod (eOp1 dInt (eOp2P dIx 0 (eC (.int 3)))) (eVar 1)))
  (sSeq (sSetIx 0 (eC (.int 3)) (eOp2 dFdiv (eOp2P dIx 0 (eC (.int 3))) (eVar 1)))
  (sRet (eVar 3)))) sNil)
  (sSeq (sSetIx 0 (eC (.int 1)) (eOp2 dAdd (eOp2P dIx 0 (eC (.int 1))) (eC (.int 1))))
  (sSeq (sIf (eB (eOp2 dGt (eOp2P dIx 0 (eC (.int 1))) (eOp1 dLen (eOp2P dIx 0 (eC (.int 0)))))) (sSeq (sSetIx 0 (eC (.int 2)) (eOp2 dMod (eOp1 dInt (eOp2 dAdd (eOp2 dMul (eOp2P dIx 0 (eC (.int 2))) (eC (.int 48271))) (eC (.int 11)))) (eC (.int 2147483647))))
  (sRet (eOp2 dMod (eOp1 dInt (eOp2 dFdiv (eOp2P dIx 0 (eC (.int 2))) (eC (.int 7)))) (eVar 1)))) sNil)
  (sSeq (sSet 2 (eOp2 dIx (eOp2P dIx 0 (eC (.int 0))) (eOp2 dSub (eOp2P dIx 0 (eC (.int 1))) (eC (.int 1)))))
  (sSeq (sSetIx 0 (eC (.int 2)) (eOp2 dMod (eOp1 dInt (eOp2 dAdd (eOp2 dAdd (eOp2 dMul (eOp2P dIx 0 (eC (.int 2))) (eC (.int 48271))) (eVar 2)) (eC (.int 11)))) (eC (.int 2147483647))))
  (sSeq (sIf (eB (eOp2 dGe (eVar 2) (eOp2 dPow (eC (.int 10)) (eC (.int 18))))) (sSeq (sSetIx 0 (eC (.int 3)) (eOp2 dFdiv (eVar 2) (eVar 1)))
  (sRet (eOp2 dMod (eOp1 dInt (eVar 2)) (eVar 1)))) sNil)
  (sRet (eOp2 dMod (eOp1 dInt (eOp2 dAdd (eOp2 dMul (eOp2 dMod (eOp1 dInt (eVar 2)) (eC (.int 1000003))) (eC (.int 31))) (eOp2 dFdiv (eOp2P dIx 0 (eC (.int 2))) (eC (.int 11))))) (eVar 1)))))))))
noncomputable def dn__law_pick : FD := dFn 2 2 (sRet (eOp2 dIx (eVar 1) (eCallS 2 dn__law_taken (aRef 0 (aVal (eOp1 dLen (eVar 1)) aNil)))))
noncomputable def dn__law_alike : Nat → FD
  | 0 => fun _ _ => .stuck
  | n + 1 => dFn 2 3 (sSeq (sIf (eB (eOp1 (dIsi2 "tuple" "list") (eVar 1))) (sSeq (sIf (eOr (eNot (eB (eOp1 (dIsi2 "tuple" "list") (eVar 0)))) (eB (eOp2 dNe (eOp1 (dIsi "list") (eVar 0)) (eOp1 (dIsi "list") (eVar 1))))) (sRet (eC (.bl false))) sNil)
  (sSeq (sIf (eB (eOp2 dNe (eOp1 dLen (eVar 0)) (eOp1 dLen (eVar 1)))) (sRet (eC (.bl false))) sNil)
  (sRet (eOp2 dEq (ePure (eComp (iRange1 (eOp1 dLen (eVar 1))) (gN 2) (eNot (eB (eCall 2 (dn__law_alike n) (eCons (eOp2 dIx (eVar 0) (eVar 2)) (eCons (eOp2 dIx (eVar 1) (eVar 2)) eNil))))) (eVar 2) [2])) (eLst eNil))))) sNil)
  (sSeq (sIf (eOr (eB (eOp2 dIs (eVar 1) (eC .non))) (eB (eOp1 (dIsi "str") (eVar 1)))) (sRet (eAndV (eOp2 dEq (eVar 0) (eVar 1)) (eOp2 dEq (eOp1 (dIsi "str") (eVar 0)) (eOp1 (dIsi "str") (eVar 1))))) sNil)
  (sRet (eAndV (eOp1 (dIsi "int") (eVar 0)) (eAndV (eOp2 dEq (eOp1 (dIsi "bool") (eVar 0)) (eOp1 (dIsi "bool") (eVar 1))) (eOp2 dEq (eVar 0) (eVar 1)))))))
noncomputable def dn_is_row : FD := dFn 2 2 (sRet (eAndV (eOp1 (dIsi "tuple") (eVar 0)) (eOp2 dEq (eOp1 dLen (eVar 0)) (eVar 1))))
noncomputable def dn_used : FD := dFn 2 3 (sRet (eOp1 dLen (ePure (eComp (iSeq (eVar 0)) (gN 2) (eB (eOp2 dIn (eVar 1) (eVar 2))) (eVar 2) [2]))))
noncomputable def dn_is_schedule : FD := dFn 5 8 (sSeq (sExpr (eCall 3 dn_require_wear (eCons (eVar 0) (eCons (eVar 1) (eCons (eVar 2) eNil)))))
  (sSeq (sIf (eNot (eB (eCall 3 dn_is_within (eCons (eVar 3) (eCons (eC (.int 0)) (eCons (eOp2 dMul (eC (.int 30)) (eC (.int 9))) eNil)))))) sNever sNil)
  (sSeq (sIf (eOr (eNot (eB (eCall 2 dn_is_row (eCons (eVar 4) (eCons (eVar 0) eNil))))) (eNot (eB (eOp1 dAll (ePure (eComp (iSeq (eVar 4)) (gN 5) eYes (eCall 2 dn_is_row (eCons (eVar 5) (eCons (eVar 1) eNil))) [5])))))) (sRet (eC (.bl false))) sNil)
  (sSeq (sFor (iSeq (eVar 4)) (gN 5) (sSeq (sIf (eNot (eB (eOp1 dAll (ePure (eComp (iSeq (eVar 5)) (gN 6) eYes (eAndV (eCall 1 dn_is_whole (eCons (eVar 6) eNil)) (eChain dLe dLt (eC (.int 0)) (eVar 6) (eVar 3))) [6]))))) (sRet (eC (.bl false))) sNil)
  (sIf (eNot (eB (eOp1 dAll (ePure (eComp (iZip (eVar 5) (eCut (eVar 5) (eSo (eC (.int 1))) eNo)) (gT (gsCons (gN 6) (gsCons (gN 7) gsNil)) 2) eYes (eOp2 dLt (eVar 6) (eVar 7)) [6, 7]))))) (sRet (eC (.bl false))) sNil)))
  (sRet (eOp1 dAll (ePure (eComp (iRange1 (eVar 3)) (gN 6) eYes (eOp2 dLe (eCall 2 dn_used (eCons (eVar 4) (eCons (eVar 6) eNil))) (eVar 2)) [6]))))))))
noncomputable def dn_uses_left : FD := dFn 3 5 (sSeq (sSet 3 (eCall 3 dn_schedule (eCons (eVar 0) (eCons (eVar 1) (eCons (eVar 2) eNil)))))
  (sRet (eOp1 dTuple (ePure (eComp (iRange1 (eCall 3 dn_fewest (eCons (eVar 0) (eCons (eVar 1) (eCons (eVar 2) eNil))))) (gN 4) eYes (eOp2 dSub (eVar 2) (eCall 2 dn_used (eCons (eVar 3) (eCons (eVar 4) eNil)))) [4])))))
noncomputable def dn_most_rounds : FD := dFn 3 4 (sSeq (sIf (eNot (eB (eCall 3 dn_is_within (eCons (eVar 0) (eCons (eC (.int 0)) (eCons (eOp2 dMul (eC (.int 30)) (eC (.int 9))) eNil)))))) sNever sNil)
  (sSeq (sExpr (eCall 3 dn_require_wear (eCons (eC (.int 0)) (eCons (eVar 1) (eCons (eVar 2) eNil)))))
  (sRet (eOp1 dMax (ePure (eComp (iRange1 (eOp2 dAdd (eC (.int 30)) (eC (.int 1)))) (gN 3) (eB (eOp2 dLe (eCall 3 dn_fewest (eCons (eVar 3) (eCons (eVar 1) (eCons (eVar 2) eNil)))) (eVar 0))) (eVar 3) [3]))))))
noncomputable def dn_needed_uses : FD := dFn 3 4 (sSeq (sExpr (eCall 3 dn_require_wear (eCons (eVar 0) (eCons (eVar 1) (eCons (eC (.int 1)) eNil)))))
  (sSeq (sIf (eNot (eB (eCall 3 dn_is_within (eCons (eVar 2) (eCons (eC (.int 0)) (eCons (eOp2 dMul (eC (.int 30)) (eC (.int 9))) eNil)))))) sNever sNil)
  (sSeq (sFor (iRange2 (eC (.int 1)) (eOp2 dAdd (eC (.int 30)) (eC (.int 1)))) (gN 3) (sIf (eB (eOp2 dLe (eCall 3 dn_fewest (eCons (eVar 0) (eCons (eVar 1) (eCons (eVar 3) eNil)))) (eVar 2))) (sRet (eVar 3)) sNil))
  (sRet (eC .non)))))
noncomputable def dn_law : FD := dFn 1 15 (sSeq (sNew 1 (nLst (eCons (eVar 0) (eCons (eC (.int 0)) (eCons (eC (.int 5191)) (eCons (eC (.int 0)) eNil))))))
  (sSeq (sFor (iRange1 (eC (.int 6))) (gN 2) (sSeq (sPar [10, 11, 12] (aVal (eCallS 2 dn__law_taken (aRef 1 (aVal (eC (.int 31)) aNil))) (aVal (eCallS 2 dn__law_taken (aRef 1 (aVal (eC (.int 10)) aNil))) (aVal (eOp2 dAdd (eC (.int 1)) (eCallS 2 dn__law_taken (aRef 1 (aVal (eCallS 2 dn__law_pick (aRef 1 (aVal (eLst (eCons (eC (.int 5)) (eCons (eC (.int 30)) eNil))) aNil))) aNil)))) aNil))))
  (sSeq (sSet 3 (eC (.int 0)))
  (sSeq (sFor (iRange1 (eC (.int 271))) (gN 4) (sIf (eOr (eB (eOp2 dEq (eVar 10) (eC (.int 0)))) (eAnd (eB (eOp2 dGe (eVar 4) (eVar 11))) (eB (eOp2 dGe (eOp2 dMul (eVar 4) (eVar 12)) (eOp2 dMul (eVar 10) (eVar 11)))))) (sSeq (sSet 3 (eVar 4))
  sBreak) sNil))
  (sSeq (sSet 5 (eCall 3 dn_schedule (eCons (eVar 10) (eCons (eVar 11) (eCons (eVar 12) eNil)))))
  (sSeq (sIf (eOr (eNot (eB (eCall 2 (dn__law_alike 10) (eCons (eCall 3 dn_fewest (eCons (eVar 10) (eCons (eVar 11) (eCons (eVar 12) eNil)))) (eCons (eVar 3) eNil))))) (eOr (eNot (eB (eOp1 (dIsi "tuple") (eVar 5)))) (eB (eOp2 dNe (eOp1 dLen (eVar 5)) (eVar 10))))) (sRet (eC (.bl false))) sNil)
  (sSeq (sNew 6 (nRep (eLst (eCons (eC (.int 0)) eNil)) (eVar 3)))
  (sSeq (sFor (iSeq (eVar 5)) (gN 7) (sSeq (sIf (eOr (eNot (eB (eOp1 (dIsi "tuple") (eVar 7)))) (eOr (eB (eOp2 dNe (eOp1 dLen (eVar 7)) (eVar 11))) (eB (eOp2 dNe (ePure (eComp (iRange1 (eOp2 dSub (eVar 11) (eC (.int 1)))) (gN 14) (eB (eOp2 dGe (eOp2 dIx (eVar 7) (eVar 14)) (eOp2 dIx (eVar 7) (eOp2 dAdd (eVar 14) (eC (.int 1)))))) (eVar 14) [14])) (eLst eNil))))) (sRet (eC (.bl false))) sNil)
  (sFor (iSeq (eVar 7)) (gN 13) (sSeq (sIf (eNot (eB (eChain dLe dLt (eC (.int 0)) (eVar 13) (eVar 3)))) (sRet (eC (.bl false))) sNil)
  (sSetIx 6 (eVar 13) (eOp2 dAdd (eOp2P dIx 6 (eVar 13)) (eC (.int 1))))))))
  (sSeq (sIf (eOr (eB (eOp2 dNe (ePure (eComp (iSeq (eVar 6)) (gN 7) (eB (eOp2 dGt (eVar 7) (eVar 12))) (eVar 7) [7])) (eLst eNil))) (eB (eOp2 dIsNot (eCall 5 dn_is_schedule (eCons (eVar 10) (eCons (eVar 11) (eCons (eVar 12) (eCons (eVar 3) (eCons (eVar 5) eNil)))))) (eC (.bl true))))) (sRet (eC (.bl false))) sNil)
  (sSeq (sIf (eOr (eNot (eB (eCall 2 (dn__law_alike 10) (eCons (eOp1 dSum (eCall 3 dn_uses_left (eCons (eVar 10) (eCons (eVar 11) (eCons (eVar 12) eNil))))) (eCons (eOp2 dSub (eOp2 dMul (eVar 3) (eVar 12)) (eOp2 dMul (eVar 10) (eVar 11))) eNil))))) (eNot (eB (eCall 2 (dn__law_alike 10) (eCons (eCall 3 dn_uses_left (eCons (eVar 10) (eCons (eVar 11) (eCons (eVar 12) eNil)))) (eCons (eOp1 dTuple (ePure (eComp (iSeq (eVar 6)) (gN 7) eYes (eOp2 dSub (eVar 12) (eVar 7)) [7]))) eNil)))))) (sRet (eC (.bl false))) sNil)
  (sSeq (sSet 4 (eCallS 2 dn__law_pick (aRef 1 (aVal (eLst (eCons (eVar 3) (eCons (eCallS 2 dn__law_taken (aRef 1 (aVal (eC (.int 271)) aNil))) (eCons (eOpN dMax2 (eCons (eC (.int 0)) (eCons (eOp2 dSub (eVar 3) (eC (.int 1))) eNil))) eNil)))) aNil))))
  (sSeq (sSet 8 (eOp1 dMax (ePure (eComp (iRange1 (eC (.int 31))) (gN 14) (eOr (eB (eOp2 dEq (eVar 14) (eC (.int 0)))) (eAnd (eB (eOp2 dGe (eVar 4) (eVar 11))) (eB (eOp2 dGe (eOp2 dMul (eVar 4) (eVar 12)) (eOp2 dMul (eVar 14) (eVar 11)))))) (eVar 14) [14]))))
  (sSeq (sSet 9 (ePure (eComp (iRange2 (eC (.int 1)) (eC (.int 31))) (gN 14) (eOr (eB (eOp2 dEq (eVar 10) (eC (.int 0)))) (eAnd (eB (eOp2 dGe (eVar 4) (eVar 11))) (eB (eOp2 dGe (eOp2 dMul (eVar 4) (eVar 14)) (eOp2 dMul (eVar 10) (eVar 11)))))) (eVar 14) [14])))
  (sIf (eNot (eB (eCall 2 (dn__law_alike 10) (eCons (eTup (eCons (eCall 3 dn_most_rounds (eCons (eVar 4) (eCons (eVar 11) (eCons (eVar 12) eNil)))) (eCons (eCall 3 dn_needed_uses (eCons (eVar 10) (eCons (eVar 11) (eCons (eVar 4) eNil)))) eNil))) (eCons (eTup (eCons (eVar 8) (eCons (eIf (eB (eOp2 dNe (eVar 9) (eLst eNil))) (eOp2 dIx (eVar 9) (eC (.int 0))) (eC .non)) eNil))) eNil))))) (sRet (eC (.bl false))) sNil))))))))))))))
  (sRet (eC (.bl true)))))
structure Facts (K : PySem.W.Frag) (mg : Str → Option Value) : Prop where
  n_all : mg "all" = none
  n_bool : mg "bool" = none
  n_int : mg "int" = none
  n_isinstance : mg "isinstance" = none
  n_len : mg "len" = none
  n_list : mg "list" = none
  n_max : mg "max" = none
  n_range : mg "range" = none
  n_sorted : mg "sorted" = none
  n_str : mg "str" = none
  n_sum : mg "sum" = none
  n_tuple : mg "tuple" = none
  n_zip : mg "zip" = none
  g_MOST_ROUNDS : ∃ t, mg "MOST_ROUNDS" = some (.int 30 t)
  g_MOST_USES : ∃ t, mg "MOST_USES" = some (.int 30 t)
  g_MOST_WANTED : ∃ t, mg "MOST_WANTED" = some (.int 9 t)
section
variable {P : Program} {w : World} {K : PySem.W.Frag} {mg : Str → Option Value} {base : Heap} {G : Wd}
abbrev s_is_whole : Stmt := topS 1
theorem sc_is_whole : FnScope ["value"] ["value"] (defScope s_is_whole) := ⟨rfl, rfl, rfl, by decide +kernel, rfl, by decide +kernel, by decide +kernel⟩
theorem ok_is_whole (T : Facts K mg) (hK : G.K = K) {fa : Addr} {fd : FuncData} (F : Fun K "is_whole" "is_whole" s_is_whole fa fd) (hm : mg "is_whole" = some (.ref fa)) (b : Binds K fd ["value"] [])  : MCal P w K mg base G 1 "is_whole" 1 dn_is_whole := by
  have sc := sc_is_whole
  exact cal_M F (fn_M (k := 0) F sc rfl (by decide) fun cdv A outer sh H E hr tk hp =>
      (mss_one (ms_ret (me_and (me_isi hK T.n_isinstance (by decide +kernel) T.n_int (mv_of (me_var 0 (pv 0)))) (me_one (me_not (me_isi hK T.n_isinstance (by decide +kernel) T.n_bool (mv_of (me_var 0 (pv 0)))))))))) hm b
abbrev s_is_within : Stmt := topS 2
theorem sc_is_within : FnScope ["value", "least", "most"] ["value", "least", "most"] (defScope s_is_within) := ⟨rfl, rfl, rfl, by decide +kernel, rfl, by decide +kernel, by decide +kernel⟩
theorem ok_is_within (T : Facts K mg) (hK : G.K = K) {fa : Addr} {fd : FuncData} (F : Fun K "is_within" "is_within" s_is_within fa fd) (hm : mg "is_within" = some (.ref fa)) (b : Binds K fd ["value", "least", "most"] []) (c_is_whole : MCal P w K mg base G 1 "is_whole" 1 dn_is_whole) : MCal P w K mg base G 2 "is_within" 3 dn_is_within := by
  have sc := sc_is_within
  exact cal_M F (fn_M (k := 1) F sc rfl (by decide) fun cdv A outer sh H E hr tk hp =>
      (mss_one (ms_ret (me_and (me_call c_is_whole (hr.mono (by omega)) tk (ma_cons (me_var 0 (pv 0)) ma_nil)) (me_one (me_chain op_le op_le sim_le sim_le (me_var 1 (pv 1)) (me_var 0 (pv 0)) (me_var 2 (pv 2)))))))) hm b
abbrev s_require_wear : Stmt := topS 11
theorem sc_require_wear : FnScope ["rounds", "wanted", "uses"] ["rounds", "wanted", "uses"] (defScope s_require_wear) := ⟨rfl, rfl, rfl, by decide +kernel, rfl, by decide +kernel, by decide +kernel⟩
theorem ok_require_wear (T : Facts K mg) (hK : G.K = K) {fa : Addr} {fd : FuncData} (F : Fun K "require_wear" "require_wear" s_require_wear fa fd) (hm : mg "require_wear" = some (.ref fa)) (b : Binds K fd ["rounds", "wanted", "uses"] []) (c_is_within : MCal P w K mg base G 2 "is_within" 3 dn_is_within) : MCal P w K mg base G 3 "require_wear" 3 dn_require_wear := by
  obtain ⟨_, g_MOST_ROUNDS⟩ := T.g_MOST_ROUNDS
  obtain ⟨_, g_MOST_USES⟩ := T.g_MOST_USES
  obtain ⟨_, g_MOST_WANTED⟩ := T.g_MOST_WANTED
  have sc := sc_require_wear
  exact cal_M F (fn_M (k := 2) F sc rfl (by decide) fun cdv A outer sh H E hr tk hp =>
      (mss_cons (ms_if (mt_not (mt_val (me_call c_is_within (hr.mono (by omega)) tk (ma_cons (me_var 0 (pv 0)) (ma_cons me_int (ma_cons (me_gint g_MOST_ROUNDS) ma_nil)))))) (mss_one ms_never) mss_nil)
      (mss_cons (ms_if (mt_not (mt_val (me_call c_is_within (hr.mono (by omega)) tk (ma_cons (me_var 1 (pv 1)) (ma_cons me_int (ma_cons (me_gint g_MOST_WANTED) ma_nil)))))) (mss_one ms_never) mss_nil)
      (mss_one (ms_if (mt_not (mt_val (me_call c_is_within (hr.mono (by omega)) tk (ma_cons (me_var 2 (pv 2)) (ma_cons me_int (ma_cons (me_gint g_MOST_USES) ma_nil)))))) (mss_one ms_never) mss_nil))))) hm b
abbrev s_fewest : Stmt := topS 12
theorem sc_fewest : FnScope ["rounds", "wanted", "uses"] ["rounds", "wanted", "uses"] (defScope s_fewest) := ⟨rfl, rfl, rfl, by decide +kernel, rfl, by decide +kernel, by decide +kernel⟩
theorem ok_fewest (T : Facts K mg) (hK : G.K = K) {fa : Addr} {fd : FuncData} (F : Fun K "fewest" "fewest" s_fewest fa fd) (hm : mg "fewest" = some (.ref fa)) (b : Binds K fd ["rounds", "wanted", "uses"] []) (c_require_wear : MCal P w K mg base G 3 "require_wear" 3 dn_require_wear) : MCal P w K mg base G 4 "fewest" 3 dn_fewest := by
  have sc := sc_fewest
  exact cal_M F (fn_M (k := 3) F sc rfl (by decide) fun cdv A outer sh H E hr tk hp =>
      (mss_cons (ms_expr (me_call c_require_wear (hr.mono (by omega)) tk (ma_cons (me_var 0 (pv 0)) (ma_cons (me_var 1 (pv 1)) (ma_cons (me_var 2 (pv 2)) ma_nil)))))
      (mss_cons (ms_if (mt_cmp (op_eqD (hu64 hr)) (sim_eq hK) (me_var 0 (pv 0)) (mv_of me_int) (nomark _)) (mss_one (ms_ret me_int)) mss_nil)
      (mss_one (ms_ret (me_biN (call_max2 rfl) sim_max2 (by decide +kernel) T.n_max (ma_cons (me_var 1 (pv 1)) (ma_cons (me_bin op_fdiv sim_fdiv (me_bin op_sub sim_sub (me_bin op_addM (sim_add hK) (me_bin op_mulM sim_mul (me_var 0 (pv 0)) (mv_of (me_var 1 (pv 1)))) (mv_of (me_var 2 (pv 2)))) (mv_of me_int)) (mv_of (me_var 2 (pv 2)))) ma_nil)))))))) hm b
abbrev s_schedule : Stmt := topS 13
theorem sc_schedule : FnScope ["rounds", "wanted", "uses", "many", "found", "turn", "place"] ["rounds", "wanted", "uses"] (defScope s_schedule) := ⟨rfl, rfl, rfl, by decide +kernel, rfl, by decide +kernel, by decide +kernel⟩
theorem ok_schedule (T : Facts K mg) (hK : G.K = K) {fa : Addr} {fd : FuncData} (F : Fun K "schedule" "schedule" s_schedule fa fd) (hm : mg "schedule" = some (.ref fa)) (b : Binds K fd ["rounds", "wanted", "uses"] []) (c_fewest : MCal P w K mg base G 4 "fewest" 3 dn_fewest) : MCal P w K mg base G 5 "schedule" 3 dn_schedule := by
  have sc := sc_schedule
  exact cal_M F (fn_M (k := 4) F sc rfl (by decide) fun cdv A outer sh H E hr tk hp =>
      (mss_cons (ms_set 3 sc.nd (me_call c_fewest (hr.mono (by omega)) tk (ma_cons (me_var 0 (pv 0)) (ma_cons (me_var 1 (pv 1)) (ma_cons (me_var 2 (pv 2)) ma_nil)))))
      (mss_cons (ms_new 4 sc.nd (mn_lst ma_nil))
      (mss_cons (ms_for (vs := [5]) hp rfl (mi_range1 T.n_range (me_var 0 (pv 0))) (mg_name 5 sc.nd) (mss_one (ms_app (pv 4) (me_ty1 (call_tuple_of) (sim_tuple hK) (by decide +kernel) T.n_tuple (mv_of (me_bi1 (cr_sortedI) sim_sorted (by decide +kernel) T.n_sorted (mv_of (me_own (mn_comp (own := [("place", 6)]) rfl sc.nd (mi_range1 T.n_range (me_var 1 (pv 1))) (blkOk_by (by kernel_rfl)) (gsim_name 6) (fun _ _ _ _ _ => (pg_name (i := 6) sc.nd rfl (by first | exact .inl rfl | exact .inr rfl))) (fun _ _ _ _ _ => mts_nil) (fun _ _ _ _ _ => (me_bin op_mod sim_mod (me_bin op_addM (sim_add hK) (me_bin op_mulM sim_mul (me_var 5 (pv 5)) (mv_of (me_var 1 (pv 1)))) (mv_of (me_var 6 (pv 6)))) (mv_of (me_var 3 (pv 3))))))))))))))
      (mss_one (ms_ret (me_ty1 (call_tuple_of) (sim_tuple hK) (by decide +kernel) T.n_tuple (mv_var 4 (pv 4))))))))) hm b
abbrev s__law_taken : Stmt := topS 20
theorem sc__law_taken : FnScope ["row", "many", "cell", "found"] ["row", "many"] (defScope s__law_taken) := ⟨rfl, rfl, rfl, by decide +kernel, rfl, by decide +kernel, by decide +kernel⟩
theorem ok__law_taken (T : Facts K mg) (hK : G.K = K) {fa : Addr} {fd : FuncData} (F : Fun K "_law_taken" "_law_taken" s__law_taken fa fd) (hm : mg "_law_taken" = some (.ref fa)) (b : Binds K fd ["row", "many"] [])  : MCal P w K mg base G 1 "_law_taken" 2 dn__law_taken := by
  have sc := sc__law_taken
  exact cal_M F (fn_M (k := 0) F sc rfl (by decide) fun cdv A outer sh H E hr tk hp =>
      (mss_cons (ms_if (mt_cmp op_gt sim_gt (me_ixP ix_seq (sim_ix hK) (pv 0) (mv_of me_int) (fun _ _ => rfl)) (mv_of me_int) (nomark _)) (mss_cons (ms_set 3 sc.nd (me_bin op_mod sim_mod (me_ty1 (call_int1) sim_int (by decide +kernel) T.n_int (mv_of (me_ixP ix_seq (sim_ix hK) (pv 0) (mv_of me_int) (fun _ _ => rfl)))) (mv_of (me_var 1 (pv 1)))))
      (mss_cons (ms_setix (pv 0) me_int (me_bin op_fdiv sim_fdiv (me_ixP ix_seq (sim_ix hK) (pv 0) (mv_of me_int) (fun _ _ => rfl)) (mv_of (me_var 1 (pv 1)))))
      (mss_one (ms_ret (me_var 3 (pv 3)))))) mss_nil)
      (mss_cons (ms_setix (pv 0) me_int (me_bin op_addM (sim_add hK) (me_ixP ix_seq (sim_ix hK) (pv 0) (mv_of me_int) (fun _ _ => rfl)) (mv_of me_int)))
      (mss_cons (ms_if (mt_cmp op_gt sim_gt (me_ixP ix_seq (sim_ix hK) (pv 0) (mv_of me_int) (fun _ _ => rfl)) (mv_of (me_bi1 (cr_lenM) (sim_len hK) (by decide +kernel) T.n_len (mv_of (me_ixP ix_seq (sim_ix hK) (pv 0) (mv_of me_int) (fun _ _ => rfl))))) (nomark _)) (mss_cons (ms_setix (pv 0) me_int (me_bin op_mod sim_mod (me_ty1 (call_int1) sim_int (by decide +kernel) T.n_int (mv_of (me_bin op_addM (sim_add hK) (me_bin op_mulM sim_mul (me_ixP ix_seq (sim_ix hK) (pv 0) (mv_of me_int) (fun _ _ => rfl)) (mv_of me_int)) (mv_of me_int)))) (mv_of me_int)))
      (mss_one (ms_ret (me_bin op_mod sim_mod (me_ty1 (call_int1) sim_int (by decide +kernel) T.n_int (mv_of (me_bin op_fdiv sim_fdiv (me_ixP ix_seq (sim_ix hK) (pv 0) (mv_of me_int) (fun _ _ => rfl)) (mv_of me_int)))) (mv_of (me_var 1 (pv 1))))))) mss_nil)
      (mss_cons (ms_set 2 sc.nd (me_ix ix_seq (sim_ix hK) (me_ixP ix_seq (sim_ix hK) (pv 0) (mv_of me_int) (fun _ _ => rfl)) (mv_of (me_bin op_sub sim_sub (me_ixP ix_seq (sim_ix hK) (pv 0) (mv_of me_int) (fun _ _ => rfl)) (mv_of me_int))) (fun _ _ => rfl)))
      (mss_cons (ms_setix (pv 0) me_int (me_bin op_mod sim_mod (me_ty1 (call_int1) sim_int (by decide +kernel) T.n_int (mv_of (me_bin op_addM (sim_add hK) (me_bin op_addM (sim_add hK) (me_bin op_mulM sim_mul (me_ixP ix_seq (sim_ix hK) (pv 0) (mv_of me_int) (fun _ _ => rfl)) (mv_of me_int)) (mv_of (me_var 2 (pv 2)))) (mv_of me_int)))) (mv_of me_int)))
      (mss_cons (ms_if (mt_cmp op_ge sim_ge (me_var 2 (pv 2)) (mv_of (me_bin op_pow sim_pow me_int (mv_of me_int))) (nomark _)) (mss_cons (ms_setix (pv 0) me_int (me_bin op_fdiv sim_fdiv (me_var 2 (pv 2)) (mv_of (me_var 1 (pv 1)))))
      (mss_one (ms_ret (me_bin op_mod sim_mod (me_ty1 (call_int1) sim_int (by decide +kernel) T.n_int (mv_of (me_var 2 (pv 2)))) (mv_of (me_var 1 (pv 1))))))) mss_nil)
      (mss_one (ms_ret (me_bin op_mod sim_mod (me_ty1 (call_int1) sim_int (by decide +kernel) T.n_int (mv_of (me_bin op_addM (sim_add hK) (me_bin op_mulM sim_mul (me_bin op_mod sim_mod (me_ty1 (call_int1) sim_int (by decide +kernel) T.n_int (mv_of (me_var 2 (pv 2)))) (mv_of me_int)) (mv_of me_int)) (mv_of (me_bin op_fdiv sim_fdiv (me_ixP ix_seq (sim_ix hK) (pv 0) (mv_of me_int) (fun _ _ => rfl)) (mv_of me_int)))))) (mv_of (me_var 1 (pv 1))))))))))))) hm b
abbrev s__law_pick : Stmt := topS 21
theorem sc__law_pick : FnScope ["row", "things"] ["row", "things"] (defScope s__law_pick) := ⟨rfl, rfl, rfl, by decide +kernel, rfl, by decide +kernel, by decide +kernel⟩
theorem ok__law_pick (T : Facts K mg) (hK : G.K = K) {fa : Addr} {fd : FuncData} (F : Fun K "_law_pick" "_law_pick" s__law_pick fa fd) (hm : mg "_law_pick" = some (.ref fa)) (b : Binds K fd ["row", "things"] []) (c__law_taken : MCal P w K mg base G 1 "_law_taken" 2 dn__law_taken) : MCal P w K mg base G 2 "_law_pick" 2 dn__law_pick := by
  have sc := sc__law_pick
  exact cal_M F (fn_M (k := 1) F sc rfl (by decide) fun cdv A outer sh H E hr tk hp =>
      (mss_one (ms_ret (me_ix ix_seq (sim_ix hK) (me_var 1 (pv 1)) (mv_of (me_callS c__law_taken (hr.mono (by omega)) tk (mas_ref (pv 0) (mas_val (me_bi1 (cr_lenM) (sim_len hK) (by decide +kernel) T.n_len (mv_of (me_var 1 (pv 1)))) mas_nil)))) (fun _ _ => rfl))))) hm b
abbrev s__law_alike : Stmt := topS 22
theorem sc__law_alike : FnScope ["found", "due", "k"] ["found", "due"] (defScope s__law_alike) := ⟨rfl, rfl, rfl, by decide +kernel, rfl, by decide +kernel, by decide +kernel⟩
theorem ok__law_alike (T : Facts K mg) (hK : G.K = K) {fa : Addr} {fd : FuncData} (F : Fun K "_law_alike" "_law_alike" s__law_alike fa fd) (hm : mg "_law_alike" = some (.ref fa)) (b : Binds K fd ["found", "due"] [])  : ∀ n : Nat, MCal P w K mg base G (1 + n) "_law_alike" 2 (dn__law_alike n)
  | 0 => cal_M F (FnOk.mono (fn_stuck F sc__law_alike rfl) (by omega)) hm b
  | n + 1 => by
    have c__law_alike := ok__law_alike T hK F hm b  n
    have sc := sc__law_alike
    exact cal_M F (FnOk.mono (fn_M (k := 1 + n) F sc rfl (by decide) fun cdv A outer sh H E hr tk hp =>
      (mss_cons (ms_if (mt_val (me_isi2 hK T.n_isinstance (by decide +kernel) (by decide +kernel) T.n_tuple T.n_list (me_var 1 (pv 1)))) (mss_cons (ms_if (mt_w (mw_or (mt_not (mt_val (me_isi2 hK T.n_isinstance (by decide +kernel) (by decide +kernel) T.n_tuple T.n_list (me_var 0 (pv 0))))) (mw_or1 (mt_cmp (op_neD (hu64 hr)) (sim_ne hK) (me_isi hK T.n_isinstance (by decide +kernel) T.n_list (mv_of (me_var 0 (pv 0)))) (mv_of (me_isi hK T.n_isinstance (by decide +kernel) T.n_list (mv_of (me_var 1 (pv 1))))) (nomark _))))) (mss_one (ms_ret me_bl)) mss_nil)
      (mss_cons (ms_if (mt_cmp (op_neD (hu64 hr)) (sim_ne hK) (me_bi1 (cr_lenM) (sim_len hK) (by decide +kernel) T.n_len (mv_of (me_var 0 (pv 0)))) (mv_of (me_bi1 (cr_lenM) (sim_len hK) (by decide +kernel) T.n_len (mv_of (me_var 1 (pv 1))))) (nomark _)) (mss_one (ms_ret me_bl)) mss_nil)
      (mss_one (ms_ret (me_cmp (op_eqD (hu64 hr)) (sim_eq hK) (me_own (mn_comp (own := [("k", 2)]) rfl sc.nd (mi_range1 T.n_range (me_bi1 (cr_lenM) (sim_len hK) (by decide +kernel) T.n_len (mv_of (me_var 1 (pv 1))))) (blkOk_by (by kernel_rfl)) (gsim_name 2) (fun _ _ _ _ _ => (pg_name (i := 2) sc.nd rfl (by first | exact .inl rfl | exact .inr rfl))) (fun _ _ _ _ _ => (mts_one (mt_not (mt_val (me_call c__law_alike (hr.mono (by omega)) takes0 (ma_cons (me_ix ix_seq (sim_ix hK) (me_var 0 (pv 0)) (mv_of (me_var 2 (pv 2))) (fun _ _ => rfl)) (ma_cons (me_ix ix_seq (sim_ix hK) (me_var 1 (pv 1)) (mv_of (me_var 2 (pv 2))) (fun _ _ => rfl)) ma_nil))))))) (fun _ _ _ _ _ => (me_var 2 (pv 2))))) (mv_of (me_lst ma_nil)) (nomark _)))))) mss_nil)
      (mss_cons (ms_if (mt_w (mw_or (mt_cmp op_isM sim_is (me_var 1 (pv 1)) (mv_of me_non) (nomark _)) (mw_or1 (mt_val (me_isi hK T.n_isinstance (by decide +kernel) T.n_str (mv_of (me_var 1 (pv 1)))))))) (mss_one (ms_ret (me_and (me_cmp (op_eqD (hu64 hr)) (sim_eq hK) (me_var 0 (pv 0)) (mv_of (me_var 1 (pv 1))) (nomark _)) (me_one (me_cmp (op_eqD (hu64 hr)) (sim_eq hK) (me_isi hK T.n_isinstance (by decide +kernel) T.n_str (mv_of (me_var 0 (pv 0)))) (mv_of (me_isi hK T.n_isinstance (by decide +kernel) T.n_str (mv_of (me_var 1 (pv 1))))) (nomark _)))))) mss_nil)
      (mss_one (ms_ret (me_and (me_isi hK T.n_isinstance (by decide +kernel) T.n_int (mv_of (me_var 0 (pv 0)))) (me_and (me_cmp (op_eqD (hu64 hr)) (sim_eq hK) (me_isi hK T.n_isinstance (by decide +kernel) T.n_bool (mv_of (me_var 0 (pv 0)))) (mv_of (me_isi hK T.n_isinstance (by decide +kernel) T.n_bool (mv_of (me_var 1 (pv 1))))) (nomark _)) (me_one (me_cmp (op_eqD (hu64 hr)) (sim_eq hK) (me_var 0 (pv 0)) (mv_of (me_var 1 (pv 1))) (nomark _)))))))))) (by omega)) hm b
abbrev s_is_row : Stmt := topS 3
theorem sc_is_row : FnScope ["value", "size"] ["value", "size"] (defScope s_is_row) := ⟨rfl, rfl, rfl, by decide +kernel, rfl, by decide +kernel, by decide +kernel⟩
theorem ok_is_row (T : Facts K mg) (hK : G.K = K) {fa : Addr} {fd : FuncData} (F : Fun K "is_row" "is_row" s_is_row fa fd) (hm : mg "is_row" = some (.ref fa)) (b : Binds K fd ["value", "size"] [])  : MCal P w K mg base G 1 "is_row" 2 dn_is_row := by
  have sc := sc_is_row
  exact cal_M F (fn_M (k := 0) F sc rfl (by decide) fun cdv A outer sh H E hr tk hp =>
      (mss_one (ms_ret (me_and (me_isi hK T.n_isinstance (by decide +kernel) T.n_tuple (mv_of (me_var 0 (pv 0)))) (me_one (me_cmp (op_eqD (hu64 hr)) (sim_eq hK) (me_bi1 (cr_lenM) (sim_len hK) (by decide +kernel) T.n_len (mv_of (me_var 0 (pv 0)))) (mv_of (me_var 1 (pv 1))) (nomark _))))))) hm b
abbrev s_used : Stmt := topS 15
theorem sc_used : FnScope ["value", "piece", "row"] ["value", "piece"] (defScope s_used) := ⟨rfl, rfl, rfl, by decide +kernel, rfl, by decide +kernel, by decide +kernel⟩
theorem ok_used (T : Facts K mg) (hK : G.K = K) {fa : Addr} {fd : FuncData} (F : Fun K "used" "used" s_used fa fd) (hm : mg "used" = some (.ref fa)) (b : Binds K fd ["value", "piece"] [])  : MCal P w K mg base G 1 "used" 2 dn_used := by
  have sc := sc_used
  exact cal_M F (fn_M (k := 0) F sc rfl (by decide) fun cdv A outer sh H E hr tk hp =>
      (mss_one (ms_ret (me_bi1 (cr_lenM) (sim_len hK) (by decide +kernel) T.n_len (mv_of (me_own (mn_comp (own := [("row", 2)]) rfl sc.nd (mi_seq hK (me_var 0 (pv 0))) (blkOk_by (by kernel_rfl)) (gsim_name 2) (fun _ _ _ _ _ => (pg_name (i := 2) sc.nd rfl (by first | exact .inl rfl | exact .inr rfl))) (fun _ _ _ _ _ => (mts_one (mt_cmp (op_inM (hu65 hr)) (sim_in hK) (me_var 1 (pv 1)) (mv_of (me_var 2 (pv 2))) (by rfl)))) (fun _ _ _ _ _ => (me_var 2 (pv 2)))))))))) hm b
abbrev s_is_schedule : Stmt := topS 14
theorem sc_is_schedule : FnScope ["rounds", "wanted", "uses", "many", "value", "row", "one", "other"] ["rounds", "wanted", "uses", "many", "value"] (defScope s_is_schedule) := ⟨rfl, rfl, rfl, by decide +kernel, rfl, by decide +kernel, by decide +kernel⟩
theorem ok_is_schedule (T : Facts K mg) (hK : G.K = K) {fa : Addr} {fd : FuncData} (F : Fun K "is_schedule" "is_schedule" s_is_schedule fa fd) (hm : mg "is_schedule" = some (.ref fa)) (b : Binds K fd ["rounds", "wanted", "uses", "many", "value"] []) (c_is_whole : MCal P w K mg base G 1 "is_whole" 1 dn_is_whole) (c_is_within : MCal P w K mg base G 2 "is_within" 3 dn_is_within) (c_require_wear : MCal P w K mg base G 3 "require_wear" 3 dn_require_wear) (c_is_row : MCal P w K mg base G 1 "is_row" 2 dn_is_row) (c_used : MCal P w K mg base G 1 "used" 2 dn_used) : MCal P w K mg base G 4 "is_schedule" 5 dn_is_schedule := by
  obtain ⟨_, g_MOST_ROUNDS⟩ := T.g_MOST_ROUNDS
  obtain ⟨_, g_MOST_WANTED⟩ := T.g_MOST_WANTED
  have sc := sc_is_schedule
  exact cal_M F (fn_M (k := 3) F sc rfl (by decide) fun cdv A outer sh H E hr tk hp =>
      (mss_cons (ms_expr (me_call c_require_wear (hr.mono (by omega)) tk (ma_cons (me_var 0 (pv 0)) (ma_cons (me_var 1 (pv 1)) (ma_cons (me_var 2 (pv 2)) ma_nil)))))
      (mss_cons (ms_if (mt_not (mt_val (me_call c_is_within (hr.mono (by omega)) tk (ma_cons (me_var 3 (pv 3)) (ma_cons me_int (ma_cons (me_bin op_mulM sim_mul (me_gint g_MOST_ROUNDS) (mv_of (me_gint g_MOST_WANTED))) ma_nil)))))) (mss_one ms_never) mss_nil)
      (mss_cons (ms_if (mt_w (mw_or (mt_not (mt_val (me_call c_is_row (hr.mono (by omega)) tk (ma_cons (me_var 4 (pv 4)) (ma_cons (me_var 0 (pv 0)) ma_nil))))) (mw_or1 (mt_not (mt_val (me_bi1 (cr_all rfl) sim_all (by decide +kernel) T.n_all (mv_of (me_own (mn_comp (own := [("row", 5)]) rfl sc.nd (mi_seq hK (me_var 4 (pv 4))) (blkOk_by (by kernel_rfl)) (gsim_name 5) (fun _ _ _ _ _ => (pg_name (i := 5) sc.nd rfl (by first | exact .inl rfl | exact .inr rfl))) (fun _ _ _ _ _ => mts_nil) (fun _ _ _ _ _ => (me_call c_is_row (hr.mono (by omega)) takes0 (ma_cons (me_var 5 (pv 5)) (ma_cons (me_var 1 (pv 1)) ma_nil))))))))))))) (mss_one (ms_ret me_bl)) mss_nil)
      (mss_cons (ms_for (vs := [5]) hp rfl (mi_seq hK (me_var 4 (pv 4))) (mg_name 5 sc.nd) (mss_cons (ms_if (mt_not (mt_val (me_bi1 (cr_all rfl) sim_all (by decide +kernel) T.n_all (mv_of (me_own (mn_comp (own := [("one", 6)]) rfl sc.nd (mi_seq hK (me_var 5 (pv 5))) (blkOk_by (by kernel_rfl)) (gsim_name 6) (fun _ _ _ _ _ => (pg_name (i := 6) sc.nd rfl (by first | exact .inl rfl | exact .inr rfl))) (fun _ _ _ _ _ => mts_nil) (fun _ _ _ _ _ => (me_and (me_call c_is_whole (hr.mono (by omega)) takes0 (ma_cons (me_var 6 (pv 6)) ma_nil)) (me_one (me_chain op_le op_ltM sim_le sim_lt me_int (me_var 6 (pv 6)) (me_var 3 (pv 3)))))))))))) (mss_one (ms_ret me_bl)) mss_nil)
      (mss_one (ms_if (mt_not (mt_val (me_bi1 (cr_all rfl) sim_all (by decide +kernel) T.n_all (mv_of (me_own (mn_comp (own := [("one", 6), ("other", 7)]) rfl sc.nd (mi_zip hK T.n_zip (me_var 5 (pv 5)) (me_cut hK (me_var 5 (pv 5)) (mo_some me_int) mo_none)) (blkOk_by (by kernel_rfl)) (gsim_tup hK (gssim_cons (gsim_name 6) (gssim_cons (gsim_name 7) gssim_nil))) (fun _ _ _ _ _ => (pg_tup rfl (pgs_cons (pg_name (i := 6) sc.nd rfl (by first | exact .inl rfl | exact .inr rfl)) (pgs_cons (pg_name (i := 7) sc.nd rfl (by first | exact .inl rfl | exact .inr rfl)) pgs_nil)))) (fun _ _ _ _ _ => mts_nil) (fun _ _ _ _ _ => (me_cmp op_ltM sim_lt (me_var 6 (pv 6)) (mv_of (me_var 7 (pv 7))) (nomark _))))))))) (mss_one (ms_ret me_bl)) mss_nil))))
      (mss_one (ms_ret (me_bi1 (cr_all rfl) sim_all (by decide +kernel) T.n_all (mv_of (me_own (mn_comp (own := [("one", 6)]) rfl sc.nd (mi_range1 T.n_range (me_var 3 (pv 3))) (blkOk_by (by kernel_rfl)) (gsim_name 6) (fun _ _ _ _ _ => (pg_name (i := 6) sc.nd rfl (by first | exact .inl rfl | exact .inr rfl))) (fun _ _ _ _ _ => mts_nil) (fun _ _ _ _ _ => (me_cmp op_le sim_le (me_call c_used (hr.mono (by omega)) takes0 (ma_cons (me_var 4 (pv 4)) (ma_cons (me_var 6 (pv 6)) ma_nil))) (mv_of (me_var 2 (pv 2))) (nomark _)))))))))))))) hm b
abbrev s_uses_left : Stmt := topS 17
theorem sc_uses_left : FnScope ["rounds", "wanted", "uses", "rows", "piece"] ["rounds", "wanted", "uses"] (defScope s_uses_left) := ⟨rfl, rfl, rfl, by decide +kernel, rfl, by decide +kernel, by decide +kernel⟩
theorem ok_uses_left (T : Facts K mg) (hK : G.K = K) {fa : Addr} {fd : FuncData} (F : Fun K "uses_left" "uses_left" s_uses_left fa fd) (hm : mg "uses_left" = some (.ref fa)) (b : Binds K fd ["rounds", "wanted", "uses"] []) (c_fewest : MCal P w K mg base G 4 "fewest" 3 dn_fewest) (c_schedule : MCal P w K mg base G 5 "schedule" 3 dn_schedule) (c_used : MCal P w K mg base G 1 "used" 2 dn_used) : MCal P w K mg base G 6 "uses_left" 3 dn_uses_left := by
  have sc := sc_uses_left
  exact cal_M F (fn_M (k := 5) F sc rfl (by decide) fun cdv A outer sh H E hr tk hp =>
      (mss_cons (ms_set 3 sc.nd (me_call c_schedule (hr.mono (by omega)) tk (ma_cons (me_var 0 (pv 0)) (ma_cons (me_var 1 (pv 1)) (ma_cons (me_var 2 (pv 2)) ma_nil)))))
      (mss_one (ms_ret (me_ty1 (call_tuple_of) (sim_tuple hK) (by decide +kernel) T.n_tuple (mv_of (me_own (mn_comp (own := [("piece", 4)]) rfl sc.nd (mi_range1 T.n_range (me_call c_fewest (hr.mono (by omega)) tk (ma_cons (me_var 0 (pv 0)) (ma_cons (me_var 1 (pv 1)) (ma_cons (me_var 2 (pv 2)) ma_nil))))) (blkOk_by (by kernel_rfl)) (gsim_name 4) (fun _ _ _ _ _ => (pg_name (i := 4) sc.nd rfl (by first | exact .inl rfl | exact .inr rfl))) (fun _ _ _ _ _ => mts_nil) (fun _ _ _ _ _ => (me_bin op_sub sim_sub (me_var 2 (pv 2)) (mv_of (me_call c_used (hr.mono (by omega)) takes0 (ma_cons (me_var 3 (pv 3)) (ma_cons (me_var 4 (pv 4)) ma_nil)))))))))))))) hm b
abbrev s_most_rounds : Stmt := topS 16
theorem sc_most_rounds : FnScope ["many", "wanted", "uses", "rounds"] ["many", "wanted", "uses"] (defScope s_most_rounds) := ⟨rfl, rfl, rfl, by decide +kernel, rfl, by decide +kernel, by decide +kernel⟩
theorem ok_most_rounds (T : Facts K mg) (hK : G.K = K) {fa : Addr} {fd : FuncData} (F : Fun K "most_rounds" "most_rounds" s_most_rounds fa fd) (hm : mg "most_rounds" = some (.ref fa)) (b : Binds K fd ["many", "wanted", "uses"] []) (c_is_within : MCal P w K mg base G 2 "is_within" 3 dn_is_within) (c_require_wear : MCal P w K mg base G 3 "require_wear" 3 dn_require_wear) (c_fewest : MCal P w K mg base G 4 "fewest" 3 dn_fewest) : MCal P w K mg base G 5 "most_rounds" 3 dn_most_rounds := by
  obtain ⟨_, g_MOST_ROUNDS⟩ := T.g_MOST_ROUNDS
  obtain ⟨_, g_MOST_WANTED⟩ := T.g_MOST_WANTED
  have sc := sc_most_rounds
  exact cal_M F (fn_M (k := 4) F sc rfl (by decide) fun cdv A outer sh H E hr tk hp =>
      (mss_cons (ms_if (mt_not (mt_val (me_call c_is_within (hr.mono (by omega)) tk (ma_cons (me_var 0 (pv 0)) (ma_cons me_int (ma_cons (me_bin op_mulM sim_mul (me_gint g_MOST_ROUNDS) (mv_of (me_gint g_MOST_WANTED))) ma_nil)))))) (mss_one ms_never) mss_nil)
      (mss_cons (ms_expr (me_call c_require_wear (hr.mono (by omega)) tk (ma_cons me_int (ma_cons (me_var 1 (pv 1)) (ma_cons (me_var 2 (pv 2)) ma_nil)))))
      (mss_one (ms_ret (me_bi1 (cr_max rfl) sim_max (by decide +kernel) T.n_max (mv_of (me_own (mn_comp (own := [("rounds", 3)]) rfl sc.nd (mi_range1 T.n_range (me_bin op_addM (sim_add hK) (me_gint g_MOST_ROUNDS) (mv_of me_int))) (blkOk_by (by kernel_rfl)) (gsim_name 3) (fun _ _ _ _ _ => (pg_name (i := 3) sc.nd rfl (by first | exact .inl rfl | exact .inr rfl))) (fun _ _ _ _ _ => (mts_one (mt_cmp op_le sim_le (me_call c_fewest (hr.mono (by omega)) takes0 (ma_cons (me_var 3 (pv 3)) (ma_cons (me_var 1 (pv 1)) (ma_cons (me_var 2 (pv 2)) ma_nil)))) (mv_of (me_var 0 (pv 0))) (nomark _)))) (fun _ _ _ _ _ => (me_var 3 (pv 3)))))))))))) hm b
abbrev s_needed_uses : Stmt := topS 18
theorem sc_needed_uses : FnScope ["rounds", "wanted", "many", "uses"] ["rounds", "wanted", "many"] (defScope s_needed_uses) := ⟨rfl, rfl, rfl, by decide +kernel, rfl, by decide +kernel, by decide +kernel⟩
theorem ok_needed_uses (T : Facts K mg) (hK : G.K = K) {fa : Addr} {fd : FuncData} (F : Fun K "needed_uses" "needed_uses" s_needed_uses fa fd) (hm : mg "needed_uses" = some (.ref fa)) (b : Binds K fd ["rounds", "wanted", "many"] []) (c_is_within : MCal P w K mg base G 2 "is_within" 3 dn_is_within) (c_require_wear : MCal P w K mg base G 3 "require_wear" 3 dn_require_wear) (c_fewest : MCal P w K mg base G 4 "fewest" 3 dn_fewest) : MCal P w K mg base G 5 "needed_uses" 3 dn_needed_uses := by
  obtain ⟨_, g_MOST_ROUNDS⟩ := T.g_MOST_ROUNDS
  obtain ⟨_, g_MOST_USES⟩ := T.g_MOST_USES
  obtain ⟨_, g_MOST_WANTED⟩ := T.g_MOST_WANTED
  have sc := sc_needed_uses
  exact cal_M F (fn_M (k := 4) F sc rfl (by decide) fun cdv A outer sh H E hr tk hp =>
      (mss_cons (ms_expr (me_call c_require_wear (hr.mono (by omega)) tk (ma_cons (me_var 0 (pv 0)) (ma_cons (me_var 1 (pv 1)) (ma_cons me_int ma_nil)))))
      (mss_cons (ms_if (mt_not (mt_val (me_call c_is_within (hr.mono (by omega)) tk (ma_cons (me_var 2 (pv 2)) (ma_cons me_int (ma_cons (me_bin op_mulM sim_mul (me_gint g_MOST_ROUNDS) (mv_of (me_gint g_MOST_WANTED))) ma_nil)))))) (mss_one ms_never) mss_nil)
      (mss_cons (ms_for (vs := [3]) hp rfl (mi_range2 T.n_range me_int (me_bin op_addM (sim_add hK) (me_gint g_MOST_USES) (mv_of me_int))) (mg_name 3 sc.nd) (mss_one (ms_if (mt_cmp op_le sim_le (me_call c_fewest (hr.mono (by omega)) tk (ma_cons (me_var 0 (pv 0)) (ma_cons (me_var 1 (pv 1)) (ma_cons (me_var 3 (pv 3)) ma_nil)))) (mv_of (me_var 2 (pv 2))) (nomark _)) (mss_one (ms_ret (me_var 3 (pv 3)))) mss_nil)))
      (mss_one (ms_ret me_non)))))) hm b
abbrev s_law : Stmt := topS 23
theorem sc_law : FnScope ["script", "row", "turn", "least", "many", "found", "spent", "one", "last", "needed", "rounds", "wanted", "uses", "piece", "k"] ["script"] (defScope s_law) := ⟨rfl, rfl, rfl, by decide +kernel, rfl, by decide +kernel, by decide +kernel⟩
theorem ok_law (T : Facts K mg) (hK : G.K = K) {fa : Addr} {fd : FuncData} (F : Fun K "law" "law" s_law fa fd) (hm : mg "law" = some (.ref fa)) (b : Binds K fd ["script"] []) (c_fewest : MCal P w K mg base G 4 "fewest" 3 dn_fewest) (c_schedule : MCal P w K mg base G 5 "schedule" 3 dn_schedule) (c__law_taken : MCal P w K mg base G 1 "_law_taken" 2 dn__law_taken) (c__law_pick : MCal P w K mg base G 2 "_law_pick" 2 dn__law_pick) (c__law_alike : MCal P w K mg base G 11 "_law_alike" 2 (dn__law_alike 10)) (c_is_schedule : MCal P w K mg base G 4 "is_schedule" 5 dn_is_schedule) (c_uses_left : MCal P w K mg base G 6 "uses_left" 3 dn_uses_left) (c_most_rounds : MCal P w K mg base G 5 "most_rounds" 3 dn_most_rounds) (c_needed_uses : MCal P w K mg base G 5 "needed_uses" 3 dn_needed_uses) : FnOk P w K mg base (L2.CX P w) 12 fa fd ["script"] (spM G 1 dn_law) := by
  have sc := sc_law
  exact fn_M (k := 11) F sc rfl (by decide) fun cdv A outer sh H E hr tk hp =>
      (mss_cons (ms_new 1 sc.nd (mn_lst (ma_cons (me_var 0 (pv 0)) (ma_cons me_int (ma_cons me_int (ma_cons me_int ma_nil))))))
      (mss_cons (ms_for (vs := [2]) hp rfl (mi_range1 T.n_range me_int) (mg_name 2 sc.nd) (mss_cons (ms_parT (is := [10, 11, 12]) hK rfl (mas_val (me_callS c__law_taken (hr.mono (by omega)) tk (mas_ref (pv 1) (mas_val me_int mas_nil))) (mas_val (me_callS c__law_taken (hr.mono (by omega)) tk (mas_ref (pv 1) (mas_val me_int mas_nil))) (mas_val (me_bin op_addM (sim_add hK) me_int (mv_of (me_callS c__law_taken (hr.mono (by omega)) tk (mas_ref (pv 1) (mas_val (me_callS c__law_pick (hr.mono (by omega)) tk (mas_ref (pv 1) (mas_val (me_lst (ma_cons me_int (ma_cons me_int ma_nil))) mas_nil))) mas_nil))))) mas_nil))) (pgs_cons (pg_name (i := 10) sc.nd rfl (by first | exact .inl rfl | exact .inr rfl)) (pgs_cons (pg_name (i := 11) sc.nd rfl (by first | exact .inl rfl | exact .inr rfl)) (pgs_cons (pg_name (i := 12) sc.nd rfl (by first | exact .inl rfl | exact .inr rfl)) pgs_nil))))
      (mss_cons (ms_set 3 sc.nd me_int)
      (mss_cons (ms_for (vs := [4]) hp rfl (mi_range1 T.n_range me_int) (mg_name 4 sc.nd) (mss_one (ms_if (mt_w (mw_or (mt_cmp (op_eqD (hu64 hr)) (sim_eq hK) (me_var 10 (pv 10)) (mv_of me_int) (nomark _)) (mw_or1 (mt_w (mw_and (mt_cmp op_ge sim_ge (me_var 4 (pv 4)) (mv_of (me_var 11 (pv 11))) (nomark _)) (mw_and1 (mt_cmp op_ge sim_ge (me_bin op_mulM sim_mul (me_var 4 (pv 4)) (mv_of (me_var 12 (pv 12)))) (mv_of (me_bin op_mulM sim_mul (me_var 10 (pv 10)) (mv_of (me_var 11 (pv 11))))) (nomark _)))))))) (mss_cons (ms_set 3 sc.nd (me_var 4 (pv 4)))
      (mss_one ms_break)) mss_nil)))
      (mss_cons (ms_set 5 sc.nd (me_call c_schedule (hr.mono (by omega)) tk (ma_cons (me_var 10 (pv 10)) (ma_cons (me_var 11 (pv 11)) (ma_cons (me_var 12 (pv 12)) ma_nil)))))
      (mss_cons (ms_if (mt_w (mw_or (mt_not (mt_val (me_call c__law_alike (hr.mono (by omega)) tk (ma_cons (me_call c_fewest (hr.mono (by omega)) tk (ma_cons (me_var 10 (pv 10)) (ma_cons (me_var 11 (pv 11)) (ma_cons (me_var 12 (pv 12)) ma_nil)))) (ma_cons (me_var 3 (pv 3)) ma_nil))))) (mw_or (mt_not (mt_val (me_isi hK T.n_isinstance (by decide +kernel) T.n_tuple (mv_of (me_var 5 (pv 5)))))) (mw_or1 (mt_cmp (op_neD (hu64 hr)) (sim_ne hK) (me_bi1 (cr_lenM) (sim_len hK) (by decide +kernel) T.n_len (mv_of (me_var 5 (pv 5)))) (mv_of (me_var 10 (pv 10))) (nomark _)))))) (mss_one (ms_ret me_bl)) mss_nil)
      (mss_cons (ms_new 6 sc.nd (mn_rep (me_lst (ma_cons me_int ma_nil)) (me_var 3 (pv 3))))
      (mss_cons (ms_for (vs := [7]) hp rfl (mi_seq hK (me_var 5 (pv 5))) (mg_name 7 sc.nd) (mss_cons (ms_if (mt_w (mw_or (mt_not (mt_val (me_isi hK T.n_isinstance (by decide +kernel) T.n_tuple (mv_of (me_var 7 (pv 7)))))) (mw_or (mt_cmp (op_neD (hu64 hr)) (sim_ne hK) (me_bi1 (cr_lenM) (sim_len hK) (by decide +kernel) T.n_len (mv_of (me_var 7 (pv 7)))) (mv_of (me_var 11 (pv 11))) (nomark _)) (mw_or1 (mt_cmp (op_neD (hu64 hr)) (sim_ne hK) (me_own (mn_comp (own := [("k", 14)]) rfl sc.nd (mi_range1 T.n_range (me_bin op_sub sim_sub (me_var 11 (pv 11)) (mv_of me_int))) (blkOk_by (by kernel_rfl)) (gsim_name 14) (fun _ _ _ _ _ => (pg_name (i := 14) sc.nd rfl (by first | exact .inl rfl | exact .inr rfl))) (fun _ _ _ _ _ => (mts_one (mt_cmp op_ge sim_ge (me_ix ix_seq (sim_ix hK) (me_var 7 (pv 7)) (mv_of (me_var 14 (pv 14))) (fun _ _ => rfl)) (mv_of (me_ix ix_seq (sim_ix hK) (me_var 7 (pv 7)) (mv_of (me_bin op_addM (sim_add hK) (me_var 14 (pv 14)) (mv_of me_int))) (fun _ _ => rfl))) (nomark _)))) (fun _ _ _ _ _ => (me_var 14 (pv 14))))) (mv_of (me_lst ma_nil)) (nomark _)))))) (mss_one (ms_ret me_bl)) mss_nil)
      (mss_one (ms_for (vs := [13]) hp rfl (mi_seq hK (me_var 7 (pv 7))) (mg_name 13 sc.nd) (mss_cons (ms_if (mt_not (mt_chain op_le op_ltM sim_le sim_lt me_int (me_var 13 (pv 13)) (me_var 3 (pv 3)))) (mss_one (ms_ret me_bl)) mss_nil)
      (mss_one (ms_setix (pv 6) (me_var 13 (pv 13)) (me_bin op_addM (sim_add hK) (me_ixP ix_seq (sim_ix hK) (pv 6) (mv_of (me_var 13 (pv 13))) (fun _ _ => rfl)) (mv_of me_int)))))))))
      (mss_cons (ms_if (mt_w (mw_or (mt_cmp (op_neD (hu64 hr)) (sim_ne hK) (me_own (mn_comp (own := [("one", 7)]) rfl sc.nd (mi_seq hK (me_var 6 (pv 6))) (blkOk_by (by kernel_rfl)) (gsim_name 7) (fun _ _ _ _ _ => (pg_name (i := 7) sc.nd rfl (by first | exact .inl rfl | exact .inr rfl))) (fun _ _ _ _ _ => (mts_one (mt_cmp op_gt sim_gt (me_var 7 (pv 7)) (mv_of (me_var 12 (pv 12))) (nomark _)))) (fun _ _ _ _ _ => (me_var 7 (pv 7))))) (mv_of (me_lst ma_nil)) (nomark _)) (mw_or1 (mt_cmp op_isNotM sim_isNot (me_call c_is_schedule (hr.mono (by omega)) tk (ma_cons (me_var 10 (pv 10)) (ma_cons (me_var 11 (pv 11)) (ma_cons (me_var 12 (pv 12)) (ma_cons (me_var 3 (pv 3)) (ma_cons (me_var 5 (pv 5)) ma_nil)))))) (mv_of me_bl) (nomark _))))) (mss_one (ms_ret me_bl)) mss_nil)
      (mss_cons (ms_if (mt_w (mw_or (mt_not (mt_val (me_call c__law_alike (hr.mono (by omega)) tk (ma_cons (me_bi1 (cr_sumM rfl) (sim_sum hK) (by decide +kernel) T.n_sum (mv_of (me_call c_uses_left (hr.mono (by omega)) tk (ma_cons (me_var 10 (pv 10)) (ma_cons (me_var 11 (pv 11)) (ma_cons (me_var 12 (pv 12)) ma_nil)))))) (ma_cons (me_bin op_sub sim_sub (me_bin op_mulM sim_mul (me_var 3 (pv 3)) (mv_of (me_var 12 (pv 12)))) (mv_of (me_bin op_mulM sim_mul (me_var 10 (pv 10)) (mv_of (me_var 11 (pv 11)))))) ma_nil))))) (mw_or1 (mt_not (mt_val (me_call c__law_alike (hr.mono (by omega)) tk (ma_cons (me_call c_uses_left (hr.mono (by omega)) tk (ma_cons (me_var 10 (pv 10)) (ma_cons (me_var 11 (pv 11)) (ma_cons (me_var 12 (pv 12)) ma_nil)))) (ma_cons (me_ty1 (call_tuple_of) (sim_tuple hK) (by decide +kernel) T.n_tuple (mv_of (me_own (mn_comp (own := [("one", 7)]) rfl sc.nd (mi_seq hK (me_var 6 (pv 6))) (blkOk_by (by kernel_rfl)) (gsim_name 7) (fun _ _ _ _ _ => (pg_name (i := 7) sc.nd rfl (by first | exact .inl rfl | exact .inr rfl))) (fun _ _ _ _ _ => mts_nil) (fun _ _ _ _ _ => (me_bin op_sub sim_sub (me_var 12 (pv 12)) (mv_of (me_var 7 (pv 7))))))))) ma_nil)))))))) (mss_one (ms_ret me_bl)) mss_nil)
      (mss_cons (ms_set 4 sc.nd (me_callS c__law_pick (hr.mono (by omega)) tk (mas_ref (pv 1) (mas_val (me_lst (ma_cons (me_var 3 (pv 3)) (ma_cons (me_callS c__law_taken (hr.mono (by omega)) tk (mas_ref (pv 1) (mas_val me_int mas_nil))) (ma_cons (me_biN (call_max2 rfl) sim_max2 (by decide +kernel) T.n_max (ma_cons me_int (ma_cons (me_bin op_sub sim_sub (me_var 3 (pv 3)) (mv_of me_int)) ma_nil))) ma_nil)))) mas_nil))))
      (mss_cons (ms_set 8 sc.nd (me_bi1 (cr_max rfl) sim_max (by decide +kernel) T.n_max (mv_of (me_own (mn_comp (own := [("k", 14)]) rfl sc.nd (mi_range1 T.n_range me_int) (blkOk_by (by kernel_rfl)) (gsim_name 14) (fun _ _ _ _ _ => (pg_name (i := 14) sc.nd rfl (by first | exact .inl rfl | exact .inr rfl))) (fun _ _ _ _ _ => (mts_one (mt_w (mw_or (mt_cmp (op_eqD (hu64 hr)) (sim_eq hK) (me_var 14 (pv 14)) (mv_of me_int) (nomark _)) (mw_or1 (mt_w (mw_and (mt_cmp op_ge sim_ge (me_var 4 (pv 4)) (mv_of (me_var 11 (pv 11))) (nomark _)) (mw_and1 (mt_cmp op_ge sim_ge (me_bin op_mulM sim_mul (me_var 4 (pv 4)) (mv_of (me_var 12 (pv 12)))) (mv_of (me_bin op_mulM sim_mul (me_var 14 (pv 14)) (mv_of (me_var 11 (pv 11))))) (nomark _)))))))))) (fun _ _ _ _ _ => (me_var 14 (pv 14))))))))
      (mss_cons (ms_setComp (own := [("k", 14)]) 9 rfl sc.nd (mi_range2 T.n_range me_int me_int) (blkOk_by (by kernel_rfl)) (gsim_name 14) (fun _ _ _ _ _ => (pg_name (i := 14) sc.nd rfl (by first | exact .inl rfl | exact .inr rfl))) (fun _ _ _ _ _ => (mts_one (mt_w (mw_or (mt_cmp (op_eqD (hu64 hr)) (sim_eq hK) (me_var 10 (pv 10)) (mv_of me_int) (nomark _)) (mw_or1 (mt_w (mw_and (mt_cmp op_ge sim_ge (me_var 4 (pv 4)) (mv_of (me_var 11 (pv 11))) (nomark _)) (mw_and1 (mt_cmp op_ge sim_ge (me_bin op_mulM sim_mul (me_var 4 (pv 4)) (mv_of (me_var 14 (pv 14)))) (mv_of (me_bin op_mulM sim_mul (me_var 10 (pv 10)) (mv_of (me_var 11 (pv 11))))) (nomark _)))))))))) (fun _ _ _ _ _ => (me_var 14 (pv 14))) (sw_true rfl rfl rfl (by kernel_rfl)))
      (mss_one (ms_if (mt_not (mt_val (me_call c__law_alike (hr.mono (by omega)) tk (ma_cons (me_tup (ma_cons (me_call c_most_rounds (hr.mono (by omega)) tk (ma_cons (me_var 4 (pv 4)) (ma_cons (me_var 11 (pv 11)) (ma_cons (me_var 12 (pv 12)) ma_nil)))) (ma_cons (me_call c_needed_uses (hr.mono (by omega)) tk (ma_cons (me_var 10 (pv 10)) (ma_cons (me_var 11 (pv 11)) (ma_cons (me_var 4 (pv 4)) ma_nil)))) ma_nil))) (ma_cons (me_tup (ma_cons (me_var 8 (pv 8)) (ma_cons (me_if (mt_cmp (op_neD (hu64 hr)) (sim_ne hK) (me_var 9 (pv 9)) (mv_of (me_lst ma_nil)) (nomark _)) (me_ix ix_seq (sim_ix hK) (me_var 9 (pv 9)) (mv_of me_int) (fun _ _ => rfl)) me_non) ma_nil))) ma_nil))))) (mss_one (ms_ret me_bl)) mss_nil)))))))))))))))
      (mss_one (ms_ret me_bl))))
end
def GW (K : PySem.W.Frag) : Wd := ⟨K, fun _ => none, fun _ => none⟩
theorem all_mk {l : PySem.W.OpenLaw} {w : World} {K : PySem.W.Frag} {h : Heap} {mg : Str → Option Value} {fa : Addr} {f_is_whole : Addr} {oc_is_whole kV_is_whole dc_is_whole pm_is_whole cd_is_whole ct_is_whole : Value} {od_is_whole an_is_whole : Option Addr} {sl_is_whole : Array (Option Value)} {f_is_within : Addr} {oc_is_within kV_is_within dc_is_within pm_is_within cd_is_within ct_is_within : Value} {od_is_within an_is_within : Option Addr} {sl_is_within : Array (Option Value)} {f_require_wear : Addr} {oc_require_wear kV_require_wear dc_require_wear pm_require_wear cd_require_wear ct_require_wear : Value} {od_require_wear an_require_wear : Option Addr} {sl_require_wear : Array (Option Value)} {f_fewest : Addr} {oc_fewest kV_fewest dc_fewest pm_fewest cd_fewest ct_fewest : Value} {od_fewest an_fewest : Option Addr} {sl_fewest : Array (Option Value)} {f_schedule : Addr} {oc_schedule kV_schedule dc_schedule pm_schedule cd_schedule ct_schedule : Value} {od_schedule an_schedule : Option Addr} {sl_schedule : Array (Option Value)} {f__law_taken : Addr} {oc__law_taken kV__law_taken dc__law_taken pm__law_taken cd__law_taken ct__law_taken : Value} {od__law_taken an__law_taken : Option Addr} {sl__law_taken : Array (Option Value)} {f__law_pick : Addr} {oc__law_pick kV__law_pick dc__law_pick pm__law_pick cd__law_pick ct__law_pick : Value} {od__law_pick an__law_pick : Option Addr} {sl__law_pick : Array (Option Value)} {f__law_alike : Addr} {oc__law_alike kV__law_alike dc__law_alike pm__law_alike cd__law_alike ct__law_alike : Value} {od__law_alike an__law_alike : Option Addr} {sl__law_alike : Array (Option Value)} {f_is_row : Addr} {oc_is_row kV_is_row dc_is_row pm_is_row cd_is_row ct_is_row : Value} {od_is_row an_is_row : Option Addr} {sl_is_row : Array (Option Value)} {f_used : Addr} {oc_used kV_used dc_used pm_used cd_used ct_used : Value} {od_used an_used : Option Addr} {sl_used : Array (Option Value)} {f_is_schedule : Addr} {oc_is_schedule kV_is_schedule dc_is_schedule pm_is_schedule cd_is_schedule ct_is_schedule : Value} {od_is_schedule an_is_schedule : Option Addr} {sl_is_schedule : Array (Option Value)} {f_uses_left : Addr} {oc_uses_left kV_uses_left dc_uses_left pm_uses_left cd_uses_left ct_uses_left : Value} {od_uses_left an_uses_left : Option Addr} {sl_uses_left : Array (Option Value)} {f_most_rounds : Addr} {oc_most_rounds kV_most_rounds dc_most_rounds pm_most_rounds cd_most_rounds ct_most_rounds : Value} {od_most_rounds an_most_rounds : Option Addr} {sl_most_rounds : Array (Option Value)} {f_needed_uses : Addr} {oc_needed_uses kV_needed_uses dc_needed_uses pm_needed_uses cd_needed_uses ct_needed_uses : Value} {od_needed_uses an_needed_uses : Option Addr} {sl_needed_uses : Array (Option Value)} {f_law : Addr} {oc_law kV_law dc_law pm_law cd_law ct_law : Value} {od_law an_law : Option Addr} {sl_law : Array (Option Value)} (X : K.In h) (GG : h.Ns mainGlobals mg) (hfa : mg "law" = some (.ref fa))
    (z_all : PySem.W.nsIn K mainGlobals "all" = some none)
    (z_bool : PySem.W.nsIn K mainGlobals "bool" = some none)
    (z_int : PySem.W.nsIn K mainGlobals "int" = some none)
    (z_isinstance : PySem.W.nsIn K mainGlobals "isinstance" = some none)
    (z_len : PySem.W.nsIn K mainGlobals "len" = some none)
    (z_list : PySem.W.nsIn K mainGlobals "list" = some none)
    (z_max : PySem.W.nsIn K mainGlobals "max" = some none)
    (z_range : PySem.W.nsIn K mainGlobals "range" = some none)
    (z_sorted : PySem.W.nsIn K mainGlobals "sorted" = some none)
    (z_str : PySem.W.nsIn K mainGlobals "str" = some none)
    (z_sum : PySem.W.nsIn K mainGlobals "sum" = some none)
    (z_tuple : PySem.W.nsIn K mainGlobals "tuple" = some none)
    (z_zip : PySem.W.nsIn K mainGlobals "zip" = some none)
    {t_MOST_ROUNDS : Tok} (q_MOST_ROUNDS : PySem.W.nsIn K mainGlobals "MOST_ROUNDS" = some (some (.int 30 t_MOST_ROUNDS)))
    {t_MOST_USES : Tok} (q_MOST_USES : PySem.W.nsIn K mainGlobals "MOST_USES" = some (some (.int 30 t_MOST_USES)))
    {t_MOST_WANTED : Tok} (q_MOST_WANTED : PySem.W.nsIn K mainGlobals "MOST_WANTED" = some (some (.int 9 t_MOST_WANTED)))
    (a_is_whole : PySem.W.nsIn K mainGlobals "is_whole" = some (some (.ref f_is_whole))) (l_is_whole : K.lookup f_is_whole = some ⟨oc_is_whole, od_is_whole, .func (PySem.W.fnOf "is_whole" "is_whole" (defArgs s_is_whole) (defBody s_is_whole) (defScope s_is_whole) .none kV_is_whole dc_is_whole pm_is_whole an_is_whole cd_is_whole ct_is_whole), sl_is_whole⟩) (c_is_whole : PySem.W.codeIn K cd_is_whole "is_whole" = true) (k_is_whole : PySem.W.keepIn K (.ref f_is_whole) = true)
    (a_is_within : PySem.W.nsIn K mainGlobals "is_within" = some (some (.ref f_is_within))) (l_is_within : K.lookup f_is_within = some ⟨oc_is_within, od_is_within, .func (PySem.W.fnOf "is_within" "is_within" (defArgs s_is_within) (defBody s_is_within) (defScope s_is_within) .none kV_is_within dc_is_within pm_is_within an_is_within cd_is_within ct_is_within), sl_is_within⟩) (c_is_within : PySem.W.codeIn K cd_is_within "is_within" = true) (k_is_within : PySem.W.keepIn K (.ref f_is_within) = true)
    (a_require_wear : PySem.W.nsIn K mainGlobals "require_wear" = some (some (.ref f_require_wear))) (l_require_wear : K.lookup f_require_wear = some ⟨oc_require_wear, od_require_wear, .func (PySem.W.fnOf "require_wear" "require_wear" (defArgs s_require_wear) (defBody s_require_wear) (defScope s_require_wear) .none kV_require_wear dc_require_wear pm_require_wear an_require_wear cd_require_wear ct_require_wear), sl_require_wear⟩) (c_require_wear : PySem.W.codeIn K cd_require_wear "require_wear" = true) (k_require_wear : PySem.W.keepIn K (.ref f_require_wear) = true)
    (a_fewest : PySem.W.nsIn K mainGlobals "fewest" = some (some (.ref f_fewest))) (l_fewest : K.lookup f_fewest = some ⟨oc_fewest, od_fewest, .func (PySem.W.fnOf "fewest" "fewest" (defArgs s_fewest) (defBody s_fewest) (defScope s_fewest) .none kV_fewest dc_fewest pm_fewest an_fewest cd_fewest ct_fewest), sl_fewest⟩) (c_fewest : PySem.W.codeIn K cd_fewest "fewest" = true) (k_fewest : PySem.W.keepIn K (.ref f_fewest) = true)
    (a_schedule : PySem.W.nsIn K mainGlobals "schedule" = some (some (.ref f_schedule))) (l_schedule : K.lookup f_schedule = some ⟨oc_schedule, od_schedule, .func (PySem.W.fnOf "schedule" "schedule" (defArgs s_schedule) (defBody s_schedule) (defScope s_schedule) .none kV_schedule dc_schedule pm_schedule an_schedule cd_schedule ct_schedule), sl_schedule⟩) (c_schedule : PySem.W.codeIn K cd_schedule "schedule" = true) (k_schedule : PySem.W.keepIn K (.ref f_schedule) = true)
    (a__law_taken : PySem.W.nsIn K mainGlobals "_law_taken" = some (some (.ref f__law_taken))) (l__law_taken : K.lookup f__law_taken = some ⟨oc__law_taken, od__law_taken, .func (PySem.W.fnOf "_law_taken" "_law_taken" (defArgs s__law_taken) (defBody s__law_taken) (defScope s__law_taken) .none kV__law_taken dc__law_taken pm__law_taken an__law_taken cd__law_taken ct__law_taken), sl__law_taken⟩) (c__law_taken : PySem.W.codeIn K cd__law_taken "_law_taken" = true) (k__law_taken : PySem.W.keepIn K (.ref f__law_taken) = true)
    (a__law_pick : PySem.W.nsIn K mainGlobals "_law_pick" = some (some (.ref f__law_pick))) (l__law_pick : K.lookup f__law_pick = some ⟨oc__law_pick, od__law_pick, .func (PySem.W.fnOf "_law_pick" "_law_pick" (defArgs s__law_pick) (defBody s__law_pick) (defScope s__law_pick) .none kV__law_pick dc__law_pick pm__law_pick an__law_pick cd__law_pick ct__law_pick), sl__law_pick⟩) (c__law_pick : PySem.W.codeIn K cd__law_pick "_law_pick" = true) (k__law_pick : PySem.W.keepIn K (.ref f__law_pick) = true)
    (a__law_alike : PySem.W.nsIn K mainGlobals "_law_alike" = some (some (.ref f__law_alike))) (l__law_alike : K.lookup f__law_alike = some ⟨oc__law_alike, od__law_alike, .func (PySem.W.fnOf "_law_alike" "_law_alike" (defArgs s__law_alike) (defBody s__law_alike) (defScope s__law_alike) .none kV__law_alike dc__law_alike pm__law_alike an__law_alike cd__law_alike ct__law_alike), sl__law_alike⟩) (c__law_alike : PySem.W.codeIn K cd__law_alike "_law_alike" = true) (k__law_alike : PySem.W.keepIn K (.ref f__law_alike) = true)
    (a_is_row : PySem.W.nsIn K mainGlobals "is_row" = some (some (.ref f_is_row))) (l_is_row : K.lookup f_is_row = some ⟨oc_is_row, od_is_row, .func (PySem.W.fnOf "is_row" "is_row" (defArgs s_is_row) (defBody s_is_row) (defScope s_is_row) .none kV_is_row dc_is_row pm_is_row an_is_row cd_is_row ct_is_row), sl_is_row⟩) (c_is_row : PySem.W.codeIn K cd_is_row "is_row" = true) (k_is_row : PySem.W.keepIn K (.ref f_is_row) = true)
    (a_used : PySem.W.nsIn K mainGlobals "used" = some (some (.ref f_used))) (l_used : K.lookup f_used = some ⟨oc_used, od_used, .func (PySem.W.fnOf "used" "used" (defArgs s_used) (defBody s_used) (defScope s_used) .none kV_used dc_used pm_used an_used cd_used ct_used), sl_used⟩) (c_used : PySem.W.codeIn K cd_used "used" = true) (k_used : PySem.W.keepIn K (.ref f_used) = true)
    (a_is_schedule : PySem.W.nsIn K mainGlobals "is_schedule" = some (some (.ref f_is_schedule))) (l_is_schedule : K.lookup f_is_schedule = some ⟨oc_is_schedule, od_is_schedule, .func (PySem.W.fnOf "is_schedule" "is_schedule" (defArgs s_is_schedule) (defBody s_is_schedule) (defScope s_is_schedule) .none kV_is_schedule dc_is_schedule pm_is_schedule an_is_schedule cd_is_schedule ct_is_schedule), sl_is_schedule⟩) (c_is_schedule : PySem.W.codeIn K cd_is_schedule "is_schedule" = true) (k_is_schedule : PySem.W.keepIn K (.ref f_is_schedule) = true)
    (a_uses_left : PySem.W.nsIn K mainGlobals "uses_left" = some (some (.ref f_uses_left))) (l_uses_left : K.lookup f_uses_left = some ⟨oc_uses_left, od_uses_left, .func (PySem.W.fnOf "uses_left" "uses_left" (defArgs s_uses_left) (defBody s_uses_left) (defScope s_uses_left) .none kV_uses_left dc_uses_left pm_uses_left an_uses_left cd_uses_left ct_uses_left), sl_uses_left⟩) (c_uses_left : PySem.W.codeIn K cd_uses_left "uses_left" = true) (k_uses_left : PySem.W.keepIn K (.ref f_uses_left) = true)
    (a_most_rounds : PySem.W.nsIn K mainGlobals "most_rounds" = some (some (.ref f_most_rounds))) (l_most_rounds : K.lookup f_most_rounds = some ⟨oc_most_rounds, od_most_rounds, .func (PySem.W.fnOf "most_rounds" "most_rounds" (defArgs s_most_rounds) (defBody s_most_rounds) (defScope s_most_rounds) .none kV_most_rounds dc_most_rounds pm_most_rounds an_most_rounds cd_most_rounds ct_most_rounds), sl_most_rounds⟩) (c_most_rounds : PySem.W.codeIn K cd_most_rounds "most_rounds" = true) (k_most_rounds : PySem.W.keepIn K (.ref f_most_rounds) = true)
    (a_needed_uses : PySem.W.nsIn K mainGlobals "needed_uses" = some (some (.ref f_needed_uses))) (l_needed_uses : K.lookup f_needed_uses = some ⟨oc_needed_uses, od_needed_uses, .func (PySem.W.fnOf "needed_uses" "needed_uses" (defArgs s_needed_uses) (defBody s_needed_uses) (defScope s_needed_uses) .none kV_needed_uses dc_needed_uses pm_needed_uses an_needed_uses cd_needed_uses ct_needed_uses), sl_needed_uses⟩) (c_needed_uses : PySem.W.codeIn K cd_needed_uses "needed_uses" = true) (k_needed_uses : PySem.W.keepIn K (.ref f_needed_uses) = true)
    (a_law : PySem.W.nsIn K mainGlobals "law" = some (some (.ref f_law))) (l_law : K.lookup f_law = some ⟨oc_law, od_law, .func (PySem.W.fnOf "law" "law" (defArgs s_law) (defBody s_law) (defScope s_law) .none kV_law dc_law pm_law an_law cd_law ct_law), sl_law⟩) (c_law : PySem.W.codeIn K cd_law "law" = true) (k_law : PySem.W.keepIn K (.ref f_law) = true) :
    ∃ fd : FuncData, (∀ (s : Shared) (v : Value), BindsTo s fd ⟨[v], []⟩ [("script", v)]) ∧ ∀ base : Heap, K.In base → base.Ns mainGlobals mg → FnOk l.prog w K mg base (L2.CX l.prog w) 12 fa fd ["script"] (spM (GW K) 1 dn_law) := by
  have e := hfa.symm.trans (PySem.W.mg_of X GG a_law)
  cases e
  have T : Facts K mg := ⟨PySem.W.mg_none_of X GG z_all, PySem.W.mg_none_of X GG z_bool, PySem.W.mg_none_of X GG z_int, PySem.W.mg_none_of X GG z_isinstance, PySem.W.mg_none_of X GG z_len, PySem.W.mg_none_of X GG z_list, PySem.W.mg_none_of X GG z_max, PySem.W.mg_none_of X GG z_range, PySem.W.mg_none_of X GG z_sorted, PySem.W.mg_none_of X GG z_str, PySem.W.mg_none_of X GG z_sum, PySem.W.mg_none_of X GG z_tuple, PySem.W.mg_none_of X GG z_zip, ⟨_, PySem.W.mg_of X GG q_MOST_ROUNDS⟩, ⟨_, PySem.W.mg_of X GG q_MOST_USES⟩, ⟨_, PySem.W.mg_of X GG q_MOST_WANTED⟩⟩
  have F_is_whole := fun_mk (st := s_is_whole) l_is_whole c_is_whole k_is_whole
  have b_is_whole := F_is_whole.binds (ps := ["value"]) fun _ _ _ _ _ _ us hl => match us, hl with | [_], _ => rfl
  have F_is_within := fun_mk (st := s_is_within) l_is_within c_is_within k_is_within
  have b_is_within := F_is_within.binds (ps := ["value", "least", "most"]) fun _ _ _ _ _ _ us hl => match us, hl with | [_, _, _], _ => rfl
  have F_require_wear := fun_mk (st := s_require_wear) l_require_wear c_require_wear k_require_wear
  have b_require_wear := F_require_wear.binds (ps := ["rounds", "wanted", "uses"]) fun _ _ _ _ _ _ us hl => match us, hl with | [_, _, _], _ => rfl
  have F_fewest := fun_mk (st := s_fewest) l_fewest c_fewest k_fewest
  have b_fewest := F_fewest.binds (ps := ["rounds", "wanted", "uses"]) fun _ _ _ _ _ _ us hl => match us, hl with | [_, _, _], _ => rfl
  have F_schedule := fun_mk (st := s_schedule) l_schedule c_schedule k_schedule
  have b_schedule := F_schedule.binds (ps := ["rounds", "wanted", "uses"]) fun _ _ _ _ _ _ us hl => match us, hl with | [_, _, _], _ => rfl
  have F__law_taken := fun_mk (st := s__law_taken) l__law_taken c__law_taken k__law_taken
  have b__law_taken := F__law_taken.binds (ps := ["row", "many"]) fun _ _ _ _ _ _ us hl => match us, hl with | [_, _], _ => rfl
  have F__law_pick := fun_mk (st := s__law_pick) l__law_pick c__law_pick k__law_pick
  have b__law_pick := F__law_pick.binds (ps := ["row", "things"]) fun _ _ _ _ _ _ us hl => match us, hl with | [_, _], _ => rfl
  have F__law_alike := fun_mk (st := s__law_alike) l__law_alike c__law_alike k__law_alike
  have b__law_alike := F__law_alike.binds (ps := ["found", "due"]) fun _ _ _ _ _ _ us hl => match us, hl with | [_, _], _ => rfl
  have F_is_row := fun_mk (st := s_is_row) l_is_row c_is_row k_is_row
  have b_is_row := F_is_row.binds (ps := ["value", "size"]) fun _ _ _ _ _ _ us hl => match us, hl with | [_, _], _ => rfl
  have F_used := fun_mk (st := s_used) l_used c_used k_used
  have b_used := F_used.binds (ps := ["value", "piece"]) fun _ _ _ _ _ _ us hl => match us, hl with | [_, _], _ => rfl
  have F_is_schedule := fun_mk (st := s_is_schedule) l_is_schedule c_is_schedule k_is_schedule
  have b_is_schedule := F_is_schedule.binds (ps := ["rounds", "wanted", "uses", "many", "value"]) fun _ _ _ _ _ _ us hl => match us, hl with | [_, _, _, _, _], _ => rfl
  have F_uses_left := fun_mk (st := s_uses_left) l_uses_left c_uses_left k_uses_left
  have b_uses_left := F_uses_left.binds (ps := ["rounds", "wanted", "uses"]) fun _ _ _ _ _ _ us hl => match us, hl with | [_, _, _], _ => rfl
  have F_most_rounds := fun_mk (st := s_most_rounds) l_most_rounds c_most_rounds k_most_rounds
  have b_most_rounds := F_most_rounds.binds (ps := ["many", "wanted", "uses"]) fun _ _ _ _ _ _ us hl => match us, hl with | [_, _, _], _ => rfl
  have F_needed_uses := fun_mk (st := s_needed_uses) l_needed_uses c_needed_uses k_needed_uses
  have b_needed_uses := F_needed_uses.binds (ps := ["rounds", "wanted", "many"]) fun _ _ _ _ _ _ us hl => match us, hl with | [_, _, _], _ => rfl
  have F_law := fun_mk (st := s_law) l_law c_law k_law
  have b_law := F_law.binds (ps := ["script"]) fun _ _ _ _ _ _ us hl => match us, hl with | [_], _ => rfl
  refine ⟨PySem.W.fnOf "law" "law" (defArgs s_law) (defBody s_law) (defScope s_law) .none kV_law dc_law pm_law an_law cd_law ct_law, fun s v => .of_eq rfl, fun base _ _ => ?_⟩
  have m_is_whole := ok_is_whole (P := l.prog) (w := w) (base := base) (G := GW K) T rfl F_is_whole (PySem.W.mg_of X GG a_is_whole) b_is_whole 
  have m_is_within := ok_is_within (P := l.prog) (w := w) (base := base) (G := GW K) T rfl F_is_within (PySem.W.mg_of X GG a_is_within) b_is_within m_is_whole
  have m_require_wear := ok_require_wear (P := l.prog) (w := w) (base := base) (G := GW K) T rfl F_require_wear (PySem.W.mg_of X GG a_require_wear) b_require_wear m_is_within
  have m_fewest := ok_fewest (P := l.prog) (w := w) (base := base) (G := GW K) T rfl F_fewest (PySem.W.mg_of X GG a_fewest) b_fewest m_require_wear
  have m_schedule := ok_schedule (P := l.prog) (w := w) (base := base) (G := GW K) T rfl F_schedule (PySem.W.mg_of X GG a_schedule) b_schedule m_fewest
  have m__law_taken := ok__law_taken (P := l.prog) (w := w) (base := base) (G := GW K) T rfl F__law_taken (PySem.W.mg_of X GG a__law_taken) b__law_taken 
  have m__law_pick := ok__law_pick (P := l.prog) (w := w) (base := base) (G := GW K) T rfl F__law_pick (PySem.W.mg_of X GG a__law_pick) b__law_pick m__law_taken
  have m__law_alike := ok__law_alike (P := l.prog) (w := w) (base := base) (G := GW K) T rfl F__law_alike (PySem.W.mg_of X GG a__law_alike) b__law_alike 
  have m_is_row := ok_is_row (P := l.prog) (w := w) (base := base) (G := GW K) T rfl F_is_row (PySem.W.mg_of X GG a_is_row) b_is_row 
  have m_used := ok_used (P := l.prog) (w := w) (base := base) (G := GW K) T rfl F_used (PySem.W.mg_of X GG a_used) b_used 
  have m_is_schedule := ok_is_schedule (P := l.prog) (w := w) (base := base) (G := GW K) T rfl F_is_schedule (PySem.W.mg_of X GG a_is_schedule) b_is_schedule m_is_whole m_is_within m_require_wear m_is_row m_used
  have m_uses_left := ok_uses_left (P := l.prog) (w := w) (base := base) (G := GW K) T rfl F_uses_left (PySem.W.mg_of X GG a_uses_left) b_uses_left m_fewest m_schedule m_used
  have m_most_rounds := ok_most_rounds (P := l.prog) (w := w) (base := base) (G := GW K) T rfl F_most_rounds (PySem.W.mg_of X GG a_most_rounds) b_most_rounds m_is_within m_require_wear m_fewest
  have m_needed_uses := ok_needed_uses (P := l.prog) (w := w) (base := base) (G := GW K) T rfl F_needed_uses (PySem.W.mg_of X GG a_needed_uses) b_needed_uses m_is_within m_require_wear m_fewest
  exact ok_law T rfl F_law hfa b_law m_fewest m_schedule m__law_taken m__law_pick (m__law_alike 10) m_is_schedule m_uses_left m_most_rounds m_needed_uses
theorem walk {l : PySem.W.OpenLaw} {q : Program} {loose : List Str} {XP : (Str → Option Value) → Heap → Prop} {YP : World → Heap → Prop} {d : DefRec} {K : Params → PySem.W.Frag} (main : ∀ ns : List Int, ns.length ≤ 63 → dn_law [.p (.scr ns)] [] = .ok (.bl true) []) (hn : l.most = some 63) (hdf : d.params.defaults = [])
    (hY : ∀ (w : World) (h : Heap), YP w h → (K w.params).In h)
    (F : ∀ (w : World) (mg : Str → Option Value) (fa : Addr) (h : Heap), (K w.params).In h → h.Ns mainGlobals mg → mg d.name = some (.ref fa) →
      ∃ fd : FuncData, (∀ (s : Shared) (u : Value), BindsTo s fd ⟨[u], []⟩ [("script", u)]) ∧ ∀ base : Heap, (K w.params).In base → base.Ns mainGlobals mg → FnOk l.prog w (K w.params) mg base (L2.CX l.prog w) 12 fa fd ["script"] (spM (GW (K w.params)) 1 dn_law)) :
    PySem.W.WalkO q loose XP YP l.row.toRowW d [] (fun f vs => PySem.call f vs) :=
  L2.walk_of (n := 63) (k := 12) (x := "script") (CX := fun w => L2.CX l.prog w) (sp := fun w => spM (GW (K w.params)) 1 dn_law) hn (by rw [sizeLine_eq]; decide) hdf ⟨rfl, by decide, by decide⟩ hY F (fun w H a ns hl _ hS => law_sp (main ns hl) hS) fun w H s e s' hx => by
    obtain ⟨_, _, _, _, _, _, _, _, _, _, _, _, z⟩ := hx
    exact z
end Law
namespace Law
open PySem PySem.Spec L2 M
theorem sm31 : small 31 = true := small_iff.mpr (by omega)
theorem sm48 : small 48271 = true := small_iff.mpr (by omega)
theorem is_whole_int (i : Int) : dn_is_whole [.p (.int i)] [] = .ok (.bl true) [] := by
  simp [dn_is_whole]
theorem is_within_int (v a b : Int) : dn_is_within [.p (.int v), .p (.int a), .p (.int b)] [] = .ok (.bl (decide (a ≤ v) && decide (v ≤ b))) [] := by
  simp [dn_is_within, is_whole_int, dLe]
  by_cases h : a ≤ v <;> simp [h]
theorem require_ok {r w u : Int} (hr : 0 ≤ r ∧ r ≤ 30) (hw : 0 ≤ w ∧ w ≤ 9) (hu : 1 ≤ u ∧ u ≤ 30) : dn_require_wear [.p (.int r), .p (.int w), .p (.int u)] [] = .ok .non [] := by
  simp [dn_require_wear, is_within_int, hr, hw, hu]
def fewest (r w u : Int) : Int := if r = 0 then 0 else max w ((r * w + u - 1) / u)
theorem fewest_ok {r w u : Int} (hr : 0 ≤ r ∧ r ≤ 30) (hw : 0 ≤ w ∧ w ≤ 9) (hu : 1 ≤ u ∧ u ≤ 30) : dn_fewest [.p (.int r), .p (.int w), .p (.int u)] [] = .ok (.int (fewest r w u)) [] := by
  have hs : small r = true := small_iff.mpr (by omega)
  have h1 : 0 < u := by omega
  have h2 : u < 1073741824 := by omega
  by_cases h : r = 0
  · subst h
    simp [dn_fewest, require_ok hr hw hu, dEq, fewest]
  · simp [dn_fewest, require_ok hr hw hu, dEq, fewest, h, dMul, dAdd, dSub, dFdiv, dMax2, hs, h1, h2]
    omega
def Flat (st : Sto) : Prop := ∀ o ∈ st, ∀ c fs, o ≠ O.ins c fs
theorem Flat.all {st : Sto} {k : Nat} (h : Flat st) : st.all (O.refsBelow k) = true := by
  rw [List.all_eq_true]
  intro o ho
  cases o with
  | ins c fs => exact absurd rfl (h _ ho c fs)
  | _ => rfl
def RowOk (ns : List Int) (row : List D) : Prop := ∃ i r c : Int, row = [.scr ns, .int i, .int r, .int c] ∧ 0 ≤ i ∧ 0 ≤ r ∧ r < 2147483647 ∧ 0 ≤ c
theorem atI_4 {α : Type} (a b c d : α) : atI [a, b, c, d] 0 = some a ∧ atI [a, b, c, d] 1 = some b ∧ atI [a, b, c, d] 2 = some c ∧ atI [a, b, c, d] 3 = some d := ⟨rfl, rfl, rfl, rfl⟩
theorem taken {ns : List Int} {row : List D} {rest : Sto} {m : Int} (hr : RowOk ns row) (hf : Flat rest) (h0 : 0 < m) (h1 : m ≤ 1000000) :
    ∃ v row', RowOk ns row' ∧ 0 ≤ v ∧ v < m ∧ dn__law_taken [.r 0, .p (.int m)] (.lst row :: rest) = .ok (.int v) (.lst row' :: rest) := by
  obtain ⟨i, r, c, rfl, hi, hr0, hr1, hc⟩ := hr
  have hm : m < 1073741824 := by omega
  by_cases hc0 : 0 < c
  · refine ⟨c % m, [.scr ns, .int i, .int r, .int (c / m)], ⟨i, r, c / m, rfl, hi, hr0, hr1, Int.ediv_nonneg hc (by omega)⟩, Int.emod_nonneg _ (by omega), Int.emod_lt_of_pos _ h0, ?_⟩
    simp [dn__law_taken, lstAt, thaw, dIx, atI, ixN, dGt, dMod, dInt, dFdiv, hc0, h0, hm, hf.all]
  · have hc0' : c = 0 := by omega
    subst hc0'
    by_cases hl : (ns.length : Int) < i + 1
    · refine ⟨(r * 48271 + 11) % 2147483647 / 7 % m, [.scr ns, .int (i + 1), .int ((r * 48271 + 11) % 2147483647), .int 0], ⟨_, _, _, rfl, by omega, Int.emod_nonneg _ (by omega), Int.emod_lt_of_pos _ (by omega), by omega⟩, Int.emod_nonneg _ (by omega), Int.emod_lt_of_pos _ h0, ?_⟩
      simp [dn__law_taken, lstAt, thaw, dIx, atI, ixN, dGt, dMod, dInt, dFdiv, dAdd, dMul, dLen, sm31, sm48, h0, hm, hl, hf.all]
    · obtain ⟨cell, hcell⟩ : ∃ cell, ns[i.toNat]? = some cell := ⟨_, List.getElem?_eq_getElem (show i.toNat < ns.length by omega)⟩
      have hi2 : i < (ns.length : Int) := by omega
      have hx : atI ns i = some cell := by
        unfold atI ixN
        rw [if_pos hi, if_pos hi2]
        exact hcell
      have hp : (10 : Int) ^ (18 : Nat) = 1000000000000000000 := by decide
      have hsm : ∀ z : Int, small (z % 1000003) = true := fun z => by
        have h1 := Int.emod_nonneg z (show (1000003 : Int) ≠ 0 by decide)
        have h2 := Int.emod_lt_of_pos z (show (0 : Int) < 1000003 by decide)
        exact small_iff.mpr (by omega)
      by_cases hg : (1000000000000000000 : Int) ≤ cell
      · refine ⟨cell % m, [.scr ns, .int (i + 1), .int ((r * 48271 + cell + 11) % 2147483647), .int (cell / m)], ⟨_, _, _, rfl, by omega, Int.emod_nonneg _ (by omega), Int.emod_lt_of_pos _ (by omega), Int.ediv_nonneg (by omega) (by omega)⟩, Int.emod_nonneg _ (by omega), Int.emod_lt_of_pos _ h0, ?_⟩
        simp [dn__law_taken, lstAt, thaw, dIx, ixN, atI_4, hx, dGt, dGe, dMod, dInt, dFdiv, dAdd, dSub, dMul, dPow, dLen, sm31, sm48, h0, hm, hl, hf.all, hg, hp]
      · refine ⟨(cell % 1000003 * 31 + (r * 48271 + cell + 11) % 2147483647 / 11) % m, [.scr ns, .int (i + 1), .int ((r * 48271 + cell + 11) % 2147483647), .int 0], ⟨_, _, _, rfl, by omega, Int.emod_nonneg _ (by omega), Int.emod_lt_of_pos _ (by omega), by omega⟩, Int.emod_nonneg _ (by omega), Int.emod_lt_of_pos _ h0, ?_⟩
        simp [dn__law_taken, lstAt, thaw, dIx, ixN, atI_4, hx, dGt, dGe, dMod, dInt, dFdiv, dAdd, dSub, dMul, dPow, dLen, sm31, sm48, h0, hm, hl, hf.all, hg, hp]
end Law
namespace M
theorem insI_rises (x : Int) : ∀ l, l.Pairwise (· ≤ ·) → (insI x l).Pairwise (· ≤ ·)
  | [], _ => by simp [insI]
  | y :: l, h => by
    unfold insI
    rw [List.pairwise_cons] at h
    split
    · rename_i hxy
      rw [List.pairwise_cons, List.pairwise_cons]
      refine ⟨fun z hz => ?_, h⟩
      rcases List.mem_cons.mp hz with rfl | hz
      · exact hxy
      · exact Int.le_trans hxy (h.1 z hz)
    · rename_i hxy
      rw [List.pairwise_cons]
      refine ⟨fun z hz => ?_, insI_rises x l h.2⟩
      rcases List.mem_cons.mp ((insI_perm x l).mem_iff.mp hz) with rfl | hz
      · omega
      · exact h.1 z hz
theorem sortI_rises : ∀ l, (sortI l).Pairwise (· ≤ ·)
  | [] => .nil
  | x :: l => insI_rises x _ (sortI_rises l)
theorem strict_of {l : List Int} (h : l.Pairwise (· ≤ ·)) (n : l.Nodup) : l.Pairwise (· < ·) := by
  have := List.pairwise_and_iff.mpr ⟨h, n⟩
  exact this.imp fun {a b} h => by have := h.1; have := h.2; omega
end M
namespace Law
open M
/-! ### counting -/
def raw (W F : Nat) (t : Nat) : List Int := (List.range W).map fun p => ((t : Int) * (W : Int) + (p : Nat)) % (F : Int)
def rowN (W F : Nat) (t : Nat) : List Int := sortI (raw W F t)
theorem emod_inj {F a b : Int} (hF : 0 < F) (h : a % F = b % F) (h1 : a - b < F) (h2 : b - a < F) : a = b := by
  have e1 := Int.mul_ediv_add_emod a F
  have e2 := Int.mul_ediv_add_emod b F
  have e3 : a - b = F * (a / F - b / F) := by rw [Int.mul_sub]; omega
  by_cases hq : a / F - b / F = 0
  · rw [hq, Int.mul_zero] at e3; omega
  · exfalso
    by_cases hp : 0 < a / F - b / F
    · have : F * 1 ≤ F * (a / F - b / F) := Int.mul_le_mul_of_nonneg_left (by omega) (by omega)
      omega
    · have : F * (a / F - b / F) ≤ F * (-1) := Int.mul_le_mul_of_nonneg_left (by omega) (by omega)
      omega
theorem raw_nodup {W F : Nat} (h : W ≤ F) (t : Nat) : (raw W F t).Nodup := by
  unfold raw
  rw [List.Nodup, List.pairwise_map]
  have := (List.nodup_range (n := W))
  refine List.Pairwise.imp_of_mem ?_ this
  intro a b ha hb hab e
  have ha := List.mem_range.mp ha
  have hb := List.mem_range.mp hb
  have := emod_inj (by omega) e (by omega) (by omega)
  omega
theorem row_strict {W F : Nat} (h : W ≤ F) (t : Nat) : (rowN W F t).Pairwise (· < ·) :=
  strict_of (sortI_rises _) ((sortI_perm _).nodup_iff.mpr (raw_nodup h t))
theorem row_nodup {W F : Nat} (h : W ≤ F) (t : Nat) : (rowN W F t).Nodup := (sortI_perm _).nodup_iff.mpr (raw_nodup h t)
theorem row_length {W F : Nat} (t : Nat) : (rowN W F t).length = W := by
  rw [rowN, (sortI_perm _).length_eq, raw, List.length_map, List.length_range]
theorem row_range {W F : Nat} (h : W ≤ F) (t : Nat) : ∀ x ∈ rowN W F t, 0 ≤ x ∧ x < F := by
  intro x hx
  obtain ⟨p, hp, rfl⟩ := List.mem_map.mp ((sortI_perm _).mem_iff.mp hx)
  have := List.mem_range.mp hp
  exact ⟨Int.emod_nonneg _ (by omega), Int.emod_lt_of_pos _ (by omega)⟩
def cnt (F : Nat) (p : Int) : Nat → Nat
  | 0 => 0
  | n + 1 => cnt F p n + if (n : Int) % (F : Int) = p then 1 else 0
theorem cnt_mono {F : Nat} {p : Int} {a b : Nat} (h : a ≤ b) : cnt F p a ≤ cnt F p b := by
  induction h with
  | refl => exact Nat.le_refl _
  | step h ih => rw [cnt]; omega
theorem cnt_block {F : Nat} {p : Int} (h0 : 0 ≤ p) (U : Nat) : ∀ j : Nat, j ≤ F → cnt F p (F * U + j) = cnt F p (F * U) + if p < (j : Int) then 1 else 0
  | 0, _ => by
    rw [if_neg (by omega)]
    rfl
  | j + 1, h => by
    have ih := cnt_block (F := F) h0 U j (by omega)
    have e : ((F * U + j : Nat) : Int) % (F : Int) = (j : Int) := by
      rw [Int.natCast_add, Int.natCast_mul, Int.add_comm, Int.add_mul_emod_self_left]
      exact Int.emod_eq_of_lt (a := (j : Int)) (b := (F : Int)) (by omega) (by omega)
    rw [show F * U + (j + 1) = (F * U + j) + 1 from rfl, cnt, ih, e]
    split <;> split <;> split <;> omega
theorem cnt_full {F : Nat} {p : Int} (h0 : 0 ≤ p) (h1 : p < F) : ∀ U, cnt F p (F * U) = U
  | 0 => rfl
  | U + 1 => by
    rw [Nat.mul_succ, cnt_block h0 U F (Nat.le_refl _), cnt_full h0 h1 U, if_pos h1]
theorem count_raw {W F : Nat} (p : Int) (t : Nat) : cnt F p (t * W) + (raw W F t).count p = cnt F p ((t + 1) * W) := by
  have go : ∀ n, cnt F p (t * W + n) = cnt F p (t * W) + ((List.range n).map fun q => ((t : Int) * (W : Int) + (q : Nat)) % (F : Int)).count p := by
    intro n
    induction n with
    | zero => simp
    | succ n ih =>
      rw [show t * W + (n + 1) = (t * W + n) + 1 from rfl, cnt, ih, List.range_succ, List.map_append, List.count_append]
      simp only [List.map_cons, List.map_nil, List.count_singleton, beq_iff_eq, Int.natCast_add, Int.natCast_mul]
      omega
  rw [Nat.succ_mul, go W]
  rfl
def rowsN (W F R : Nat) : List (List Int) := (List.range R).map (rowN W F)
theorem count_rows {W F : Nat} (p : Int) : ∀ R, (rowsN W F R).flatten.count p = cnt F p (R * W)
  | 0 => by simp [rowsN, cnt]
  | R + 1 => by
    have ih := count_rows (W := W) (F := F) p R
    unfold rowsN at ih ⊢
    rw [List.range_succ, List.map_append, List.flatten_append, List.count_append, ih, ← count_raw p R]
    simp only [List.map_cons, List.map_nil, List.flatten_cons, List.flatten_nil, List.append_nil]
    rw [rowN, (sortI_perm _).count_eq]
theorem length_rows {W F : Nat} : ∀ R, (rowsN W F R).flatten.length = R * W
  | 0 => by simp [rowsN]
  | R + 1 => by
    have ih := length_rows (W := W) (F := F) R
    unfold rowsN at ih ⊢
    rw [List.range_succ, List.map_append, List.flatten_append, List.length_append, ih, Nat.succ_mul]
    simp [row_length]
theorem used_le {W F R U : Nat} (hp : R * W ≤ F * U) {p : Int} (h0 : 0 ≤ p) (h1 : p < F) : (rowsN W F R).flatten.count p ≤ U := by
  rw [count_rows, ← cnt_full h0 h1 U]
  exact cnt_mono hp
def usedN (rows : List (List Int)) (p : Int) : Nat := (rows.filter fun l => decide (p ∈ l)).length
theorem used_count {p : Int} : ∀ rows : List (List Int), (∀ l ∈ rows, l.Nodup) → usedN rows p = rows.flatten.count p
  | [], _ => rfl
  | l :: rows, h => by
    have ih := used_count (p := p) rows fun x hx => h x (List.mem_cons_of_mem _ hx)
    unfold usedN at ih ⊢
    rw [List.flatten_cons, List.count_append, ← ih, List.filter_cons, (h l List.mem_cons_self).count]
    by_cases hp : p ∈ l <;> simp [hp] <;> omega
def spentN (F : Nat) (L : List Int) : List Int := (List.range F).map fun p : Nat => ((L.count ((p : Nat) : Int) : Nat) : Int)
theorem spent_step {F : Nat} {L : List Int} {x : Nat} (hx : x < F) : spentN F (L ++ [(x : Int)]) = (spentN F L).set x ((L.count (x : Int) : Nat) + 1) := by
  apply List.ext_getElem
  · simp [spentN]
  · intro i h1 h2
    simp only [spentN, List.length_map, List.length_range] at h1
    rw [List.getElem_set]
    simp only [spentN, List.getElem_map, List.getElem_range, List.count_append, List.count_singleton]
    by_cases h : x = i
    · subst h; simp
    · have : ¬ (x : Int) = (i : Int) := by omega
      simp [h, this]
theorem count_sum {F : Nat} : ∀ L : List Int, (∀ x ∈ L, 0 ≤ x ∧ x < F) → ((List.range F).map fun p : Nat => L.count ((p : Nat) : Int)).sum = L.length
  | [], _ => by simp; induction F with
    | zero => rfl
    | succ n ih => simp [List.range_succ, ih]
  | x :: L, h => by
    have ih := count_sum L fun y hy => h y (List.mem_cons_of_mem _ hy)
    obtain ⟨h0, h1⟩ := h x List.mem_cons_self
    obtain ⟨n, rfl⟩ := Int.eq_ofNat_of_zero_le h0
    rw [List.length_cons, ← ih]
    have go : ∀ k, ((List.range k).map fun p : Nat => ((n : Int) :: L).count ((p : Nat) : Int)).sum = ((List.range k).map fun p : Nat => L.count ((p : Nat) : Int)).sum + if n < k then 1 else 0 := by
      intro k
      induction k with
      | zero => simp
      | succ k ih =>
        simp only [List.range_succ, List.map_append, List.sum_append, ih, List.map_cons, List.map_nil, List.sum_cons, List.sum_nil]
        rw [List.count_cons]
        simp only [beq_iff_eq]
        split <;> split <;> split <;> omega
    rw [go F, if_pos (by omega)]
theorem sum_cast : ∀ l : List Nat, (l.map fun n : Nat => (n : Int)).foldl (· + ·) 0 = ((l.sum : Nat) : Int) := by
  intro l
  have go : ∀ (l : List Nat) (a : Int), (l.map fun n : Nat => (n : Int)).foldl (· + ·) a = a + ((l.sum : Nat) : Int) := by
    intro l
    induction l with
    | nil => intro a; simp
    | cons x l ih => intro a; simp only [List.map_cons, List.foldl_cons, ih, List.sum_cons]; omega
  have := go l 0
  rw [Int.zero_add] at this
  exact this
/-! ### the least many -/
def enough (r w u m : Int) : Bool := decide (r = 0 ∨ w ≤ m ∧ r * w ≤ m * u)
theorem enough_iff {r w u m : Int} (hr : 0 ≤ r) (hw : 0 ≤ w) (hu : 1 ≤ u) (hm : 0 ≤ m) : fewest r w u ≤ m ↔ (r = 0 ∨ w ≤ m ∧ r * w ≤ m * u) := by
  unfold fewest
  split
  · rename_i h; simp [h, hm]
  · rename_i h
    simp only [h, false_or]
    rw [Int.max_le]
    refine and_congr Iff.rfl ?_
    have e := Int.mul_ediv_add_emod (r * w + u - 1) u
    have e1 := Int.emod_nonneg (r * w + u - 1) (show u ≠ 0 by omega)
    have e2 := Int.emod_lt_of_pos (r * w + u - 1) (show 0 < u by omega)
    generalize (r * w + u - 1) / u = q at e ⊢
    rw [Int.mul_comm m u]
    constructor
    · intro h
      have : u * q ≤ u * m := Int.mul_le_mul_of_nonneg_left h (by omega)
      omega
    · intro h
      refine Int.not_lt.mp fun hq => ?_
      have : u * (m + 1) ≤ u * q := Int.mul_le_mul_of_nonneg_left (by omega) (by omega)
      rw [Int.mul_add] at this
      omega
theorem fewest_nn {r w u : Int} (hr : 0 ≤ r) (hw : 0 ≤ w) : 0 ≤ fewest r w u := by unfold fewest; split <;> omega
theorem fewest_le {r w u : Int} (hr : 0 ≤ r ∧ r ≤ 30) (hw : 0 ≤ w ∧ w ≤ 9) (hu : 1 ≤ u) : fewest r w u ≤ 270 := by
  rw [enough_iff hr.1 hw.1 hu (by omega)]
  right
  refine ⟨by omega, ?_⟩
  have h1 : r * w ≤ 30 * 9 := Int.mul_le_mul hr.2 hw.2 hw.1 (by omega)
  omega
end Law
namespace M
@[simp] theorem flats_ints (l : List Int) {n} : D.flats n (l.map .int) = true := by
  induction l with
  | nil => simp
  | cons x l ih => simp [ih]
theorem pysIn_ints (p : Int) (l : List Int) : pysIn (.int p) (l.map .int) = decide (p ∈ l) := by
  unfold pysIn
  rw [List.any_map]
  induction l with
  | nil => simp
  | cons x l ih =>
    simp only [List.any_cons, ih, Function.comp_apply, eqv_int, List.mem_cons]
    by_cases h : x = p
    · simp [h]
    · have : ¬ p = x := fun e => h e.symm
      simp [h, this]
theorem bigR_of {i : Int} (h0 : -1000000000 ≤ i) (h1 : i ≤ 1000000000) : bigR i = true := by
  unfold bigR; rw [Bool.and_eq_true, decide_eq_true_eq, decide_eq_true_eq]; omega
theorem small_of {i : Int} (h0 : -1000000000 ≤ i) (h1 : i ≤ 1000000000) : small i = true := small_iff.mpr (by omega)
theorem map_ints {α : Type} (g : α → Int) (l : List α) : (l.map fun x => D.int (g x)) = (l.map g).map D.int := by rw [List.map_map]; rfl
theorem all_true (l : List Bool) (h : ∀ b ∈ l, b = true) : l.all id = true := by simpa using h
end M
namespace Law
open PySem PySem.Spec L2 M
def rowD (W F t : Nat) : D := .tup ((rowN W F t).map .int)
def tupI (l : List Int) : D := .tup (l.map .int)
def schedL (W F R : Nat) : List D := (rowsN W F R).map tupI
theorem sched_range {W F R : Nat} : schedL W F R = (List.range R).map (rowD W F) := by
  unfold schedL rowsN
  rw [List.map_map]
  rfl
theorem body0 {R W U F i p : Nat} (st : Sto) (hF : 0 < F) (hW : W ≤ 9) :
  (eOp2 dMod (eOp2 dAdd (eOp2 dMul (eVar 5) (eVar 1)) (eVar 6)) (eVar 3)) [some (.p (.int (R : Nat))), some (.p (.int (W : Nat))), some (.p (.int (U : Nat))), some (.p (.int (F : Nat))), some (.r 0), some (.p (.int (i : Nat))), some (.p (.int (p : Nat)))] st = .ok (.int (((i : Int) * (W : Nat) + (p : Nat)) % (F : Nat))) st := by
  have hpos : 0 < (F : Int) := by omega
  simp [dMul, dAdd, dMod, small_of (i := (W : Int)) (by omega) (by omega), hpos, hF]
theorem q1 {R W U F i : Nat} (st : Sto) (hF : W ≠ 0 → 0 < F) (hW : W ≤ 9) (p : Nat) (hp : p < W) : ∃ ρ1, gN 6 (D.int (p : Nat)) [some (.p (.int (R : Nat))), some (.p (.int (W : Nat))), some (.p (.int (U : Nat))), some (.p (.int (F : Nat))), some (.r 0), some (.p (.int (i : Nat))), none] = some ρ1 ∧ (eOp2 dMod (eOp2 dAdd (eOp2 dMul (eVar 5) (eVar 1)) (eVar 6)) (eVar 3)) ρ1 st = .ok (D.int (((i : Int) * (W : Nat) + (p : Nat)) % (F : Nat))) st := ⟨_, rfl, body0 st (hF (by omega)) hW⟩
theorem q1' {R W U F i : Nat} (st : Sto) (hF : W ≠ 0 → 0 < F) (hW : W ≤ 9) (p : Nat) (hp : p < W) : ∃ ρ1, gN 6 (D.int (p : Nat)) [some (.p (.int (R : Nat))), some (.p (.int (W : Nat))), some (.p (.int (U : Nat))), some (.p (.int (F : Nat))), some (.r 0), some (.p (.int (i : Nat))), none] = some ρ1 ∧ (eOp2 dMod (eOp2 dAdd (eOp2 dMul (eVar 5) (eVar 1)) (eVar 6)) (eVar 3)) ρ1 st = .ok (D.int (((i : Int) * (W : Nat) + (p : Nat)) % (F : Nat))) st := by
  refine ⟨_, rfl, ?_⟩
  simp only [List.set_cons_succ, List.set_cons_zero]
  exact body0 st (hF (by omega)) hW
theorem q2 {R W U F i : Nat} (st : Sto) (h : ∀ p ∈ List.range W, ∃ ρ1, gN 6 (D.int (p : Nat)) [some (.p (.int (R : Nat))), some (.p (.int (W : Nat))), some (.p (.int (U : Nat))), some (.p (.int (F : Nat))), some (.r 0), some (.p (.int (i : Nat))), none] = some ρ1 ∧ (eOp2 dMod (eOp2 dAdd (eOp2 dMul (eVar 5) (eVar 1)) (eVar 6)) (eVar 3)) ρ1 st = .ok (D.int (((i : Int) * (W : Nat) + (p : Nat)) % (F : Nat))) st) :
   compL (gN 6) eYes (eOp2 dMod (eOp2 dAdd (eOp2 dMul (eVar 5) (eVar 1)) (eVar 6)) (eVar 3)) [some (.p (.int (R : Nat))), some (.p (.int (W : Nat))), some (.p (.int (U : Nat))), some (.p (.int (F : Nat))), some (.r 0), some (.p (.int (i : Nat))), none] ((List.range W).map fun i : Nat => D.int (i : Nat)) st = .ok ((List.range W).map fun p : Nat => D.int (((i : Int) * (W : Nat) + (p : Nat)) % (F : Nat))) st := compL_all (fun i : Nat => D.int (i : Nat)) (fun p : Nat => D.int (((i : Int) * (W : Nat) + (p : Nat)) % (F : Nat))) (List.range W) h
theorem q3 {W F i : Nat} : ((List.range W).map fun p : Nat => D.int (((i : Int) * (W : Nat) + (p : Nat)) % (F : Nat))) = ((raw W F i).map .int) := map_ints (fun p : Nat => ((i : Int) * (W : Nat) + (p : Nat)) % (F : Nat)) _
theorem body1 {R W U F i : Nat} (st : Sto) (hF : W ≠ 0 → 0 < F) (hW : W ≤ 9) :
   compL (gN 6) eYes (eOp2 dMod (eOp2 dAdd (eOp2 dMul (eVar 5) (eVar 1)) (eVar 6)) (eVar 3)) [some (.p (.int (R : Nat))), some (.p (.int (W : Nat))), some (.p (.int (U : Nat))), some (.p (.int (F : Nat))), some (.r 0), some (.p (.int (i : Nat))), none] ((List.range W).map fun i : Nat => D.int (i : Nat)) st = .ok ((raw W F i).map .int) st := by
  rw [← q3]
  exact q2 st fun p hp => q1 st hF hW p (List.mem_range.mp hp)
theorem body2 {R W U F i : Nat} (hF : W ≠ 0 → 0 < F) (hW : W ≤ 9) (hi : i < 30) :
   sMut1 kApp 4 (eOp1 dTuple (eOp1 dSorted (ePure (eComp (iRange1 (eVar 1)) (gN 6) eYes (eOp2 dMod (eOp2 dAdd (eOp2 dMul (eVar 5) (eVar 1)) (eVar 6)) (eVar 3)) [6])))) [some (.p (.int (R : Nat))), some (.p (.int (W : Nat))), some (.p (.int (U : Nat))), some (.p (.int (F : Nat))), some (.r 0), some (.p (.int (i : Nat))), none] [.lst ((List.range i).map (rowD W F))] =
    .next [some (.p (.int (R : Nat))), some (.p (.int (W : Nat))), some (.p (.int (U : Nat))), some (.p (.int (F : Nat))), some (.r 0), some (.p (.int (i : Nat))), none] [.lst ((List.range (i + 1)).map (rowD W F))] := by
  have hlen : W ≤ sizeLine := sz (by omega)
  have hx30 : i < sizeLine := szlt (by omega)
  have hc := body1 (R := R) (U := U) (i := i) [.lst ((List.range i).map (rowD W F))] hF hW
  simp [lstAt, thaw, bigR_of (i := (W : Int)) (by omega) (by omega), rngL0, hlen, hc, wipeE, dSorted, dTuple, kApp, hx30, List.range_succ, rowD, rowN]
theorem schedule_ok {R W U F : Nat} (hR : R ≤ 30) (hW : W ≤ 9) (hU : 1 ≤ U ∧ U ≤ 30) (hF : fewest R W U = (F : Int)) : dn_schedule [.p (.int (R : Nat)), .p (.int (W : Nat)), .p (.int (U : Nat))] [] = .ok (.tup (schedL W F R)) [] := by
  have hf := fewest_ok (r := R) (w := W) (u := U) ⟨by omega, by omega⟩ ⟨by omega, by omega⟩ ⟨by omega, by omega⟩
  rw [hF] at hf
  have hpos : R ≠ 0 → W ≠ 0 → 0 < F := fun h0 h => by
    have := fewest_nn (r := R) (w := W) (u := U) (by omega) (by omega)
    have : fewest R W U ≠ 0 := by unfold fewest; rw [if_neg (by omega)]; omega
    omega
  obtain ⟨ρ', e1, e2⟩ := forL_store (v := 5) (fb := sMut1 kApp 4 (eOp1 dTuple (eOp1 dSorted (ePure (eComp (iRange1 (eVar 1)) (gN 6) eYes (eOp2 dMod (eOp2 dAdd (eOp2 dMul (eVar 5) (eVar 1)) (eVar 6)) (eVar 3)) [6])))))
    (base := [some (.p (.int (R : Nat))), some (.p (.int (W : Nat))), some (.p (.int (U : Nat))), some (.p (.int (F : Nat))), some (.r 0), none, none])
    (fun i : Nat => D.int (i : Nat)) (List.range R) (fun i => [.lst ((List.range i).map (rowD W F))]) (by
      intro i x hx
      obtain ⟨h1, h2⟩ := List.getElem?_eq_some_iff.mp hx
      simp only [List.getElem_range, List.length_range] at h1 h2
      subst h2
      exact body2 (hpos (by omega)) hW (by omega))
  rw [List.length_range] at e2
  have h4 : ρ'[4]? = some (some (.r 0)) := by
    have := congrArg (fun l : M.Env => l[4]?) e1
    simpa using this
  simp only [List.range_zero, List.map_nil] at e2
  unfold dn_schedule
  simp [hf, bigR_of (i := (R : Int)) (by omega) (by omega), rngL0, -sMut1, e2, h4, dTuple, sched_range, thaw]
theorem used_ok {rows : List (List Int)} (p : Int) (h : rows.length ≤ 1000000) : dn_used [.p (.tup (rows.map tupI)), .p (.int p)] [] = .ok (.int (usedN rows p : Nat)) [] := by
  have hc := compL_map (g := gN 2) (ft := eB (eOp2 dIn (eVar 1) (eVar 2))) (fe := eVar 2) (ρ := [some (.p (.tup (rows.map tupI))), some (.p (.int p)), none]) (st := []) tupI (fun l => decide (p ∈ l)) tupI rows (by
    intro l hl
    exact ⟨_, rfl, by simp [tupI, dIn, pysIn_ints], fun _ => by simp⟩)
  simp only [dn_used, dFn, sRet, sOf, eOp1, ePure, eComp, iSeq, eVar, itemsOf]
  simp [wipeE, sz h, hc, dLen, usedN]
end Law
namespace Law
open PySem PySem.Spec L2 M
/-! ### alike -/
theorem alike_int (n : Nat) (a b : Int) : dn__law_alike (n + 1) [.p (.int a), .p (.int b)] [] = .ok (.bl (a == b)) [] := by
  unfold dn__law_alike
  simp [dIs, dEq, D.isNon]
theorem alike_non (n : Nat) : dn__law_alike (n + 1) [.p .non, .p .non] [] = .ok (.bl true) [] := by
  unfold dn__law_alike
  simp [dIs, dEq, D.isNon]
inductive Good : Nat → D → Prop
  | non {n} : Good n .non
  | int {n i} : Good n (.int i)
  | tup {n l} : l.length ≤ 1000000 → (∀ x ∈ l, Good n x) → Good (n + 1) (.tup l)
theorem Good.flat : ∀ {n : Nat} {d : D}, Good n d → D.flat n d = true
  | _, _, .non => by simp
  | _, _, .int => by simp
  | n + 1, .tup l, .tup _ h => by
    rw [flat_tup, flats_all, List.all_eq_true]
    exact fun x hx => Good.flat (h x hx)
theorem atI_nat {α : Type} (l : List α) (i : Nat) (h : i < l.length) : atI l (i : Int) = some l[i] := by
  unfold atI ixN
  rw [if_pos (by omega), if_pos (by omega)]
  simp [h]
theorem alike_refl : ∀ (n : Nat) (d : D), Good n d → dn__law_alike (n + 1) [.p d, .p d] [] = .ok (.bl true) []
  | n, _, .non => alike_non n
  | n, _, .int => by rw [alike_int]; simp
  | n + 1, .tup l, .tup hl h => by
    have hc := compL_map (g := gN 2) (ft := eNot (eB (eCall 2 (dn__law_alike (n + 1)) (eCons (eOp2 dIx (eVar 0) (eVar 2)) (eCons (eOp2 dIx (eVar 1) (eVar 2)) eNil))))) (fe := eVar 2) (ρ := [some (.p (.tup l)), some (.p (.tup l)), none]) (st := []) (fun i : Nat => D.int (i : Nat)) (fun _ => false) (fun i : Nat => D.int (i : Nat)) (List.range l.length) (by
      intro i hi
      have hi := List.mem_range.mp hi
      refine ⟨_, rfl, ?_, by simp⟩
      have ih := alike_refl n l[i] (h _ (List.getElem_mem hi))
      simp [dIx, atI_nat l i hi, ih])
    have hf : (List.range l.length).filter (fun _ => false) = [] := by simp
    rw [hf, List.map_nil] at hc
    unfold dn__law_alike
    simp [dLen, dNe, dEq, bigR_of (i := (l.length : Int)) (by omega) (by omega), rngL0, wipeE, sz hl, hc]
end Law
namespace M
theorem env_set {ρ base : Env} {v : Nat} (h : ρ.set v none = base.set v none) (hv : v < base.length) : ∃ x, ρ = base.set v x := by
  have hl : ρ.length = base.length := by simpa using congrArg List.length h
  refine ⟨ρ[v], List.ext_getElem? fun i => ?_⟩
  by_cases hi : i = v
  · subst hi
    rw [List.getElem?_set_self hv, List.getElem?_eq_getElem]
  · have := congrArg (fun l : List (Option S) => l[i]?) h
    simp only [List.getElem?_set_ne (Ne.symm hi)] at this
    rw [this, List.getElem?_set_ne (Ne.symm hi)]
theorem cutD_tail (xs : List D) : cutD xs (some 1) none = xs.tail := by
  rw [← List.drop_one]
  unfold cutD
  cases xs with
  | nil => simp
  | cons x xs =>
    have h1 : HT.sIx (x :: xs).length 0 (some 1) = 1 := by
      unfold HT.sIx
      simp
      try omega
    have h2 : HT.sIx (x :: xs).length (x :: xs).length none = (x :: xs).length := by unfold HT.sIx; rfl
    rw [h1, h2]
    apply List.take_of_length_le
    simp
theorem zipL_ints : ∀ a b : List Int, zipL (a.map .int) (b.map .int) = (a.zip b).map fun p => D.tup [.int p.1, .int p.2]
  | [], _ => by simp [zipL]
  | _ :: _, [] => by simp [zipL]
  | x :: a, y :: b => by simp [zipL, zipL_ints a b]
theorem zip_tail_lt : ∀ {l : List Int}, l.Pairwise (· < ·) → ∀ p ∈ l.zip (l.drop 1), p.1 < p.2
  | [], _, p, hp => by simp at hp
  | [_], _, p, hp => by simp at hp
  | x :: y :: l, h, p, hp => by
    rw [List.pairwise_cons] at h
    simp only [List.drop_succ_cons, List.drop_zero, List.zip_cons_cons, List.mem_cons] at hp
    rcases hp with rfl | hp
    · exact h.1 y List.mem_cons_self
    · exact zip_tail_lt (l := y :: l) h.2 p (by simpa using hp)
theorem dAll_true {α : Type} (l : List α) : dAll (.lst (l.map fun _ => D.bl true)) = some (.bl true) := by
  unfold dAll
  simp only
  rw [dBools_map2 (fun _ => true)]
  simp
theorem dAll_bl {α : Type} (f : α → Bool) (l : List α) : dAll (.lst (l.map fun x => D.bl (f x))) = some (.bl (l.all f)) := by
  unfold dAll
  simp only
  rw [dBools_map2]
  simp [List.all_map]
end M
namespace Law
open PySem PySem.Spec L2 M
theorem is_row_ok (l : List D) (n : Int) : dn_is_row [.p (.tup l), .p (.int n)] [] = .ok (.bl ((l.length : Int) == n)) [] := by
  simp [dn_is_row, dLen, dEq]
theorem sm30 : small 30 = true := small_of (by omega) (by omega)
theorem is_schedule_ok {R W U F : Nat} (hR : R ≤ 30) (hW : W ≤ 9) (hU : 1 ≤ U ∧ U ≤ 30) (hF : F ≤ 270) (hWF : R ≠ 0 → W ≤ F) (hm : R * W ≤ F * U) :
    dn_is_schedule [.p (.int (R : Nat)), .p (.int (W : Nat)), .p (.int (U : Nat)), .p (.int (F : Nat)), .p (.tup (schedL W F R))] [] = .ok (.bl true) [] := by
  have h0 := require_ok (r := R) (w := W) (u := U) ⟨by omega, by omega⟩ ⟨by omega, by omega⟩ ⟨by omega, by omega⟩
  have hw := is_within_int (F : Int) 0 270
  have hF0 : (F : Int) ≤ 270 := by omega
  have hlen : (rowsN W F R).length = R := by simp [rowsN]
  have hl : (rowsN W F R).length ≤ 1000000 := by omega
  have hrow : ∀ l ∈ rowsN W F R, l.length = W ∧ l.Pairwise (· < ·) ∧ ∀ x ∈ l, 0 ≤ x ∧ x < (F : Int) := by
    intro l hl
    obtain ⟨t, ht, rfl⟩ := List.mem_map.mp hl
    have := List.mem_range.mp ht
    exact ⟨row_length t, row_strict (hWF (by omega)) t, row_range (hWF (by omega)) t⟩
  have hc1 := compL_all (g := gN 5) (fe := eCall 2 dn_is_row (eCons (eVar 5) (eCons (eVar 1) eNil))) (ρ := [some (.p (.int (R : Nat))), some (.p (.int (W : Nat))), some (.p (.int (U : Nat))), some (.p (.int (F : Nat))), some (.p (.tup (schedL W F R))), none, none, none]) (st := []) tupI (fun _ => D.bl true) (rowsN W F R) (by
    intro l hl
    exact ⟨_, rfl, by simp [tupI, is_row_ok, (hrow l hl).1]⟩)
  obtain ⟨ρ', e1, e2⟩ := forL_store (v := 5) (fb := sSeq (sIf (eNot (eB (eOp1 dAll (ePure (eComp (iSeq (eVar 5)) (gN 6) eYes (eAndV (eCall 1 dn_is_whole (eCons (eVar 6) eNil)) (eChain dLe dLt (eC (.int 0)) (eVar 6) (eVar 3))) [6]))))) (sRet (eC (.bl false))) sNil)
  (sIf (eNot (eB (eOp1 dAll (ePure (eComp (iZip (eVar 5) (eCut (eVar 5) (eSo (eC (.int 1))) eNo)) (gT (gsCons (gN 6) (gsCons (gN 7) gsNil)) 2) eYes (eOp2 dLt (eVar 6) (eVar 7)) [6, 7]))))) (sRet (eC (.bl false))) sNil))
    (base := [some (.p (.int (R : Nat))), some (.p (.int (W : Nat))), some (.p (.int (U : Nat))), some (.p (.int (F : Nat))), some (.p (.tup (schedL W F R))), none, none, none]) tupI (rowsN W F R) (fun _ => []) (by
      intro i l hx
      obtain ⟨h1, h2, h3⟩ := hrow l (List.mem_of_getElem? hx)
      have c1 := compL_all (g := gN 6) (fe := eAndV (eCall 1 dn_is_whole (eCons (eVar 6) eNil)) (eChain dLe dLt (eC (.int 0)) (eVar 6) (eVar 3))) (ρ := [some (.p (.int (R : Nat))), some (.p (.int (W : Nat))), some (.p (.int (U : Nat))), some (.p (.int (F : Nat))), some (.p (.tup (schedL W F R))), some (.p (tupI l)), none, none]) (st := []) D.int (fun _ => D.bl true) l (by
        intro x hx
        obtain ⟨a, b⟩ := h3 x hx
        exact ⟨_, rfl, by simp [is_whole_int, dLe, dLt, a, b]⟩)
      have c2 := compL_all (g := gT (gsCons (gN 6) (gsCons (gN 7) gsNil)) 2) (fe := eOp2 dLt (eVar 6) (eVar 7)) (ρ := [some (.p (.int (R : Nat))), some (.p (.int (W : Nat))), some (.p (.int (U : Nat))), some (.p (.int (F : Nat))), some (.p (.tup (schedL W F R))), some (.p (tupI l)), none, none]) (st := []) (fun p : Int × Int => D.tup [.int p.1, .int p.2]) (fun _ => D.bl true) (l.zip (l.drop 1)) (by
        intro p hp
        have := zip_tail_lt h2 p hp
        exact ⟨_, rfl, by simp [dLt, this]⟩)
      rw [← zipL_ints] at c2
      have z1 : l.length ≤ sizeLine := sz (by omega)
      have z2 : (zipL (l.map .int) (l.map D.int).tail).length ≤ sizeLine := sz (by rw [zipL_len]; simp; omega)
      simp [tupI] at c1 c2
      simp [tupI, itemsOf, wipeE, z1, c1, dAll_true, dCut, cutD_tail, z2, c2])
  obtain ⟨x, rfl⟩ := env_set e1 (by simp)
  simp only [List.set_cons_succ, List.set_cons_zero] at e2
  have hc3 := compL_all (g := gN 6) (fe := eOp2 dLe (eCall 2 dn_used (eCons (eVar 4) (eCons (eVar 6) eNil))) (eVar 2)) (ρ := [some (.p (.int (R : Nat))), some (.p (.int (W : Nat))), some (.p (.int (U : Nat))), some (.p (.int (F : Nat))), some (.p (.tup (schedL W F R))), x, none, none]) (st := []) (fun i : Nat => D.int (i : Nat)) (fun _ => D.bl true) (List.range F) (by
    intro p hp
    have hp := List.mem_range.mp hp
    refine ⟨_, rfl, ?_⟩
    have hu := used_ok (rows := rowsN W F R) (p : Int) hl
    have hle : usedN (rowsN W F R) (p : Int) ≤ U := by
      rw [used_count _ fun l hl => ((hrow l hl).2.1).imp fun h => by omega]
      exact used_le hm (by omega) (by omega)
    simp [schedL, hu, dLe, hle])
  have hls : (schedL W F R).length = R := by simp [schedL, hlen]
  have hs0 : R ≤ sizeLine := sz (by omega)
  have hs1 : F ≤ sizeLine := sz (by omega)
  change compL _ _ _ _ (schedL W F R) _ = _ at hc1
  change forL _ _ (schedL W F R) _ _ = _ at e2
  simp [dn_is_schedule, h0, dMul, sm30, hw, hF0, is_row_ok, hls, hs0, itemsOf, wipeE, hc1, dAll_true, e2, bigR_of (i := (F : Int)) (by omega) (by omega), rngL0, hs1, hc3]
end Law
namespace Law
open PySem PySem.Spec L2 M
def usesD (W F R U : Nat) : List D := (List.range F).map fun p : Nat => D.int ((U : Int) - (usedN (rowsN W F R) (p : Nat) : Nat))
theorem uses_left_ok {R W U F : Nat} (hR : R ≤ 30) (hW : W ≤ 9) (hU : 1 ≤ U ∧ U ≤ 30) (hF : fewest R W U = (F : Int)) (hF2 : F ≤ 270) :
    dn_uses_left [.p (.int (R : Nat)), .p (.int (W : Nat)), .p (.int (U : Nat))] [] = .ok (.tup (usesD W F R U)) [] := by
  have hf := fewest_ok (r := R) (w := W) (u := U) ⟨by omega, by omega⟩ ⟨by omega, by omega⟩ ⟨by omega, by omega⟩
  rw [hF] at hf
  have hs := schedule_ok hR hW hU hF
  have hl : (rowsN W F R).length ≤ 1000000 := by simp [rowsN]; omega
  have hc := compL_all (g := gN 4) (fe := eOp2 dSub (eVar 2) (eCall 2 dn_used (eCons (eVar 3) (eCons (eVar 4) eNil)))) (ρ := [some (.p (.int (R : Nat))), some (.p (.int (W : Nat))), some (.p (.int (U : Nat))), some (.p (.tup (schedL W F R))), none]) (st := []) (fun i : Nat => D.int (i : Nat)) (fun p : Nat => D.int ((U : Int) - (usedN (rowsN W F R) (p : Nat) : Nat))) (List.range F) (by
    intro p hp
    refine ⟨_, rfl, ?_⟩
    have hu := used_ok (rows := rowsN W F R) (p : Int) hl
    simp [schedL, hu, dSub])
  have hs1 : F ≤ sizeLine := sz (by omega)
  change _ = Res.ok (usesD W F R U) _ at hc
  simp [dn_uses_left, hs, hf, bigR_of (i := (F : Int)) (by omega) (by omega), rngL0, hs1, wipeE, hc, dTuple]
def lastL (w u m : Int) : List Int := ((List.range 31).filter fun k : Nat => decide ((k : Int) = 0) || (decide (w ≤ m) && decide ((k : Int) * w ≤ m * u))).map fun k : Nat => (k : Int)
theorem lastL_ne (w u m : Int) : ∃ a l, lastL w u m = a :: l := by
  refine ⟨0, ?_⟩
  unfold lastL
  rw [show List.range 31 = 0 :: (List.range 30).map Nat.succ from List.range_succ_eq_map, List.filter_cons]
  simp
theorem bigR31 : bigR 31 = true := bigR_of (by omega) (by omega)
theorem most_rounds_ok {m W U : Nat} (hm : m ≤ 270) (hW : W ≤ 9) (hU : 1 ≤ U ∧ U ≤ 30) {a : Int} {l : List Int} (hl : lastL W U m = a :: l) :
    dn_most_rounds [.p (.int (m : Nat)), .p (.int (W : Nat)), .p (.int (U : Nat))] [] = .ok (.int (maxI a l)) [] := by
  have h0 := require_ok (r := 0) (w := W) (u := U) ⟨by omega, by omega⟩ ⟨by omega, by omega⟩ ⟨by omega, by omega⟩
  have hw := is_within_int (m : Int) 0 270
  have hF0 : (m : Int) ≤ 270 := by omega
  have hc := compL_map (g := gN 3) (ft := eB (eOp2 dLe (eCall 3 dn_fewest (eCons (eVar 3) (eCons (eVar 1) (eCons (eVar 2) eNil)))) (eVar 0))) (fe := eVar 3) (ρ := [some (.p (.int (m : Nat))), some (.p (.int (W : Nat))), some (.p (.int (U : Nat))), none]) (st := []) (fun i : Nat => D.int (i : Nat)) (fun k : Nat => decide ((k : Int) = 0) || (decide ((W : Int) ≤ m) && decide ((k : Int) * W ≤ m * U))) (fun i : Nat => D.int (i : Nat)) (List.range 31) (by
    intro k hk
    have hk := List.mem_range.mp hk
    refine ⟨_, rfl, ?_, by simp⟩
    have hf := fewest_ok (r := k) (w := W) (u := U) ⟨by omega, by omega⟩ ⟨by omega, by omega⟩ ⟨by omega, by omega⟩
    have he := enough_iff (r := k) (w := W) (u := U) (m := m) (by omega) (by omega) (by omega) (by omega)
    have hb : decide (fewest k W U ≤ m) = (decide ((k : Int) = 0) || (decide ((W : Int) ≤ m) && decide ((k : Int) * W ≤ m * U))) := by
      rw [← Bool.decide_and, ← Bool.decide_or]
      exact decide_eq_decide.mpr he
    simp [hf, dLe]
    rw [hb]
    simp)
  have hs1 : 31 ≤ sizeLine := sz (by omega)
  have hn : dInts (((List.range 31).filter fun k : Nat => decide ((k : Int) = 0) || (decide ((W : Int) ≤ m) && decide ((k : Int) * W ≤ m * U))).map fun i : Nat => D.int (i : Nat)) = some (a :: l) := by
    rw [dInts_map2 (fun k : Nat => (k : Int)), ← hl]
    rfl
  generalize (((List.range 31).filter fun k : Nat => decide ((k : Int) = 0) || (decide ((W : Int) ≤ m) && decide ((k : Int) * W ≤ m * U))).map fun i : Nat => D.int (i : Nat)) = ds at hc hn
  simp [dn_most_rounds, h0, dMul, sm30, hw, hF0, dAdd, bigR31, rngL0, hs1, wipeE, hc, dMax, hn]
def needL (r w m : Int) : List Int := ((List.range 30).map fun k : Nat => (1 : Int) + (k : Nat)).filter fun u => decide (r = 0) || (decide (w ≤ m) && decide (r * w ≤ m * u))
def firstD (l : List Int) : D := match l.head? with | some a => .int a | none => .non
theorem needed_ok {R W m : Nat} (hR : R ≤ 30) (hW : W ≤ 9) (hm : m ≤ 270) :
    dn_needed_uses [.p (.int (R : Nat)), .p (.int (W : Nat)), .p (.int (m : Nat))] [] = .ok (firstD (needL R W m)) [] := by
  have h0 := require_ok (r := R) (w := W) (u := 1) ⟨by omega, by omega⟩ ⟨by omega, by omega⟩ ⟨by omega, by omega⟩
  have hw := is_within_int (m : Int) 0 270
  have hF0 : (m : Int) ≤ 270 := by omega
  obtain ⟨ρ', e1, e2⟩ := forL_find (v := 3) (fb := sIf (eB (eOp2 dLe (eCall 3 dn_fewest (eCons (eVar 0) (eCons (eVar 1) (eCons (eVar 3) eNil)))) (eVar 2))) (sRet (eVar 3)) sNil) (base := [some (.p (.int (R : Nat))), some (.p (.int (W : Nat))), some (.p (.int (m : Nat))), none]) (st := []) D.int (fun u : Int => if (decide ((R : Int) = 0) || (decide ((W : Int) ≤ m) && decide ((R : Int) * W ≤ m * u))) = true then some (D.int u) else none) ((List.range 30).map fun k : Nat => (1 : Int) + (k : Nat)) (by
      intro u hu
      obtain ⟨k, hk, rfl⟩ := List.mem_map.mp hu
      have hk := List.mem_range.mp hk
      have hf := fewest_ok (r := R) (w := W) (u := 1 + (k : Nat)) ⟨by omega, by omega⟩ ⟨by omega, by omega⟩ ⟨by omega, by omega⟩
      have he := enough_iff (r := R) (w := W) (u := 1 + (k : Nat)) (m := m) (by omega) (by omega) (by omega) (by omega)
      have hb : decide (fewest R W (1 + (k : Nat)) ≤ m) = (decide ((R : Int) = 0) || (decide ((W : Int) ≤ m) && decide ((R : Int) * W ≤ m * (1 + (k : Nat))))) := by
        rw [← Bool.decide_and, ← Bool.decide_or]
        exact decide_eq_decide.mpr he
      rw [← hb]
      by_cases hq : fewest R W (1 + (k : Nat)) ≤ m <;> simp [hf, dLe, hq]) [some (.p (.int (R : Nat))), some (.p (.int (W : Nat))), some (.p (.int (m : Nat))), none] rfl
  have hr : rngL 1 30 = ((List.range 30).map fun k : Nat => (1 : Int) + (k : Nat)).map D.int := by
    rw [rngL_eq, List.map_map]
    rfl
  have hfs : ∀ l : List Int, l.findSome? (fun u : Int => if (decide ((R : Int) = 0) || (decide ((W : Int) ≤ m) && decide ((R : Int) * W ≤ m * u))) = true then some (D.int u) else none) = ((l.filter fun u => decide ((R : Int) = 0) || (decide ((W : Int) ≤ m) && decide ((R : Int) * W ≤ m * u))).head?).map D.int := by
    intro l
    induction l with
    | nil => rfl
    | cons x l ih =>
      rw [List.findSome?_cons, List.filter_cons]
      split
      · rename_i h; split at h
        · rename_i h2; rw [if_pos h2]; cases h; rfl
        · cases h
      · rename_i h; split at h
        · cases h
        · rename_i h2; rw [if_neg h2]; exact ih
  rw [hfs, ← hr] at e2
  have hneed : needL R W m = ((List.range 30).map fun k : Nat => (1 : Int) + (k : Nat)).filter fun u => decide ((R : Int) = 0) || (decide ((W : Int) ≤ m) && decide ((R : Int) * W ≤ m * u)) := rfl
  rw [← hneed] at e2
  have hb1 : (bigR 1 && bigR 31) = true := by rw [bigR31, bigR_of (i := 1) (by omega) (by omega)]; rfl
  obtain ⟨x, rfl⟩ := env_set e1 (by simp)
  unfold firstD
  cases hh : (needL R W m).head? with
  | none =>
    rw [hh] at e2
    simp only [Option.map_none] at e2
    simp [dn_needed_uses, h0, dMul, sm30, hw, hF0, dAdd, hb1, e2]
  | some a =>
    rw [hh] at e2
    simp only [Option.map_some] at e2
    simp [dn_needed_uses, h0, dMul, sm30, hw, hF0, dAdd, hb1, e2]
end Law
namespace M
theorem at_end (o : O) (rest : Sto) (x : O) : (o :: (rest ++ [x]))[rest.length + 1]? = some x := by simp
theorem set_end (o : O) (rest : Sto) (x y : O) : (o :: (rest ++ [x])).set (rest.length + 1) y = o :: (rest ++ [y]) := by simp
theorem set_end2 (rest : Sto) (x y : O) : (rest ++ [x]).set rest.length y = rest ++ [y] := by simp
theorem sSeq_next {f g : SDen} {ρ ρ' : Env} {st st' : Sto} (h : f ρ st = .next ρ' st') : sSeq f g ρ st = g ρ' st' := by
  unfold sSeq; rw [h]
/-- a for loop that breaks at the first thing that a test finds -/
theorem forL_brk {α : Type} {v : Nat} {fb : SDen} {base ρ2 : Env} {st st2 : Sto} (enc : α → D) (x : α) (post : List α) (hx : fb (base.set v (some (.p (enc x)))) st = .brk ρ2 st2) : ∀ (pre : List α), (∀ y ∈ pre, fb (base.set v (some (.p (enc y)))) st = .next (base.set v (some (.p (enc y)))) st) →
    ∀ ρ : Env, ρ.set v none = base.set v none → forL (gN v) fb ((pre ++ x :: post).map enc) ρ st = .next ρ2 st2
  | [], _, ρ, h => by
    have e : ρ.set v (some (.p (enc x))) = base.set v (some (.p (enc x))) := by
      have := congrArg (fun l : Env => l.set v (some (.p (enc x)))) h
      simpa [List.set_set] using this
    rw [List.nil_append, List.map_cons]
    unfold forL
    simp only [gN, e, hx]
  | y :: pre, hs, ρ, h => by
    have e : ρ.set v (some (.p (enc y))) = base.set v (some (.p (enc y))) := by
      have := congrArg (fun l : Env => l.set v (some (.p (enc y)))) h
      simpa [List.set_set] using this
    rw [List.cons_append, List.map_cons]
    unfold forL
    simp only [gN, e, hs y List.mem_cons_self]
    exact forL_brk enc x post hx pre (fun z hz => hs z (List.mem_cons_of_mem _ hz)) _ (by simp [List.set_set])
theorem range_split {a b : Nat} (h : a < b) : ∃ post, List.range b = List.range a ++ a :: post := by
  obtain ⟨k, rfl⟩ : ∃ k, b = a + (k + 1) := ⟨b - a - 1, by omega⟩
  refine ⟨(List.range k).map fun i => a + (i + 1), ?_⟩
  rw [List.range_add, List.range_succ_eq_map, List.map_cons, List.map_map]
  rfl
end M
namespace Law
open PySem PySem.Spec L2 M
abbrev en (ns : List Int) (x2 x3 x4 x5 x6 x7 x8 x9 x10 x11 x12 x13 x14 : Option S) : M.Env := [some (.p (.scr ns)), some (.r 0), x2, x3, x4, x5, x6, x7, x8, x9, x10, x11, x12, x13, x14]
theorem pick_ok {ns : List Int} {row : List D} {rest : Sto} {ds : List D} (hr : RowOk ns row) (hf : Flat rest) (h0 : 0 < ds.length) (h1 : ds.length ≤ 1000000) :
    ∃ d row', RowOk ns row' ∧ d ∈ ds ∧ dn__law_pick [.r 0, .p (.lst ds)] (.lst row :: rest) = .ok d (.lst row' :: rest) := by
  obtain ⟨v, row', hr', v0, v1, e⟩ := taken (m := ds.length) hr hf (by omega) (by omega)
  obtain ⟨n, rfl⟩ := Int.eq_ofNat_of_zero_le v0
  have hn : n < ds.length := by omega
  refine ⟨ds[n], row', hr', List.getElem_mem hn, ?_⟩
  simp [dn__law_pick, dLen, e, dIx, atI_nat ds n hn, hf.all]
theorem draws {ns : List Int} {row : List D} {rest : Sto} {x2 x3 x4 x5 x6 x7 x8 x9 x10 x11 x12 x13 x14 : Option S} (hr : RowOk ns row) (hf : Flat rest) :
    ∃ (R W U : Nat) (row' : List D), R ≤ 30 ∧ W ≤ 9 ∧ (1 ≤ U ∧ U ≤ 30) ∧ RowOk ns row' ∧
    sPar [10, 11, 12] (aVal (eCallS 2 dn__law_taken (aRef 1 (aVal (eC (.int 31)) aNil))) (aVal (eCallS 2 dn__law_taken (aRef 1 (aVal (eC (.int 10)) aNil))) (aVal (eOp2 dAdd (eC (.int 1)) (eCallS 2 dn__law_taken (aRef 1 (aVal (eCallS 2 dn__law_pick (aRef 1 (aVal (eLst (eCons (eC (.int 5)) (eCons (eC (.int 30)) eNil))) aNil))) aNil)))) aNil))) (en ns x2 x3 x4 x5 x6 x7 x8 x9 x10 x11 x12 x13 x14) (.lst row :: rest) =
      .next (en ns x2 x3 x4 x5 x6 x7 x8 x9 (some (.p (.int (R : Nat)))) (some (.p (.int (W : Nat)))) (some (.p (.int (U : Nat)))) x13 x14) (.lst row' :: rest) := by
  obtain ⟨v1, row1, hr1, a1, b1, e1⟩ := taken (m := 31) hr hf (by omega) (by omega)
  obtain ⟨v2, row2, hr2, a2, b2, e2⟩ := taken (m := 10) hr1 hf (by omega) (by omega)
  obtain ⟨d, row3, hr3, hd, e3⟩ := pick_ok (ds := [.int 5, .int 30]) hr2 hf (by simp) (by simp)
  have hm : ∃ m : Int, d = .int m ∧ 0 < m ∧ m ≤ 30 := by
    rcases List.mem_cons.mp hd with rfl | hd
    · exact ⟨5, rfl, by omega, by omega⟩
    · obtain rfl := List.mem_singleton.mp hd
      exact ⟨30, rfl, by omega, by omega⟩
  obtain ⟨m, rfl, m0, m1⟩ := hm
  obtain ⟨v4, row4, hr4, a4, b4, e4⟩ := taken (m := m) hr3 hf m0 (by omega)
  obtain ⟨R, rfl⟩ := Int.eq_ofNat_of_zero_le a1
  obtain ⟨W, rfl⟩ := Int.eq_ofNat_of_zero_le a2
  obtain ⟨U, rfl⟩ := Int.eq_ofNat_of_zero_le a4
  have h2 : 2 ≤ sizeLine := sz (by omega)
  refine ⟨R, W, 1 + U, row4, by omega, by omega, ⟨by omega, by omega⟩, hr4, ?_⟩
  simp [en, e1, e2, e3, e4, dAdd, setAll, h2]
theorem least_ok {ns : List Int} {R W U F : Nat} {st : Sto} {x2 x4 x5 x6 x7 x8 x9 x13 x14 : Option S} (hR : R ≤ 30) (hW : W ≤ 9) (hU : 1 ≤ U ∧ U ≤ 30) (hF : fewest R W U = (F : Int)) (hF2 : F ≤ 270) :
    sFor (iRange1 (eC (.int 271))) (gN 4) (sIf (eOr (eB (eOp2 dEq (eVar 10) (eC (.int 0)))) (eAnd (eB (eOp2 dGe (eVar 4) (eVar 11))) (eB (eOp2 dGe (eOp2 dMul (eVar 4) (eVar 12)) (eOp2 dMul (eVar 10) (eVar 11)))))) (sSeq (sSet 3 (eVar 4))
  sBreak) sNil) (en ns x2 (some (.p (.int 0))) x4 x5 x6 x7 x8 x9 (some (.p (.int (R : Nat)))) (some (.p (.int (W : Nat)))) (some (.p (.int (U : Nat)))) x13 x14) st =
     .next (en ns x2 (some (.p (.int (F : Nat)))) (some (.p (.int (F : Nat)))) x5 x6 x7 x8 x9 (some (.p (.int (R : Nat)))) (some (.p (.int (W : Nat)))) (some (.p (.int (U : Nat)))) x13 x14) st := by
  obtain ⟨post, hp⟩ := range_split (show F < 271 by omega)
  have he : ∀ m : Nat, ((R : Int) = 0 ∨ (W : Int) ≤ m ∧ (R : Int) * W ≤ m * U) ↔ (F : Int) ≤ m := fun m => by
    rw [← hF]
    exact (enough_iff (by omega) (by omega) (by omega) (by omega)).symm
  have hsR : small (R : Int) = true := small_of (by omega) (by omega)
  have hsU : small (U : Int) = true := small_of (by omega) (by omega)
  have go := forL_brk (v := 4) (fb := (sIf (eOr (eB (eOp2 dEq (eVar 10) (eC (.int 0)))) (eAnd (eB (eOp2 dGe (eVar 4) (eVar 11))) (eB (eOp2 dGe (eOp2 dMul (eVar 4) (eVar 12)) (eOp2 dMul (eVar 10) (eVar 11)))))) (sSeq (sSet 3 (eVar 4))
  sBreak) sNil)) (base := en ns x2 (some (.p (.int 0))) x4 x5 x6 x7 x8 x9 (some (.p (.int (R : Nat)))) (some (.p (.int (W : Nat)))) (some (.p (.int (U : Nat)))) x13 x14) (st := st) (fun i : Nat => D.int (i : Nat)) F post (ρ2 := en ns x2 (some (.p (.int (F : Nat)))) (some (.p (.int (F : Nat)))) x5 x6 x7 x8 x9 (some (.p (.int (R : Nat)))) (some (.p (.int (W : Nat)))) (some (.p (.int (U : Nat)))) x13 x14) (st2 := st) (by
    rcases (he F).mpr (Int.le_refl _) with h | ⟨h1, h2⟩
    · simp [en, dEq, h]
    · by_cases h : (R : Int) = 0
      · simp [en, dEq, h]
      · have h3 : ¬ R = 0 := by omega
        have h4 : W ≤ F := by omega
        simp [en, dEq, h3, dGe, h4, dMul, hsR, hsU, h2]) (List.range F) (fun m hm => by
    have hm := List.mem_range.mp hm
    have hn := mt (he m).mp (by omega)
    have h3 : ¬ R = 0 := fun h => hn (.inl (by omega))
    by_cases h4 : W ≤ m
    · have h5 : ¬ (R : Int) * W ≤ m * U := fun h => hn (.inr ⟨by omega, h⟩)
      simp [en, dEq, h3, dGe, h4, dMul, hsR, hsU, h5]
    · simp [en, dEq, h3, dGe, h4]) _ rfl
  rw [← hp] at go
  have hb : bigR 271 = true := bigR_of (by omega) (by omega)
  simp [hb, rngL0, go]
end Law
namespace Law
open PySem PySem.Spec L2 M
def spL (F : Nat) (L : List Int) : O := .lst ((spentN F L).map .int)
theorem inner_ok {ns : List Int} {R W U F : Nat} {row : List D} {rest : Sto} {pre l : List Int} {x2 x4 x5 x8 x9 x13 x14 : Option S} (hl : ∀ x ∈ l, 0 ≤ x ∧ x < (F : Int)) :
   ∃ x, sFor (iSeq (eVar 7)) (gN 13) (sSeq (sIf (eNot (eB (eChain dLe dLt (eC (.int 0)) (eVar 13) (eVar 3)))) (sRet (eC (.bl false))) sNil)
  (sSetIx 6 (eVar 13) (eOp2 dAdd (eOp2P dIx 6 (eVar 13)) (eC (.int 1))))) (en ns x2 (some (.p (.int (F : Nat)))) x4 x5 (some (.r (rest.length + 1))) (some (.p (tupI l))) x8 x9 (some (.p (.int (R : Nat)))) (some (.p (.int (W : Nat)))) (some (.p (.int (U : Nat)))) x13 x14) (.lst row :: (rest ++ [spL F pre])) =
   .next (en ns x2 (some (.p (.int (F : Nat)))) x4 x5 (some (.r (rest.length + 1))) (some (.p (tupI l))) x8 x9 (some (.p (.int (R : Nat)))) (some (.p (.int (W : Nat)))) (some (.p (.int (U : Nat)))) x x14) (.lst row :: (rest ++ [spL F (pre ++ l)])) := by
  obtain ⟨ρ', e1, e2⟩ := forL_store (v := 13) (fb := (sSeq (sIf (eNot (eB (eChain dLe dLt (eC (.int 0)) (eVar 13) (eVar 3)))) (sRet (eC (.bl false))) sNil)
  (sSetIx 6 (eVar 13) (eOp2 dAdd (eOp2P dIx 6 (eVar 13)) (eC (.int 1)))))) (base := en ns x2 (some (.p (.int (F : Nat)))) x4 x5 (some (.r (rest.length + 1))) (some (.p (tupI l))) x8 x9 (some (.p (.int (R : Nat)))) (some (.p (.int (W : Nat)))) (some (.p (.int (U : Nat)))) x13 x14) D.int l (fun j => .lst row :: (rest ++ [spL F (pre ++ l.take j)])) (by
      intro j x hx
      obtain ⟨h1, h2⟩ := hl x (List.mem_of_getElem? hx)
      obtain ⟨p, rfl⟩ := Int.eq_ofNat_of_zero_le h1
      have hp : p < F := by omega
      have ht : l.take (j + 1) = l.take j ++ [(p : Int)] := by rw [List.take_add_one, hx]; rfl
      have hlen : (spentN F (pre ++ l.take j)).length = F := by simp [spentN]
      have hat : (spentN F (pre ++ l.take j))[p]? = some (((pre ++ l.take j).count (p : Int) : Nat) : Int) := by simp [spentN, hp]
      have hix : ixN F (p : Int) = some p := by unfold ixN; rw [if_pos (by omega), if_pos (by omega)]; rfl
      rw [ht, ← List.append_assoc, spL, spL, spent_step hp, List.map_set]
      simp [en, dLe, dLt, h2, hp, lstAt, thaw, dIx, atI, hlen, hix, hat, dAdd]
      simp [spentN])
  obtain ⟨x, rfl⟩ := env_set e1 (by simp [en])
  refine ⟨x, ?_⟩
  simp only [List.take_zero, List.append_nil, List.take_length] at e2
  simp only [en, List.set_cons_succ, List.set_cons_zero] at e2
  simp [en, tupI, itemsOf]
  exact e2
theorem spent_ok {ns : List Int} {R W U F : Nat} {row : List D} {rest : Sto} {x2 x4 x7 x8 x9 x13 x14 : Option S} (hR : R ≤ 30) (hW : W ≤ 9) (hWF : R ≠ 0 → W ≤ F) (hF2 : F ≤ 270) :
   ∃ x7' x13', sFor (iSeq (eVar 5)) (gN 7) (sSeq (sIf (eOr (eNot (eB (eOp1 (dIsi "tuple") (eVar 7)))) (eOr (eB (eOp2 dNe (eOp1 dLen (eVar 7)) (eVar 11))) (eB (eOp2 dNe (ePure (eComp (iRange1 (eOp2 dSub (eVar 11) (eC (.int 1)))) (gN 14) (eB (eOp2 dGe (eOp2 dIx (eVar 7) (eVar 14)) (eOp2 dIx (eVar 7) (eOp2 dAdd (eVar 14) (eC (.int 1)))))) (eVar 14) [14])) (eLst eNil))))) (sRet (eC (.bl false))) sNil)
  (sFor (iSeq (eVar 7)) (gN 13) (sSeq (sIf (eNot (eB (eChain dLe dLt (eC (.int 0)) (eVar 13) (eVar 3)))) (sRet (eC (.bl false))) sNil)
  (sSetIx 6 (eVar 13) (eOp2 dAdd (eOp2P dIx 6 (eVar 13)) (eC (.int 1))))))) (en ns x2 (some (.p (.int (F : Nat)))) x4 (some (.p (.tup (schedL W F R)))) (some (.r (rest.length + 1))) x7 x8 x9 (some (.p (.int (R : Nat)))) (some (.p (.int (W : Nat)))) (some (.p (.int (U : Nat)))) x13 x14) (.lst row :: (rest ++ [spL F []])) =
   .next (en ns x2 (some (.p (.int (F : Nat)))) x4 (some (.p (.tup (schedL W F R)))) (some (.r (rest.length + 1))) x7' x8 x9 (some (.p (.int (R : Nat)))) (some (.p (.int (W : Nat)))) (some (.p (.int (U : Nat)))) x13' x14) (.lst row :: (rest ++ [spL F (rowsN W F R).flatten])) := by
  obtain ⟨ρ', st', e, ⟨x7', x13', rfl⟩, rfl⟩ := forL_ix (g := gN 7) (fb := (sSeq (sIf (eOr (eNot (eB (eOp1 (dIsi "tuple") (eVar 7)))) (eOr (eB (eOp2 dNe (eOp1 dLen (eVar 7)) (eVar 11))) (eB (eOp2 dNe (ePure (eComp (iRange1 (eOp2 dSub (eVar 11) (eC (.int 1)))) (gN 14) (eB (eOp2 dGe (eOp2 dIx (eVar 7) (eVar 14)) (eOp2 dIx (eVar 7) (eOp2 dAdd (eVar 14) (eC (.int 1)))))) (eVar 14) [14])) (eLst eNil))))) (sRet (eC (.bl false))) sNil)
  (sFor (iSeq (eVar 7)) (gN 13) (sSeq (sIf (eNot (eB (eChain dLe dLt (eC (.int 0)) (eVar 13) (eVar 3)))) (sRet (eC (.bl false))) sNil)
  (sSetIx 6 (eVar 13) (eOp2 dAdd (eOp2P dIx 6 (eVar 13)) (eC (.int 1)))))))) tupI (rowsN W F R) (fun i ρ st => (∃ x7' x13', ρ = en ns x2 (some (.p (.int (F : Nat)))) x4 (some (.p (.tup (schedL W F R)))) (some (.r (rest.length + 1))) x7' x8 x9 (some (.p (.int (R : Nat)))) (some (.p (.int (W : Nat)))) (some (.p (.int (U : Nat)))) x13' x14) ∧ st = .lst row :: (rest ++ [spL F ((rowsN W F R).take i).flatten])) (ρ := en ns x2 (some (.p (.int (F : Nat)))) x4 (some (.p (.tup (schedL W F R)))) (some (.r (rest.length + 1))) x7 x8 x9 (some (.p (.int (R : Nat)))) (some (.p (.int (W : Nat)))) (some (.p (.int (U : Nat)))) x13 x14) (st := .lst row :: (rest ++ [spL F []])) ⟨⟨x7, x13, rfl⟩, rfl⟩ (by
      rintro i l ρ st hx ⟨⟨y7, y13, rfl⟩, rfl⟩
      have hrow : l.length = W ∧ l.Pairwise (· < ·) ∧ ∀ x ∈ l, 0 ≤ x ∧ x < (F : Int) := by
        obtain ⟨t, ht, rfl⟩ := List.mem_map.mp (List.mem_of_getElem? hx)
        have := List.mem_range.mp ht
        exact ⟨row_length t, row_strict (hWF (by omega)) t, row_range (hWF (by omega)) t⟩
      obtain ⟨h1, h2, h3⟩ := hrow
      have ht : ((rowsN W F R).take (i + 1)).flatten = ((rowsN W F R).take i).flatten ++ l := by rw [List.take_add_one, hx, List.flatten_append]; simp
      obtain ⟨x, hin⟩ := inner_ok (ns := ns) (R := R) (W := W) (U := U) (F := F) (row := row) (rest := rest) (pre := ((rowsN W F R).take i).flatten) (l := l) (x2 := x2) (x4 := x4) (x5 := some (.p (.tup (schedL W F R)))) (x8 := x8) (x9 := x9) (x13 := y13) (x14 := x14) h3
      rw [← ht] at hin
      have hc := compL_map (g := gN 14) (ft := eB (eOp2 dGe (eOp2 dIx (eVar 7) (eVar 14)) (eOp2 dIx (eVar 7) (eOp2 dAdd (eVar 14) (eC (.int 1)))))) (fe := eVar 14) (ρ := en ns x2 (some (.p (.int (F : Nat)))) x4 (some (.p (.tup (schedL W F R)))) (some (.r (rest.length + 1))) (some (.p (tupI l))) x8 x9 (some (.p (.int (R : Nat)))) (some (.p (.int (W : Nat)))) (some (.p (.int (U : Nat)))) y13 none) (st := .lst row :: (rest ++ [spL F ((rowsN W F R).take i).flatten])) (fun i : Nat => D.int (i : Nat)) (fun _ => false) (fun i : Nat => D.int (i : Nat)) (List.range (W - 1)) (by
        intro k hk
        have hk := List.mem_range.mp hk
        refine ⟨_, rfl, ?_, by simp⟩
        have a1 := atI_nat (l.map D.int) k (by simp; omega)
        have a2 := atI_nat (l.map D.int) (k + 1) (by simp; omega)
        have hlt := (List.pairwise_iff_getElem.mp h2) k (k + 1) (by omega) (by omega) (by omega)
        rw [Int.natCast_add] at a2
        simp at a1 a2
        simp [en, tupI, dIx, a1, a2, dAdd, dGe, hlt])
      have hf : (List.range (W - 1)).filter (fun _ => false) = [] := by simp
      rw [hf, List.map_nil] at hc
      refine ⟨_, _, _, rfl, .inl ?_, ⟨some (.p (tupI l)), x, rfl⟩, rfl⟩
      have hb : bigR ((W : Int) - 1) = true := bigR_of (by omega) (by omega)
      have hn : ((W : Int) - 1).toNat = W - 1 := by omega
      have hs : W - 1 ≤ sizeLine := sz (by omega)
      have hin : sFor _ _ _ (en ns x2 (some (.p (.int (F : Nat)))) x4 (some (.p (.tup (schedL W F R)))) (some (.r (rest.length + 1))) (some (.p (tupI l))) x8 x9 (some (.p (.int (R : Nat)))) (some (.p (.int (W : Nat)))) (some (.p (.int (U : Nat)))) y13 x14) _ = _ := hin
      simp only [en, List.set_cons_succ, List.set_cons_zero] at hin hc ⊢
      rw [sSeq_next (ρ' := (en ns x2 (some (.p (.int (F : Nat)))) x4 (some (.p (.tup (schedL W F R)))) (some (.r (rest.length + 1))) (some (.p (tupI l))) x8 x9 (some (.p (.int (R : Nat)))) (some (.p (.int (W : Nat)))) (some (.p (.int (U : Nat)))) y13 x14)) (st' := .lst row :: (rest ++ [spL F ((rowsN W F R).take i).flatten]))]
      · exact hin
      · simp [en, tupI, dLen, dNe, h1, dSub, hb, rngL0, hn, hs, wipeE] at hc ⊢
        simp [hc])
  refine ⟨x7', x13', ?_⟩
  rw [List.take_length] at e
  change forL _ _ (schedL W F R) _ _ = _ at e
  simp only [en] at e
  simp [en, itemsOf]
  exact e
end Law
namespace Law
open PySem PySem.Spec L2 M
def frL (F : Nat) (L : List Int) : O := .frz (.lst ((spentN F L).map .int))
theorem spent_le {W F R U : Nat} (hp : R * W ≤ F * U) : ∀ s ∈ spentN F (rowsN W F R).flatten, s ≤ (U : Int) := by
  intro s hs
  obtain ⟨p, hp2, rfl⟩ := List.mem_map.mp hs
  have := List.mem_range.mp hp2
  have := used_le hp (p := (p : Int)) (by omega) (by omega)
  omega
theorem check1_ok {ns : List Int} {R W U F : Nat} {row : List D} {rest : Sto} {x2 x4 x7 x8 x9 x13 x14 : Option M.S} (hR : R ≤ 30) (hW : W ≤ 9) (hU : 1 ≤ U ∧ U ≤ 30) (hF2 : F ≤ 270) (hWF : R ≠ 0 → W ≤ F) (hm : R * W ≤ F * U) :
  sIf (eOr (eB (eOp2 dNe (ePure (eComp (iSeq (eVar 6)) (gN 7) (eB (eOp2 dGt (eVar 7) (eVar 12))) (eVar 7) [7])) (eLst eNil))) (eB (eOp2 dIsNot (eCall 5 dn_is_schedule (eCons (eVar 10) (eCons (eVar 11) (eCons (eVar 12) (eCons (eVar 3) (eCons (eVar 5) eNil)))))) (eC (.bl true))))) (sRet (eC (.bl false))) sNil
   (en ns x2 (some (.p (.int (F : Nat)))) x4 (some (.p (.tup (schedL W F R)))) (some (.r (rest.length + 1))) x7 x8 x9 (some (.p (.int (R : Nat)))) (some (.p (.int (W : Nat)))) (some (.p (.int (U : Nat)))) x13 x14) (.lst row :: (rest ++ [spL F (rowsN W F R).flatten])) =
   .next (en ns x2 (some (.p (.int (F : Nat)))) x4 (some (.p (.tup (schedL W F R)))) (some (.r (rest.length + 1))) x7 x8 x9 (some (.p (.int (R : Nat)))) (some (.p (.int (W : Nat)))) (some (.p (.int (U : Nat)))) x13 x14) (.lst row :: (rest ++ [frL F (rowsN W F R).flatten])) := by
  have his := is_schedule_ok hR hW hU hF2 hWF hm
  have hle := spent_le hm
  have hc := compL_map (g := gN 7) (ft := eB (eOp2 dGt (eVar 7) (eVar 12))) (fe := eVar 7) (ρ := en ns x2 (some (.p (.int (F : Nat)))) x4 (some (.p (.tup (schedL W F R)))) (some (.r (rest.length + 1))) none x8 x9 (some (.p (.int (R : Nat)))) (some (.p (.int (W : Nat)))) (some (.p (.int (U : Nat)))) x13 x14) (st := .lst row :: (rest ++ [frL F (rowsN W F R).flatten])) D.int (fun _ => false) D.int (spentN F (rowsN W F R).flatten) (by
    intro s hs
    have := hle s hs
    refine ⟨_, rfl, ?_, by simp⟩
    have h : ¬ (U : Int) < s := by omega
    simp [en, dGt, h])
  have hf : (spentN F (rowsN W F R).flatten).filter (fun _ => false) = [] := by simp
  rw [hf, List.map_nil] at hc
  have hs : (spentN F (rowsN W F R).flatten).length ≤ sizeLine := sz (by simp [spentN]; omega)
  simp only [spL, frL] at hc ⊢
  simp only [en] at hc
  simp [en, itemsOf, wipeE, hs, hc, dNe, his, dIsNot, thaw]
theorem uses_map {W F R U : Nat} (hWF : R ≠ 0 → W ≤ F) : ((spentN F (rowsN W F R).flatten).map fun s => D.int ((U : Int) - s)) = usesD W F R U := by
  unfold spentN usesD
  rw [List.map_map]
  apply List.map_congr_left
  intro p hp
  have hu := used_count (p := (p : Int)) (rowsN W F R) fun l hl => by
    obtain ⟨t, ht, rfl⟩ := List.mem_map.mp hl
    have := List.mem_range.mp ht
    exact row_nodup (hWF (by omega)) t
  simp only [Function.comp_apply, hu]
theorem sum_sub (U : Int) : ∀ l : List Nat, (l.map fun c : Nat => U - (c : Int)).sum = l.length * U - ((l.sum : Nat) : Int)
  | [] => by simp
  | c :: l => by
    simp only [List.map_cons, List.sum_cons, List.length_cons, sum_sub U l]
    rw [Int.natCast_add, Int.natCast_add, Int.add_mul]
    omega
theorem uses_sum {W F R U : Nat} (hWF : R ≠ 0 → W ≤ F) : dSum (.tup (usesD W F R U)) = some (.int ((F : Int) * U - (R : Int) * W)) := by
  have hu : ∀ p : Nat, usedN (rowsN W F R) (p : Int) = (rowsN W F R).flatten.count (p : Int) := fun p => used_count (p := (p : Int)) (rowsN W F R) fun l hl => by
    obtain ⟨t, ht, rfl⟩ := List.mem_map.mp hl
    have := List.mem_range.mp ht
    exact row_nodup (hWF (by omega)) t
  have hsum := count_sum (F := F) (rowsN W F R).flatten (by
    intro x hx
    obtain ⟨l, hl, hx⟩ := List.mem_flatten.mp hx
    obtain ⟨t, ht, rfl⟩ := List.mem_map.mp hl
    have := List.mem_range.mp ht
    exact row_range (hWF (by omega)) t x hx)
  rw [length_rows] at hsum
  have e : usesD W F R U = ((((List.range F).map fun p : Nat => (rowsN W F R).flatten.count ((p : Nat) : Int)).map fun c : Nat => (U : Int) - (c : Int))).map D.int := by
    unfold usesD
    rw [List.map_map, List.map_map]
    apply List.map_congr_left
    intro p hp
    simp only [Function.comp_apply, hu]
  unfold dSum
  rw [e]
  simp only [dInts_map, Option.map_some]
  rw [sum_sub, hsum]
  simp
theorem check2_ok {ns : List Int} {R W U F : Nat} {row : List D} {rest : Sto} {x2 x4 x7 x8 x9 x13 x14 : Option M.S} (hR : R ≤ 30) (hW : W ≤ 9) (hU : 1 ≤ U ∧ U ≤ 30) (hF : fewest R W U = (F : Int)) (hF2 : F ≤ 270) (hWF : R ≠ 0 → W ≤ F) :
  sIf (eOr (eNot (eB (eCall 2 (dn__law_alike 10) (eCons (eOp1 dSum (eCall 3 dn_uses_left (eCons (eVar 10) (eCons (eVar 11) (eCons (eVar 12) eNil))))) (eCons (eOp2 dSub (eOp2 dMul (eVar 3) (eVar 12)) (eOp2 dMul (eVar 10) (eVar 11))) eNil))))) (eNot (eB (eCall 2 (dn__law_alike 10) (eCons (eCall 3 dn_uses_left (eCons (eVar 10) (eCons (eVar 11) (eCons (eVar 12) eNil)))) (eCons (eOp1 dTuple (ePure (eComp (iSeq (eVar 6)) (gN 7) eYes (eOp2 dSub (eVar 12) (eVar 7)) [7]))) eNil)))))) (sRet (eC (.bl false))) sNil
   (en ns x2 (some (.p (.int (F : Nat)))) x4 (some (.p (.tup (schedL W F R)))) (some (.r (rest.length + 1))) x7 x8 x9 (some (.p (.int (R : Nat)))) (some (.p (.int (W : Nat)))) (some (.p (.int (U : Nat)))) x13 x14) (.lst row :: (rest ++ [frL F (rowsN W F R).flatten])) =
   .next (en ns x2 (some (.p (.int (F : Nat)))) x4 (some (.p (.tup (schedL W F R)))) (some (.r (rest.length + 1))) x7 x8 x9 (some (.p (.int (R : Nat)))) (some (.p (.int (W : Nat)))) (some (.p (.int (U : Nat)))) x13 x14) (.lst row :: (rest ++ [frL F (rowsN W F R).flatten])) := by
  have hul := uses_left_ok hR hW hU hF hF2
  have hc := compL_all (g := gN 7) (fe := eOp2 dSub (eVar 12) (eVar 7)) (ρ := en ns x2 (some (.p (.int (F : Nat)))) x4 (some (.p (.tup (schedL W F R)))) (some (.r (rest.length + 1))) none x8 x9 (some (.p (.int (R : Nat)))) (some (.p (.int (W : Nat)))) (some (.p (.int (U : Nat)))) x13 x14) (st := .lst row :: (rest ++ [frL F (rowsN W F R).flatten])) D.int (fun s => D.int ((U : Int) - s)) (spentN F (rowsN W F R).flatten) (by
    intro s hs
    exact ⟨_, rfl, by simp [en, dSub]⟩)
  rw [uses_map hWF] at hc
  have hs : (spentN F (rowsN W F R).flatten).length ≤ sizeLine := sz (by simp [spentN]; omega)
  have hal := alike_refl 9 (.tup (usesD W F R U)) (.tup (by simp [usesD]; omega) (by
    intro d hd
    obtain ⟨p, hp, rfl⟩ := List.mem_map.mp hd
    exact .int))
  have ha2 := alike_int 9 ((F : Int) * U - (R : Int) * W) ((F : Int) * U - (R : Int) * W)
  rw [beq_self_eq_true] at ha2
  have hsm := uses_sum (U := U) hWF
  have hsF : small (F : Int) = true := small_of (by omega) (by omega)
  have hsR : small (R : Int) = true := small_of (by omega) (by omega)
  simp only [frL] at hc ⊢
  simp only [en] at hc
  simp [en, itemsOf, wipeE, hs, hc, hul, hal, hsm, dMul, hsF, hsR, dSub, ha2, dTuple, thaw]
end Law
namespace Law
open PySem PySem.Spec L2 M
theorem many_ok {ns : List Int} {R W U F : Nat} {row : List D} {rest : Sto} {x2 x4 x5 x6 x7 x8 x9 x13 x14 : Option M.S} (hr : RowOk ns row) (hf : Flat rest) (hF2 : F ≤ 270) :
   ∃ (m : Nat) (row' : List D), m ≤ 270 ∧ RowOk ns row' ∧
   sSet 4 (eCallS 2 dn__law_pick (aRef 1 (aVal (eLst (eCons (eVar 3) (eCons (eCallS 2 dn__law_taken (aRef 1 (aVal (eC (.int 271)) aNil))) (eCons (eOpN dMax2 (eCons (eC (.int 0)) (eCons (eOp2 dSub (eVar 3) (eC (.int 1))) eNil))) eNil)))) aNil)))
    (en ns x2 (some (.p (.int (F : Nat)))) x4 x5 x6 x7 x8 x9 (some (.p (.int (R : Nat)))) (some (.p (.int (W : Nat)))) (some (.p (.int (U : Nat)))) x13 x14) (.lst row :: rest) =
    .next (en ns x2 (some (.p (.int (F : Nat)))) (some (.p (.int (m : Nat)))) x5 x6 x7 x8 x9 (some (.p (.int (R : Nat)))) (some (.p (.int (W : Nat)))) (some (.p (.int (U : Nat)))) x13 x14) (.lst row' :: rest) := by
  obtain ⟨v, row1, hr1, v0, v1, e1⟩ := taken (m := 271) hr hf (by omega) (by omega)
  obtain ⟨d, row2, hr2, hd, e2⟩ := pick_ok (ds := [.int (F : Int), .int v, .int (if (F : Int) - 1 > 0 then (F : Int) - 1 else 0)]) hr1 hf (by simp) (by simp)
  have hm : ∃ m : Nat, d = .int (m : Int) ∧ m ≤ 270 := by
    rcases List.mem_cons.mp hd with rfl | hd
    · exact ⟨F, rfl, hF2⟩
    · rcases List.mem_cons.mp hd with rfl | hd
      · exact ⟨v.toNat, by rw [Int.toNat_of_nonneg v0], by omega⟩
      · obtain rfl := List.mem_singleton.mp hd
        refine ⟨F - 1, ?_, by omega⟩
        congr 1
        split <;> omega
  obtain ⟨m, rfl, hm2⟩ := hm
  have h3 : 3 ≤ sizeLine := sz (by omega)
  refine ⟨m, row2, hm2, hr2, ?_⟩
  simp at e2
  simp [en, e1, dMax2, dSub, h3]
  rw [e2]
theorem last_ok {ns : List Int} {R W U F m : Nat} {st : Sto} {x2 x5 x6 x7 x8 x9 x13 x14 : Option M.S} (hW : W ≤ 9) (hU : 1 ≤ U ∧ U ≤ 30) (hm : m ≤ 270) {a : Int} {l : List Int} (hl : lastL W U m = a :: l) :
   sSet 8 (eOp1 dMax (ePure (eComp (iRange1 (eC (.int 31))) (gN 14) (eOr (eB (eOp2 dEq (eVar 14) (eC (.int 0)))) (eAnd (eB (eOp2 dGe (eVar 4) (eVar 11))) (eB (eOp2 dGe (eOp2 dMul (eVar 4) (eVar 12)) (eOp2 dMul (eVar 14) (eVar 11)))))) (eVar 14) [14])))
    (en ns x2 (some (.p (.int (F : Nat)))) (some (.p (.int (m : Nat)))) x5 x6 x7 x8 x9 (some (.p (.int (R : Nat)))) (some (.p (.int (W : Nat)))) (some (.p (.int (U : Nat)))) x13 x14) st =
    .next (en ns x2 (some (.p (.int (F : Nat)))) (some (.p (.int (m : Nat)))) x5 x6 x7 (some (.p (.int (maxI a l)))) x9 (some (.p (.int (R : Nat)))) (some (.p (.int (W : Nat)))) (some (.p (.int (U : Nat)))) x13 x14) st := by
  have hsm : small (m : Int) = true := small_of (by omega) (by omega)
  have hc := compL_map (g := gN 14) (ft := eOr (eB (eOp2 dEq (eVar 14) (eC (.int 0)))) (eAnd (eB (eOp2 dGe (eVar 4) (eVar 11))) (eB (eOp2 dGe (eOp2 dMul (eVar 4) (eVar 12)) (eOp2 dMul (eVar 14) (eVar 11)))))) (fe := eVar 14) (ρ := en ns x2 (some (.p (.int (F : Nat)))) (some (.p (.int (m : Nat)))) x5 x6 x7 x8 x9 (some (.p (.int (R : Nat)))) (some (.p (.int (W : Nat)))) (some (.p (.int (U : Nat)))) x13 none) (st := st) (fun i : Nat => D.int (i : Nat)) (fun k : Nat => decide ((k : Int) = 0) || (decide ((W : Int) ≤ m) && decide ((k : Int) * W ≤ m * U))) (fun i : Nat => D.int (i : Nat)) (List.range 31) (by
    intro k hk
    have hk := List.mem_range.mp hk
    have hsk : small (k : Int) = true := small_of (by omega) (by omega)
    refine ⟨_, rfl, ?_, by simp [en]⟩
    by_cases h1 : k = 0
    · subst h1; simp [en, dEq]
    · by_cases h2 : W ≤ m
      · simp [en, dEq, h1, dGe, h2, dMul, hsm, hsk]
      · simp [en, dEq, h1, dGe, h2])
  have hs1 : 31 ≤ sizeLine := sz (by omega)
  have hn : dInts (((List.range 31).filter fun k : Nat => decide ((k : Int) = 0) || (decide ((W : Int) ≤ m) && decide ((k : Int) * W ≤ m * U))).map fun i : Nat => D.int (i : Nat)) = some (a :: l) := by
    rw [dInts_map2 (fun k : Nat => (k : Int)), ← hl]
    rfl
  generalize (((List.range 31).filter fun k : Nat => decide ((k : Int) = 0) || (decide ((W : Int) ≤ m) && decide ((k : Int) * W ≤ m * U))).map fun i : Nat => D.int (i : Nat)) = ds at hc hn
  simp only [en] at hc
  simp [en, bigR31, rngL0, hs1, wipeE, hc, dMax, hn]
theorem hneed2 : (bigR 1 && bigR 31) = true := by rw [bigR31, bigR_of (i := 1) (by omega) (by omega)]; rfl
theorem need_list (R W m : Nat) : rngL 1 30 = ((List.range 30).map fun k : Nat => (1 : Int) + (k : Nat)).map D.int := by
  rw [rngL_eq, List.map_map]
  rfl
theorem need_ok {ns : List Int} {R W U F m : Nat} {st : Sto} {x2 x5 x6 x7 x8 x9 x13 x14 : Option M.S} (hR : R ≤ 30) (hm : m ≤ 270) :
   sSet 9 (ePure (eComp (iRange2 (eC (.int 1)) (eC (.int 31))) (gN 14) (eOr (eB (eOp2 dEq (eVar 10) (eC (.int 0)))) (eAnd (eB (eOp2 dGe (eVar 4) (eVar 11))) (eB (eOp2 dGe (eOp2 dMul (eVar 4) (eVar 14)) (eOp2 dMul (eVar 10) (eVar 11)))))) (eVar 14) [14]))
    (en ns x2 (some (.p (.int (F : Nat)))) (some (.p (.int (m : Nat)))) x5 x6 x7 x8 x9 (some (.p (.int (R : Nat)))) (some (.p (.int (W : Nat)))) (some (.p (.int (U : Nat)))) x13 x14) st =
    .next (en ns x2 (some (.p (.int (F : Nat)))) (some (.p (.int (m : Nat)))) x5 x6 x7 x8 (some (.p (.lst ((needL R W m).map .int)))) (some (.p (.int (R : Nat)))) (some (.p (.int (W : Nat)))) (some (.p (.int (U : Nat)))) x13 x14) st := by
  have hsm : small (m : Int) = true := small_of (by omega) (by omega)
  have hsR : small (R : Int) = true := small_of (by omega) (by omega)
  have hc := compL_map (g := gN 14) (ft := eOr (eB (eOp2 dEq (eVar 10) (eC (.int 0)))) (eAnd (eB (eOp2 dGe (eVar 4) (eVar 11))) (eB (eOp2 dGe (eOp2 dMul (eVar 4) (eVar 14)) (eOp2 dMul (eVar 10) (eVar 11)))))) (fe := eVar 14) (ρ := en ns x2 (some (.p (.int (F : Nat)))) (some (.p (.int (m : Nat)))) x5 x6 x7 x8 x9 (some (.p (.int (R : Nat)))) (some (.p (.int (W : Nat)))) (some (.p (.int (U : Nat)))) x13 none) (st := st) D.int (fun u : Int => decide ((R : Int) = 0) || (decide ((W : Int) ≤ m) && decide ((R : Int) * W ≤ m * u))) D.int ((List.range 30).map fun k : Nat => (1 : Int) + (k : Nat)) (by
    intro u hu
    refine ⟨_, rfl, ?_, by simp [en]⟩
    by_cases h1 : R = 0
    · subst h1; simp [en, dEq]
    · by_cases h2 : W ≤ m
      · simp [en, dEq, h1, dGe, h2, dMul, hsm, hsR]
      · simp [en, dEq, h1, dGe, h2])
  rw [← need_list R W m] at hc
  change _ = Res.ok ((needL R W m).map D.int) _ at hc
  have hs1 : 30 ≤ sizeLine := sz (by omega)
  have hl30 : (rngL 1 30).length = 30 := rngL_len 30 1
  simp only [en] at hc
  simp [en, hneed2, wipeE, hl30, hs1, hc, thaw]
theorem maxI_mem (a : Int) : ∀ l : List Int, maxI a l = a ∨ maxI a l ∈ l := fun l => (maxI_ge l a).2.2
theorem check3_ok {ns : List Int} {R W U F m : Nat} {st : Sto} {x2 x5 x6 x7 x13 x14 : Option M.S} (hR : R ≤ 30) (hW : W ≤ 9) (hU : 1 ≤ U ∧ U ≤ 30) (hm : m ≤ 270) {a : Int} {l : List Int} (hl : lastL W U m = a :: l) :
   sIf (eNot (eB (eCall 2 (dn__law_alike 10) (eCons (eTup (eCons (eCall 3 dn_most_rounds (eCons (eVar 4) (eCons (eVar 11) (eCons (eVar 12) eNil)))) (eCons (eCall 3 dn_needed_uses (eCons (eVar 10) (eCons (eVar 11) (eCons (eVar 4) eNil)))) eNil))) (eCons (eTup (eCons (eVar 8) (eCons (eIf (eB (eOp2 dNe (eVar 9) (eLst eNil))) (eOp2 dIx (eVar 9) (eC (.int 0))) (eC .non)) eNil))) eNil))))) (sRet (eC (.bl false))) sNil
    (en ns x2 (some (.p (.int (F : Nat)))) (some (.p (.int (m : Nat)))) x5 x6 x7 (some (.p (.int (maxI a l)))) (some (.p (.lst ((needL R W m).map .int)))) (some (.p (.int (R : Nat)))) (some (.p (.int (W : Nat)))) (some (.p (.int (U : Nat)))) x13 x14) st =
    .next (en ns x2 (some (.p (.int (F : Nat)))) (some (.p (.int (m : Nat)))) x5 x6 x7 (some (.p (.int (maxI a l)))) (some (.p (.lst ((needL R W m).map .int)))) (some (.p (.int (R : Nat)))) (some (.p (.int (W : Nat)))) (some (.p (.int (U : Nat)))) x13 x14) st := by
  have h1 := most_rounds_ok hm hW hU hl
  have h2 := needed_ok hR hW hm
  have hal := alike_refl 9 (.tup [.int (maxI a l), firstD (needL R W m)]) (.tup (by simp) (by
    intro d hd
    rcases List.mem_cons.mp hd with rfl | hd
    · exact .int
    · obtain rfl := List.mem_singleton.mp hd
      unfold firstD
      split
      · exact .int
      · exact .non))
  have hs2 : 2 ≤ sizeLine := sz (by omega)
  cases hh : needL R W m with
  | nil =>
    rw [hh] at h2 hal
    simp only [firstD, List.head?_nil] at h2 hal
    simp [en, h1, h2, hs2, dNe, hal]
  | cons b t =>
    rw [hh] at h2 hal
    simp only [firstD, List.head?_cons] at h2 hal
    simp [en, h1, h2, hs2, dNe, dIx, atI, ixN, hal]
theorem turn_ok {ns : List Int} {row : List D} {rest : Sto} {x2 x3 x4 x5 x6 x7 x8 x9 x10 x11 x12 x13 x14 : Option M.S} (hr : RowOk ns row) (hf : Flat rest) :
    ∃ x3' x4' x5' x6' x7' x8' x9' x10' x11' x12' x13' x14' row' rest', RowOk ns row' ∧ Flat rest' ∧
    (sSeq (sPar [10, 11, 12] (aVal (eCallS 2 dn__law_taken (aRef 1 (aVal (eC (.int 31)) aNil))) (aVal (eCallS 2 dn__law_taken (aRef 1 (aVal (eC (.int 10)) aNil))) (aVal (eOp2 dAdd (eC (.int 1)) (eCallS 2 dn__law_taken (aRef 1 (aVal (eCallS 2 dn__law_pick (aRef 1 (aVal (eLst (eCons (eC (.int 5)) (eCons (eC (.int 30)) eNil))) aNil))) aNil)))) aNil))))
  (sSeq (sSet 3 (eC (.int 0)))
  (sSeq (sFor (iRange1 (eC (.int 271))) (gN 4) (sIf (eOr (eB (eOp2 dEq (eVar 10) (eC (.int 0)))) (eAnd (eB (eOp2 dGe (eVar 4) (eVar 11))) (eB (eOp2 dGe (eOp2 dMul (eVar 4) (eVar 12)) (eOp2 dMul (eVar 10) (eVar 11)))))) (sSeq (sSet 3 (eVar 4))
  sBreak) sNil))
  (sSeq (sSet 5 (eCall 3 dn_schedule (eCons (eVar 10) (eCons (eVar 11) (eCons (eVar 12) eNil)))))
  (sSeq (sIf (eOr (eNot (eB (eCall 2 (dn__law_alike 10) (eCons (eCall 3 dn_fewest (eCons (eVar 10) (eCons (eVar 11) (eCons (eVar 12) eNil)))) (eCons (eVar 3) eNil))))) (eOr (eNot (eB (eOp1 (dIsi "tuple") (eVar 5)))) (eB (eOp2 dNe (eOp1 dLen (eVar 5)) (eVar 10))))) (sRet (eC (.bl false))) sNil)
  (sSeq (sNew 6 (nRep (eLst (eCons (eC (.int 0)) eNil)) (eVar 3)))
  (sSeq (sFor (iSeq (eVar 5)) (gN 7) (sSeq (sIf (eOr (eNot (eB (eOp1 (dIsi "tuple") (eVar 7)))) (eOr (eB (eOp2 dNe (eOp1 dLen (eVar 7)) (eVar 11))) (eB (eOp2 dNe (ePure (eComp (iRange1 (eOp2 dSub (eVar 11) (eC (.int 1)))) (gN 14) (eB (eOp2 dGe (eOp2 dIx (eVar 7) (eVar 14)) (eOp2 dIx (eVar 7) (eOp2 dAdd (eVar 14) (eC (.int 1)))))) (eVar 14) [14])) (eLst eNil))))) (sRet (eC (.bl false))) sNil)
  (sFor (iSeq (eVar 7)) (gN 13) (sSeq (sIf (eNot (eB (eChain dLe dLt (eC (.int 0)) (eVar 13) (eVar 3)))) (sRet (eC (.bl false))) sNil)
  (sSetIx 6 (eVar 13) (eOp2 dAdd (eOp2P dIx 6 (eVar 13)) (eC (.int 1))))))))
  (sSeq (sIf (eOr (eB (eOp2 dNe (ePure (eComp (iSeq (eVar 6)) (gN 7) (eB (eOp2 dGt (eVar 7) (eVar 12))) (eVar 7) [7])) (eLst eNil))) (eB (eOp2 dIsNot (eCall 5 dn_is_schedule (eCons (eVar 10) (eCons (eVar 11) (eCons (eVar 12) (eCons (eVar 3) (eCons (eVar 5) eNil)))))) (eC (.bl true))))) (sRet (eC (.bl false))) sNil)
  (sSeq (sIf (eOr (eNot (eB (eCall 2 (dn__law_alike 10) (eCons (eOp1 dSum (eCall 3 dn_uses_left (eCons (eVar 10) (eCons (eVar 11) (eCons (eVar 12) eNil))))) (eCons (eOp2 dSub (eOp2 dMul (eVar 3) (eVar 12)) (eOp2 dMul (eVar 10) (eVar 11))) eNil))))) (eNot (eB (eCall 2 (dn__law_alike 10) (eCons (eCall 3 dn_uses_left (eCons (eVar 10) (eCons (eVar 11) (eCons (eVar 12) eNil)))) (eCons (eOp1 dTuple (ePure (eComp (iSeq (eVar 6)) (gN 7) eYes (eOp2 dSub (eVar 12) (eVar 7)) [7]))) eNil)))))) (sRet (eC (.bl false))) sNil)
  (sSeq (sSet 4 (eCallS 2 dn__law_pick (aRef 1 (aVal (eLst (eCons (eVar 3) (eCons (eCallS 2 dn__law_taken (aRef 1 (aVal (eC (.int 271)) aNil))) (eCons (eOpN dMax2 (eCons (eC (.int 0)) (eCons (eOp2 dSub (eVar 3) (eC (.int 1))) eNil))) eNil)))) aNil))))
  (sSeq (sSet 8 (eOp1 dMax (ePure (eComp (iRange1 (eC (.int 31))) (gN 14) (eOr (eB (eOp2 dEq (eVar 14) (eC (.int 0)))) (eAnd (eB (eOp2 dGe (eVar 4) (eVar 11))) (eB (eOp2 dGe (eOp2 dMul (eVar 4) (eVar 12)) (eOp2 dMul (eVar 14) (eVar 11)))))) (eVar 14) [14]))))
  (sSeq (sSet 9 (ePure (eComp (iRange2 (eC (.int 1)) (eC (.int 31))) (gN 14) (eOr (eB (eOp2 dEq (eVar 10) (eC (.int 0)))) (eAnd (eB (eOp2 dGe (eVar 4) (eVar 11))) (eB (eOp2 dGe (eOp2 dMul (eVar 4) (eVar 14)) (eOp2 dMul (eVar 10) (eVar 11)))))) (eVar 14) [14])))
  (sIf (eNot (eB (eCall 2 (dn__law_alike 10) (eCons (eTup (eCons (eCall 3 dn_most_rounds (eCons (eVar 4) (eCons (eVar 11) (eCons (eVar 12) eNil)))) (eCons (eCall 3 dn_needed_uses (eCons (eVar 10) (eCons (eVar 11) (eCons (eVar 4) eNil)))) eNil))) (eCons (eTup (eCons (eVar 8) (eCons (eIf (eB (eOp2 dNe (eVar 9) (eLst eNil))) (eOp2 dIx (eVar 9) (eC (.int 0))) (eC .non)) eNil))) eNil))))) (sRet (eC (.bl false))) sNil))))))))))))) (en ns x2 x3 x4 x5 x6 x7 x8 x9 x10 x11 x12 x13 x14) (.lst row :: rest) =
    .next (en ns x2 x3' x4' x5' x6' x7' x8' x9' x10' x11' x12' x13' x14') (.lst row' :: rest') := by
  obtain ⟨R, W, U, row1, hR, hW, hU, hr1, e1⟩ := draws (x2 := x2) (x3 := x3) (x4 := x4) (x5 := x5) (x6 := x6) (x7 := x7) (x8 := x8) (x9 := x9) (x10 := x10) (x11 := x11) (x12 := x12) (x13 := x13) (x14 := x14) hr hf
  have hFn := fewest_nn (r := R) (w := W) (u := U) (by omega) (by omega)
  obtain ⟨F, hF⟩ := Int.eq_ofNat_of_zero_le hFn
  have hF2 : F ≤ 270 := by
    have := fewest_le (r := R) (w := W) (u := U) ⟨by omega, by omega⟩ ⟨by omega, by omega⟩ (by omega)
    omega
  have hen := (enough_iff (r := R) (w := W) (u := U) (m := F) (by omega) (by omega) (by omega) (by omega)).mp (by omega)
  have hWF : R ≠ 0 → W ≤ F := fun h => by rcases hen with h | ⟨h, _⟩ <;> omega
  have hRW : R * W ≤ F * U := by
    rcases hen with h | ⟨_, h⟩
    · have : R = 0 := by omega
      subst this
      simp
    · exact_mod_cast h
  have hfe := fewest_ok (r := R) (w := W) (u := U) ⟨by omega, by omega⟩ ⟨by omega, by omega⟩ ⟨by omega, by omega⟩
  rw [hF] at hfe
  have hsch := schedule_ok hR hW hU hF
  have hal := alike_int 9 F F
  rw [beq_self_eq_true] at hal
  have hls : (schedL W F R).length = R := by simp [schedL, rowsN]
  obtain ⟨x7', x13', e7⟩ := spent_ok (ns := ns) (R := R) (W := W) (U := U) (F := F) (row := row1) (rest := rest) (x2 := x2) (x4 := some (.p (.int (F : Nat)))) (x7 := x7) (x8 := x8) (x9 := x9) (x13 := x13) (x14 := x14) hR hW hWF hF2
  have e8 := check1_ok (ns := ns) (R := R) (W := W) (U := U) (F := F) (row := row1) (rest := rest) (x2 := x2) (x4 := some (.p (.int (F : Nat)))) (x7 := x7') (x8 := x8) (x9 := x9) (x13 := x13') (x14 := x14) hR hW hU hF2 hWF hRW
  have e9 := check2_ok (ns := ns) (R := R) (W := W) (U := U) (F := F) (row := row1) (rest := rest) (x2 := x2) (x4 := some (.p (.int (F : Nat)))) (x7 := x7') (x8 := x8) (x9 := x9) (x13 := x13') (x14 := x14) hR hW hU hF hF2 hWF
  have hf2 : Flat (rest ++ [frL F (rowsN W F R).flatten]) := by
    intro o ho
    rcases List.mem_append.mp ho with ho | ho
    · exact hf o ho
    · obtain rfl := List.mem_singleton.mp ho
      intro c fs h
      cases h
  obtain ⟨m, row2, hm, hr2, e10⟩ := many_ok (ns := ns) (R := R) (W := W) (U := U) (F := F) (row := row1) (rest := rest ++ [frL F (rowsN W F R).flatten]) (x2 := x2) (x4 := some (.p (.int (F : Nat)))) (x5 := some (.p (.tup (schedL W F R)))) (x6 := some (.r (rest.length + 1))) (x7 := x7') (x8 := x8) (x9 := x9) (x13 := x13') (x14 := x14) hr1 hf2 hF2
  obtain ⟨a, l, hl⟩ := lastL_ne W U m
  have e11 := last_ok (ns := ns) (R := R) (F := F) (st := .lst row2 :: (rest ++ [frL F (rowsN W F R).flatten])) (x2 := x2) (x5 := some (.p (.tup (schedL W F R)))) (x6 := some (.r (rest.length + 1))) (x7 := x7') (x8 := x8) (x9 := x9) (x13 := x13') (x14 := x14) hW hU hm hl
  have e12 := need_ok (ns := ns) (R := R) (W := W) (U := U) (F := F) (st := .lst row2 :: (rest ++ [frL F (rowsN W F R).flatten])) (x2 := x2) (x5 := some (.p (.tup (schedL W F R)))) (x6 := some (.r (rest.length + 1))) (x7 := x7') (x8 := some (.p (.int (maxI a l)))) (x9 := x9) (x13 := x13') (x14 := x14) hR hm
  have e13 := check3_ok (ns := ns) (R := R) (F := F) (st := .lst row2 :: (rest ++ [frL F (rowsN W F R).flatten])) (x2 := x2) (x5 := some (.p (.tup (schedL W F R)))) (x6 := some (.r (rest.length + 1))) (x7 := x7') (x13 := x13') (x14 := x14) hR hW hU hm hl
  refine ⟨some (.p (.int (F : Nat))), some (.p (.int (m : Nat))), some (.p (.tup (schedL W F R))), some (.r (rest.length + 1)), x7', some (.p (.int (maxI a l))), some (.p (.lst ((needL R W m).map .int))), some (.p (.int (R : Nat))), some (.p (.int (W : Nat))), some (.p (.int (U : Nat))), x13', x14, row2, rest ++ [frL F (rowsN W F R).flatten], hr2, hf2, ?_⟩
  rw [sSeq_next e1]
  rw [sSeq_next (ρ' := en ns x2 (some (.p (.int 0))) x4 x5 x6 x7 x8 x9 (some (.p (.int (R : Nat)))) (some (.p (.int (W : Nat)))) (some (.p (.int (U : Nat)))) x13 x14) (st' := .lst row1 :: rest) (by simp [en])]
  rw [sSeq_next (least_ok hR hW hU hF hF2)]
  rw [sSeq_next (ρ' := en ns x2 (some (.p (.int (F : Nat)))) (some (.p (.int (F : Nat)))) (some (.p (.tup (schedL W F R)))) x6 x7 x8 x9 (some (.p (.int (R : Nat)))) (some (.p (.int (W : Nat)))) (some (.p (.int (U : Nat)))) x13 x14) (st' := .lst row1 :: rest) (by simp [en, hsch])]
  rw [sSeq_next (ρ' := en ns x2 (some (.p (.int (F : Nat)))) (some (.p (.int (F : Nat)))) (some (.p (.tup (schedL W F R)))) x6 x7 x8 x9 (some (.p (.int (R : Nat)))) (some (.p (.int (W : Nat)))) (some (.p (.int (U : Nat)))) x13 x14) (st' := .lst row1 :: rest) (by simp [en, hfe, hal, dLen, dNe, hls])]
  rw [sSeq_next (ρ' := en ns x2 (some (.p (.int (F : Nat)))) (some (.p (.int (F : Nat)))) (some (.p (.tup (schedL W F R)))) (some (.r (rest.length + 1))) x7 x8 x9 (some (.p (.int (R : Nat)))) (some (.p (.int (W : Nat)))) (some (.p (.int (U : Nat)))) x13 x14) (st' := .lst row1 :: (rest ++ [spL F []])) (by
    have h1 : 1 ≤ sizeLine := sz (by omega)
    have h2 : F ≤ sizeLine := sz (by omega)
    have h3 : (F : Int) < 4611686018427387904 := by omega
    have h4 : -4611686018427387904 < (F : Int) := by omega
    have h5 : (List.replicate F [D.int 0]).flatten = (spentN F []).map D.int := by
      unfold spentN
      rw [List.map_map]
      clear hF hF2 hen hWF hRW hfe hsch hal hls e7 e8 e9 hf2 e10 e11 e12 e13 h2 h3 h4
      induction F with
      | zero => rfl
      | succ n ih => rw [List.replicate_succ', List.flatten_append, ih, List.range_succ, List.map_append]; simp
    simp [en, repO, h1, h2, h3, h4, h5, spL])]
  rw [sSeq_next e7, sSeq_next e8, sSeq_next e9, sSeq_next e10, sSeq_next e11, sSeq_next e12, e13]
theorem main (ns : List Int) (hl : ns.length ≤ 63) : dn_law [.p (.scr ns)] [] = .ok (.bl true) [] := by
  have h4 : 4 ≤ sizeLine := sz (by omega)
  have hb : bigR 6 = true := bigR_of (by omega) (by omega)
  obtain ⟨ρ', st', e, ⟨y2, y3, y4, y5, y6, y7, y8, y9, y10, y11, y12, y13, y14, rfl⟩, row, rest, hr, hf, rfl⟩ := forL_ix (g := gN 2) (fb := (sSeq (sPar [10, 11, 12] (aVal (eCallS 2 dn__law_taken (aRef 1 (aVal (eC (.int 31)) aNil))) (aVal (eCallS 2 dn__law_taken (aRef 1 (aVal (eC (.int 10)) aNil))) (aVal (eOp2 dAdd (eC (.int 1)) (eCallS 2 dn__law_taken (aRef 1 (aVal (eCallS 2 dn__law_pick (aRef 1 (aVal (eLst (eCons (eC (.int 5)) (eCons (eC (.int 30)) eNil))) aNil))) aNil)))) aNil))))
  (sSeq (sSet 3 (eC (.int 0)))
  (sSeq (sFor (iRange1 (eC (.int 271))) (gN 4) (sIf (eOr (eB (eOp2 dEq (eVar 10) (eC (.int 0)))) (eAnd (eB (eOp2 dGe (eVar 4) (eVar 11))) (eB (eOp2 dGe (eOp2 dMul (eVar 4) (eVar 12)) (eOp2 dMul (eVar 10) (eVar 11)))))) (sSeq (sSet 3 (eVar 4))
  sBreak) sNil))
  (sSeq (sSet 5 (eCall 3 dn_schedule (eCons (eVar 10) (eCons (eVar 11) (eCons (eVar 12) eNil)))))
  (sSeq (sIf (eOr (eNot (eB (eCall 2 (dn__law_alike 10) (eCons (eCall 3 dn_fewest (eCons (eVar 10) (eCons (eVar 11) (eCons (eVar 12) eNil)))) (eCons (eVar 3) eNil))))) (eOr (eNot (eB (eOp1 (dIsi "tuple") (eVar 5)))) (eB (eOp2 dNe (eOp1 dLen (eVar 5)) (eVar 10))))) (sRet (eC (.bl false))) sNil)
  (sSeq (sNew 6 (nRep (eLst (eCons (eC (.int 0)) eNil)) (eVar 3)))
  (sSeq (sFor (iSeq (eVar 5)) (gN 7) (sSeq (sIf (eOr (eNot (eB (eOp1 (dIsi "tuple") (eVar 7)))) (eOr (eB (eOp2 dNe (eOp1 dLen (eVar 7)) (eVar 11))) (eB (eOp2 dNe (ePure (eComp (iRange1 (eOp2 dSub (eVar 11) (eC (.int 1)))) (gN 14) (eB (eOp2 dGe (eOp2 dIx (eVar 7) (eVar 14)) (eOp2 dIx (eVar 7) (eOp2 dAdd (eVar 14) (eC (.int 1)))))) (eVar 14) [14])) (eLst eNil))))) (sRet (eC (.bl false))) sNil)
  (sFor (iSeq (eVar 7)) (gN 13) (sSeq (sIf (eNot (eB (eChain dLe dLt (eC (.int 0)) (eVar 13) (eVar 3)))) (sRet (eC (.bl false))) sNil)
  (sSetIx 6 (eVar 13) (eOp2 dAdd (eOp2P dIx 6 (eVar 13)) (eC (.int 1))))))))
  (sSeq (sIf (eOr (eB (eOp2 dNe (ePure (eComp (iSeq (eVar 6)) (gN 7) (eB (eOp2 dGt (eVar 7) (eVar 12))) (eVar 7) [7])) (eLst eNil))) (eB (eOp2 dIsNot (eCall 5 dn_is_schedule (eCons (eVar 10) (eCons (eVar 11) (eCons (eVar 12) (eCons (eVar 3) (eCons (eVar 5) eNil)))))) (eC (.bl true))))) (sRet (eC (.bl false))) sNil)
  (sSeq (sIf (eOr (eNot (eB (eCall 2 (dn__law_alike 10) (eCons (eOp1 dSum (eCall 3 dn_uses_left (eCons (eVar 10) (eCons (eVar 11) (eCons (eVar 12) eNil))))) (eCons (eOp2 dSub (eOp2 dMul (eVar 3) (eVar 12)) (eOp2 dMul (eVar 10) (eVar 11))) eNil))))) (eNot (eB (eCall 2 (dn__law_alike 10) (eCons (eCall 3 dn_uses_left (eCons (eVar 10) (eCons (eVar 11) (eCons (eVar 12) eNil)))) (eCons (eOp1 dTuple (ePure (eComp (iSeq (eVar 6)) (gN 7) eYes (eOp2 dSub (eVar 12) (eVar 7)) [7]))) eNil)))))) (sRet (eC (.bl false))) sNil)
  (sSeq (sSet 4 (eCallS 2 dn__law_pick (aRef 1 (aVal (eLst (eCons (eVar 3) (eCons (eCallS 2 dn__law_taken (aRef 1 (aVal (eC (.int 271)) aNil))) (eCons (eOpN dMax2 (eCons (eC (.int 0)) (eCons (eOp2 dSub (eVar 3) (eC (.int 1))) eNil))) eNil)))) aNil))))
  (sSeq (sSet 8 (eOp1 dMax (ePure (eComp (iRange1 (eC (.int 31))) (gN 14) (eOr (eB (eOp2 dEq (eVar 14) (eC (.int 0)))) (eAnd (eB (eOp2 dGe (eVar 4) (eVar 11))) (eB (eOp2 dGe (eOp2 dMul (eVar 4) (eVar 12)) (eOp2 dMul (eVar 14) (eVar 11)))))) (eVar 14) [14]))))
  (sSeq (sSet 9 (ePure (eComp (iRange2 (eC (.int 1)) (eC (.int 31))) (gN 14) (eOr (eB (eOp2 dEq (eVar 10) (eC (.int 0)))) (eAnd (eB (eOp2 dGe (eVar 4) (eVar 11))) (eB (eOp2 dGe (eOp2 dMul (eVar 4) (eVar 14)) (eOp2 dMul (eVar 10) (eVar 11)))))) (eVar 14) [14])))
  (sIf (eNot (eB (eCall 2 (dn__law_alike 10) (eCons (eTup (eCons (eCall 3 dn_most_rounds (eCons (eVar 4) (eCons (eVar 11) (eCons (eVar 12) eNil)))) (eCons (eCall 3 dn_needed_uses (eCons (eVar 10) (eCons (eVar 11) (eCons (eVar 4) eNil)))) eNil))) (eCons (eTup (eCons (eVar 8) (eCons (eIf (eB (eOp2 dNe (eVar 9) (eLst eNil))) (eOp2 dIx (eVar 9) (eC (.int 0))) (eC .non)) eNil))) eNil))))) (sRet (eC (.bl false))) sNil)))))))))))))) (fun i : Nat => D.int (i : Nat)) (List.range 6) (fun _ ρ st => (∃ x2 x3 x4 x5 x6 x7 x8 x9 x10 x11 x12 x13 x14, ρ = en ns x2 x3 x4 x5 x6 x7 x8 x9 x10 x11 x12 x13 x14) ∧ ∃ row rest, RowOk ns row ∧ Flat rest ∧ st = .lst row :: rest)
    (ρ := en ns none none none none none none none none none none none none none) (st := [.lst [.scr ns, .int 0, .int 5191, .int 0]])
    ⟨⟨_, _, _, _, _, _, _, _, _, _, _, _, _, rfl⟩, _, [], ⟨0, 5191, 0, rfl, by omega, by omega, by omega, by omega⟩, (fun o ho => by cases ho), rfl⟩ (by
      rintro i x ρ st hx ⟨⟨y2, y3, y4, y5, y6, y7, y8, y9, y10, y11, y12, y13, y14, rfl⟩, row, rest, hr, hf, rfl⟩
      obtain ⟨z3, z4, z5, z6, z7, z8, z9, z10, z11, z12, z13, z14, row', rest', hr', hf', e⟩ := turn_ok (x2 := some (.p (.int (x : Nat)))) (x3 := y3) (x4 := y4) (x5 := y5) (x6 := y6) (x7 := y7) (x8 := y8) (x9 := y9) (x10 := y10) (x11 := y11) (x12 := y12) (x13 := y13) (x14 := y14) hr hf
      exact ⟨_, _, _, rfl, .inl e, ⟨_, _, _, _, _, _, _, _, _, _, _, _, _, rfl⟩, _, _, hr', hf', rfl⟩)
  simp only [en] at e
  simp [dn_law, h4, hb, rngL0, e]
end Law
open PySem PySem.W PyProof.Rows
set_option maxRecDepth 100000 in
set_option maxHeartbeats 0 in
theorem PySem.Challenge.cw_craterounds_k19_whole_wear_holds : PySem.Challenge.rw_craterounds_k19_whole_wear.Holds := by
  w_on; o_law; k_head; (case hw => w_witness2)
  k_fill
  refine Law.walk (l := PySem.Challenge.rw_craterounds_k19_whole_wear) Law.main rfl rfl (fun w h Y => PySem.W.kIn_of Y) ?F
  case F =>
    intro w mg fa h KX G hmg
    refine' Law.all_mk KX G hmg ?z_all ?z_bool ?z_int ?z_isinstance ?z_len ?z_list ?z_max ?z_range ?z_sorted ?z_str ?z_sum ?z_tuple ?z_zip ?q_MOST_ROUNDS ?q_MOST_USES ?q_MOST_WANTED ?a_is_whole ?l_is_whole ?c_is_whole ?k_is_whole ?a_is_within ?l_is_within ?c_is_within ?k_is_within ?a_require_wear ?l_require_wear ?c_require_wear ?k_require_wear ?a_fewest ?l_fewest ?c_fewest ?k_fewest ?a_schedule ?l_schedule ?c_schedule ?k_schedule ?a__law_taken ?l__law_taken ?c__law_taken ?k__law_taken ?a__law_pick ?l__law_pick ?c__law_pick ?k__law_pick ?a__law_alike ?l__law_alike ?c__law_alike ?k__law_alike ?a_is_row ?l_is_row ?c_is_row ?k_is_row ?a_used ?l_used ?c_used ?k_used ?a_is_schedule ?l_is_schedule ?c_is_schedule ?k_is_schedule ?a_uses_left ?l_uses_left ?c_uses_left ?k_uses_left ?a_most_rounds ?l_most_rounds ?c_most_rounds ?k_most_rounds ?a_needed_uses ?l_needed_uses ?c_needed_uses ?k_needed_uses ?a_law ?l_law ?c_law ?k_law
    (case z_all => k_is)
    (case z_bool => k_is)
    (case z_int => k_is)
    (case z_isinstance => k_is)
    (case z_len => k_is)
    (case z_list => k_is)
    (case z_max => k_is)
    (case z_range => k_is)
    (case z_sorted => k_is)
    (case z_str => k_is)
    (case z_sum => k_is)
    (case z_tuple => k_is)
    (case z_zip => k_is)
    (case q_MOST_ROUNDS => k_is)
    (case q_MOST_USES => k_is)
    (case q_MOST_WANTED => k_is)
    (case a_is_whole => k_is)
    (case l_is_whole => k_is)
    (case c_is_whole => k_is)
    (case k_is_whole => k_is)
    (case a_is_within => k_is)
    (case l_is_within => k_is)
    (case c_is_within => k_is)
    (case k_is_within => k_is)
    (case a_require_wear => k_is)
    (case l_require_wear => k_is)
    (case c_require_wear => k_is)
    (case k_require_wear => k_is)
    (case a_fewest => k_is)
    (case l_fewest => k_is)
    (case c_fewest => k_is)
    (case k_fewest => k_is)
    (case a_schedule => k_is)
    (case l_schedule => k_is)
    (case c_schedule => k_is)
    (case k_schedule => k_is)
    (case a__law_taken => k_is)
    (case l__law_taken => k_is)
    (case c__law_taken => k_is)
    (case k__law_taken => k_is)
    (case a__law_pick => k_is)
    (case l__law_pick => k_is)
    (case c__law_pick => k_is)
    (case k__law_pick => k_is)
    (case a__law_alike => k_is)
    (case l__law_alike => k_is)
    (case c__law_alike => k_is)
    (case k__law_alike => k_is)
    (case a_is_row => k_is)
    (case l_is_row => k_is)
    (case c_is_row => k_is)
    (case k_is_row => k_is)
    (case a_used => k_is)
    (case l_used => k_is)
    (case c_used => k_is)
    (case k_used => k_is)
    (case a_is_schedule => k_is)
    (case l_is_schedule => k_is)
    (case c_is_schedule => k_is)
    (case k_is_schedule => k_is)
    (case a_uses_left => k_is)
    (case l_uses_left => k_is)
    (case c_uses_left => k_is)
    (case k_uses_left => k_is)
    (case a_most_rounds => k_is)
    (case l_most_rounds => k_is)
    (case c_most_rounds => k_is)
    (case k_most_rounds => k_is)
    (case a_needed_uses => k_is)
    (case l_needed_uses => k_is)
    (case c_needed_uses => k_is)
    (case k_needed_uses => k_is)
    (case a_law => k_is)
    (case l_law => k_is)
    (case c_law => k_is)
    (case k_law => k_is)
